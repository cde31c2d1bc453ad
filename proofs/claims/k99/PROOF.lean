import PyProof.Rows.All
import Wide.All
import OpenK.AllK
import Wide.FinOn
import HandS.ForMost
import HandS.Exc
import HandS.ExcInit
import HandS.Codes
import HandS.Style
import HandS.Conv
import HandS.TupMul
import HandS.CallLocal
import HandS.Zip
import HandS.Small
import HandS.Deep
import HandS.TupAny
import HandS.IsInst
import HandS.Replace
import HandS.WordsDict
import HandS.RaiseMore
import HandS.CallSlots
import KE.GoesRaise
import HandS.ExcField
import HandS.Defaults
import HandS.CallRecv
import KE.KExcInit
import KE.KExcIs
import KE.KExcMore
import HandS.MakeKw
import HandS.MakeKwOnly
import HandS.Head0
import HandS.Head1
import HandS.Head2
import HandS.HeadEnd
import HandS.HeadHook1
import HandS.HeadHook2
import HandS.Words
import PySem.Challenge.RW_playedalike_k99_errors_by_hand
set_option Elab.async false
set_option linter.all false
set_option maxRecDepth 100000
section
/-! A small pure evaluator over plain data, for the subset of Python in which the program is written. -/
namespace EV
open PySem

/-- data: plain values, frozen lists, mutable objects by their number in the store, functions of the text -/
inductive D where
  | non
  | bl (b : Bool)
  | int (i : Int)
  | str (x : List Nat)
  | tup (ds : List D)
  | lst (ds : List D)
  /-- a tuple that is a constant of the text -/
  | ktup (ds : List D)
  | obj (k : Nat)
  | fn (f : Nat)
  | exn (c : Nat) (d : D)
  /-- an exception as a value: its class, its field, its message, the field's value -/
  | exv (c : Nat) (f : Str) (m : List Nat) (d : D)

instance : Inhabited D := ⟨.non⟩

inductive O where
  | lst (ds : List D)
  | dK (kvs : List (L2.Key × D))
  | dT (kvs : List (List L2.Key × D))

abbrev Store := List O
abbrev Env := List (Option D)

inductive R (α : Type) where
  | ok (a : α) (L : Store)
  | exc (c : Nat) (d : D) (L : Store)
  | bad

@[reducible] def M (α : Type) := Store → R α
def R.bind {α β : Type} (r : R α) (f : α → M β) : R β := match r with
  | .ok a L => f a L
  | .exc c d L => .exc c d L
  | .bad => .bad
def M.bind {α β : Type} (m : M α) (f : α → M β) : M β := fun L => (m L).bind f
def M.pure {α : Type} (a : α) : M α := fun L => .ok a L
instance : Monad M where
  pure := M.pure
  bind := M.bind
def bad {α : Type} : M α := fun _ => .bad
def ofOpt {α : Type} : Option α → M α
  | some a => M.pure a
  | none => bad
def guardM (b : Bool) : M Unit := if b then M.pure () else bad

/-! ### pure looks at data -/
mutual
/-- no object within -/
def D.pure : D → Bool
  | .obj _ => false
  | .tup ds => purAll ds
  | .lst ds => purAll ds
  | .ktup ds => purAll ds
  | .exn _ _ => false
  | .exv _ _ _ d => d.pure
  | _ => true
def purAll : List D → Bool
  | [] => true
  | d :: ds => d.pure && purAll ds
end

mutual
/-- as the library's plain data: no objects, no functions -/
def D.py : D → PyData
  | .non => .none
  | .bl b => .bool b
  | .int i => .int i
  | .str x => .str (SX.S x)
  | .tup ds => .tuple (pyAll ds)
  | .lst ds => .list (pyAll ds)
  | .ktup ds => .tuple (pyAll ds)
  | _ => .none
def pyAll : List D → List PyData
  | [] => []
  | d :: ds => d.py :: pyAll ds
end
mutual
/-- == -/
def D.eqv : D → D → Bool
  | .non, .non => true
  | .bl a, .bl b => a == b
  | .bl a, .int j => (if a then 1 else 0) == j
  | .int i, .bl b => i == (if b then 1 else 0)
  | .int i, .int j => i == j
  | .str a, .str b => a == b
  | .tup xs, .tup ys => eqvAll xs ys
  | .lst xs, .lst ys => eqvAll xs ys
  | .ktup xs, .tup ys => eqvAll xs ys
  | .tup xs, .ktup ys => eqvAll xs ys
  | .ktup xs, .ktup ys => eqvAll xs ys
  | _, _ => false
def eqvAll : List D → List D → Bool
  | [], [] => true
  | x :: xs, y :: ys => x.eqv y && eqvAll xs ys
  | _, _ => false
end
mutual
/-- plain data of at most this depth -/
def D.shp : Nat → D → Bool
  | _, .non => true
  | _, .bl _ => true
  | _, .int _ => true
  | _, .str _ => true
  | n + 1, .tup ds => shpAll n ds
  | n + 1, .lst ds => shpAll n ds
  | n + 1, .ktup ds => shpAll n ds
  | _, _ => false
def shpAll : Nat → List D → Bool
  | _, [] => true
  | n, d :: ds => d.shp n && shpAll n ds
end

/-- the items of a list, frozen or an object -/
def listOf (L : Store) : D → Option (List D)
  | .lst ds => some ds
  | .obj k => match L[k]? with
    | some (.lst ds) => some ds
    | _ => none
  | _ => none
/-- of a list or a tuple -/
def seqOf (L : Store) : D → Option (List D)
  | .tup ds => some ds
  | .ktup ds => some ds
  | d => listOf L d

def keyOf : D → Option L2.Key
  | .int i => some (.inl i)
  | .str x => some (.inr (SX.S x))
  | _ => none
def keysOf : List D → Option (List L2.Key)
  | [] => some []
  | d :: ds => match keyOf d, keysOf ds with
    | some k, some r => some (k :: r)
    | _, _ => none
/-- the signs of a text -/
def signs (x : List Nat) : List D := x.map fun c => .str [c]

/-! ### the syntax -/
inductive Bin where | add | sub | mul | fdiv | mod | pow
  deriving DecidableEq
inductive Cmp where | eq | ne | lt | le | gt | ge | isin | notin
  deriving DecidableEq
inductive Ty where | int | str | bool | tuple | list
  deriving DecidableEq
/-- built-in functions and types, called by name -/
inductive Bi where | len | tuple | all | any | sum | str | int
  deriving DecidableEq
/-- methods of built-in types -/
inductive Me where | split | join | index | append | count | startswith | endswith
  deriving DecidableEq

mutual
inductive E where
  | slot (i : Nat)
  | cst (d : D)
  | glob (d : D)
  | fnv (f : Nat)
  | bin (o : Bin) (a b : E)
  | neg (a : E)
  | not (a : E)
  | cmp (o : Cmp) (a b : E)
  | chain (o1 o2 : Cmp) (a b c : E)
  | isN (a : E)
  | notN (a : E)
  | and (a b : E)
  | or (a b : E)
  | ife (t a b : E)
  | tup (es : Es)
  | frz (f : F)
  | mut (f : F)
  | call (f : Nat) (es : Es)
  | callk (f : Nat) (es : Es)
  | callv (i n : Nat) (es : Es)
  | bi (b : Bi) (es : Es)
  | meth (m : Me) (o : E) (es : Es)
  | ix (a b : E)
  | dget (a b : E)
  | sl (a : E) (lo hi : Oe)
  | isi (a : E) (t : Ty)
  | dnew (kt : Bool) (kvs : Kvs)
  | xfld (i c : Nat)
  /-- C(e), C(f = e), C() -/
  | mkx (c : Nat) (f : Str) (m : List Nat) (kw : Bool) (e : E)
  | mk0 (c : Nat) (f : Str) (m : List Nat)
  /-- isinstance(e, x): each class's answer -/
  | isx (x : Str) (ks : List Bool) (e : E)
  | xfl (n : Nat) (f : Str) (e : E)
  | strx (n : Nat) (e : E)
  | tupr (a : E)
inductive Es where
  | nil
  | cons (e : E) (r : Es)
inductive Oe where
  | none
  | some (e : E)
inductive Kvs where
  | nil
  | cons (k v : E) (r : Kvs)
/-- lists that are made anew -/
inductive F where
  | disp (es : Es)
  | lc (n : Bool) (elt : E) (tg : Tg) (it : It) (t : Oe) (own : List Nat)
  | sl (a : E) (lo hi : Oe)
  | rev (a : E)
  | cat (a b : E)
  | lis (a : E)
/-- what is walked -/
inductive It where
  | val (e : E)
  | range1 (a : E)
  | range2 (a b : E)
  | enum (e : E)
  | zip (a b : E)
/-- targets -/
inductive Tg where
  | name (i : Nat)
  | tup (ts : Tgs)
inductive Tgs where
  | nil
  | cons (t : Tg) (r : Tgs)
end

mutual
inductive S where
  | set (i : Nat) (e : E)
  | par (is : List Nat) (es : Es)
  | asg (t : Tg) (e : E)
  | setIx (o i e : E)
  | setK (o i e : E)
  | aug (i : Nat) (o : Bin) (e : E)
  | ex (e : E)
  | ife (t : E) (a b : Ss)
  | for_ (t : Tg) (it : It) (b : Ss)
  | while_ (t : E) (b : Ss)
  | ret (e : E)
  | retN
  | raise (c : Nat) (e : E)
  | try_ (b : Ss) (hs : Hs)
  | pass
  | brk
  | cont
inductive Ss where
  | nil
  | cons (s : S) (r : Ss)
/-- except C as n: s -/
inductive Hs where
  | nil
  | cons (n c : Nat) (i : Option Nat) (s : Ss) (r : Hs)
end
end EV
end

section
namespace EV
open PySem

def big : Nat := 16777216

/-! ### operators by values -/
def cmul (i j : Int) : Bool := (decide (-(2 ^ 64) < i) && decide (i < 2 ^ 64)) || (decide (-(2 ^ 64) < j) && decide (j < 2 ^ 64))
/-- a op b -/
def binV (L : Store) (o : Bin) (x y : D) : Option D :=
  match o, x, y with
  | .add, .int i, .int j => some (.int (i + j))
  | .add, .str a, .str b => if a.length + b.length ≤ big then some (.str (a ++ b)) else none
  | .add, .tup a, .tup b => if a.length + b.length ≤ big then some (.tup (a ++ b)) else none
  | .sub, .int i, .int j => some (.int (i - j))
  | .mul, .int i, .int j => if cmul i j then some (.int (i * j)) else none
  | .mul, .tup a, .int k => if a ≠ [] ∧ 2 ≤ k ∧ k ≤ 1000 ∧ a.length ≤ 1000 then some (.tup (List.replicate k.toNat a).flatten) else none
  | .mul, .str a, .int k => if 0 ≤ k ∧ k < 2 ^ 63 ∧ a.length * k.toNat ≤ big then some (.str (List.replicate k.toNat a).flatten) else none
  | .fdiv, .int i, .int j => if 0 < j ∧ j < 1073741824 then some (.int (i / j)) else none
  | .mod, .int i, .int j => if 0 < j then some (.int (i % j)) else none
  | .pow, .int i, .int j => if 0 ≤ j ∧ (j ≤ 1000000 ∧ i.natAbs < 2 ^ 64 ∨ j ≤ 8000 ∧ i.natAbs < 2 ^ 16384) then some (.int (i ^ j.toNat)) else none
  | .add, x, y => match listOf L x, listOf L y with
    | some a, some b => if a.length + b.length ≤ big then some (.lst (a ++ b)) else none
    | _, _ => none
  | .mul, x, .int k => match listOf L x with
    | some a => if 0 ≤ k ∧ k < 2 ^ 63 ∧ a.length * k.toNat ≤ big then some (.lst (List.replicate k.toNat a).flatten) else none
    | none => none
  | _, _, _ => none

/-- a look through an object's list -/
def derf (L : Store) : D → D
  | .obj k => match L[k]? with
    | some (.lst ds) => .lst ds
    | _ => .obj k
  | d => d
/-- == of data -/
def eqV (L : Store) (x y : D) : Option Bool :=
  match x, y with
  | .int i, .int j => some (decide (i = j))
  | .str a, .str b => some (decide (a = b))
  | .bl a, .bl b => some (decide (a = b))
  | x, y => if (derf L x).shp 64 && (derf L y).shp 64 then some ((derf L x).eqv (derf L y)) else none
/-- flat values: x in a list -/
def flat : D → Bool
  | .int _ => true
  | .str _ => true
  | .bl _ => true
  | .non => true
  | _ => false
def valK {κ : Type} [DecidableEq κ] : List (κ × D) → κ → Option D
  | [], _ => none
  | (k, d) :: r, x => if k = x then some d else valK r x
def putK {κ : Type} [DecidableEq κ] (kvs : List (κ × D)) (x : κ) (v : D) : List (κ × D) :=
  if (valK kvs x).isSome then kvs.map fun p => if p.1 = x then (p.1, v) else p else kvs ++ [(x, v)]
/-- d.get(k) of a dict that is an object -/
def dictGet (L : Store) (x k : D) : Option (Option D) :=
  match x with
  | .obj n => match L[n]?, k with
    | some (.dK kvs), k => match keyOf k with
      | some q => some (valK kvs q)
      | none => none
    | some (.dT kvs), .tup ds => match keysOf ds with
      | some q => some (valK kvs q)
      | none => none
    | _, _ => none
  | _ => none
def inV (L : Store) (x y : D) : Option Bool :=
  match y with
  | .str b => match x with
    | .str [c] => some (decide (c ∈ b))
    | .str a => some (!(Builtin.Str.occurrences (SX.S b) (SX.S a) 0 (SX.S b).length 1).isEmpty)
    | _ => none
  | y => match seqOf L y with
    | some ds => if flat x && ds.all flat then some (ds.any fun d => d.eqv x) else match y with
      | .tup _ => none
      | .ktup _ => none
      | _ => if x.shp 64 && shpAll 63 ds then some (ds.any fun d => d.eqv x) else none
    | none => match dictGet L y x with
      | some o => some o.isSome
      | none => none
def lexI : List Int → List Int → Bool := HT.lexLt
def intsOf : List D → Option (List Int)
  | [] => some []
  | .int i :: r => match intsOf r with
    | some l => some (i :: l)
    | none => none
  | _ :: _ => none
def cmpV (L : Store) (o : Cmp) (x y : D) : Option Bool :=
  match o with
  | .eq => eqV L x y
  | .ne => match eqV L x y with
    | some b => some (!b)
    | none => none
  | .isin => inV L x y
  | .notin => match inV L x y with
    | some b => some (!b)
    | none => none
  | .lt => match x, y with
    | .int i, .int j => some (decide (i < j))
    | .str a, .str b => some (decide (a < b))
    | .tup a, .tup b => match intsOf a, intsOf b with
      | some a, some b => some (lexI a b)
      | _, _ => none
    | _, _ => none
  | .le => match x, y with
    | .int i, .int j => some (decide (i ≤ j))
    | _, _ => none
  | .gt => match x, y with
    | .int i, .int j => some (decide (j < i))
    | _, _ => none
  | .ge => match x, y with
    | .int i, .int j => some (decide (j ≤ i))
    | _, _ => none
/-- truth -/
def truV (L : Store) (x : D) : Option Bool :=
  match x with
  | .bl b => some b
  | _ => none
/-- o[i] -/
def ixV (L : Store) (x i : D) : Option D :=
  match x, i with
  | .str a, .int i => if a.length ≤ big then match L2.atI a i with
    | some c => some (.str [c])
    | none => none else none
  | x, .int i => match seqOf L x with
    | some ds => L2.atI ds i
    | none => none
  | _, _ => none
def cutL {α : Type} (xs : List α) (lo hi : Option Int) : List α := (xs.drop (HT.sIx xs.length 0 lo)).take (HT.sIx xs.length xs.length hi - HT.sIx xs.length 0 lo)
/-- o[lo:hi] -/
def slV (L : Store) (x : D) (lo hi : Option Int) : Option D :=
  match x with
  | .str a => if a.length ≤ big then some (.str (cutL a lo hi)) else none
  | .tup ds => some (.tup (cutL ds lo hi))
  | x => match listOf L x with
    | some ds => some (.lst (cutL ds lo hi))
    | none => none
def isiV (t : Ty) (L : Store) (x : D) : Option Bool :=
  match x with
  | .non => some false
  | .bl _ => some (t == .bool || t == .int)
  | .int _ => some (t == .int)
  | .str _ => some (t == .str)
  | .tup _ => some (t == .tuple)
  | .ktup _ => some (t == .tuple)
  | .lst _ => some (t == .list)
  | .obj k => match L[k]? with
    | some (.lst _) => some (t == .list)
    | some _ => some false
    | none => none
  | _ => none
def blsOf : List D → Option (List Bool)
  | [] => some []
  | .bl b :: r => match blsOf r with
    | some l => some (b :: l)
    | none => none
  | _ :: _ => none
def strsOf : List D → Option (List (List Nat))
  | [] => some []
  | .str b :: r => match strsOf r with
    | some l => some (b :: l)
    | none => none
  | _ :: _ => none
/-- a built-in by its name -/
def biV (L : Store) (b : Bi) (xs : List D) : Option D :=
  match b, xs with
  | .len, [.str a] => if a.length ≤ big then some (.int a.length) else none
  | .len, [x] => match seqOf L x with
    | some ds => some (.int ds.length)
    | none => match x with
      | .obj k => match L[k]? with
        | some (.dK kvs) => some (.int kvs.length)
        | _ => none
      | _ => none
  | .tuple, [.ktup ds] => some (.ktup ds)
  | .tuple, [x] => match seqOf L x with
    | some ds => some (.tup ds)
    | none => none
  | .all, [x] => match listOf L x with
    | some ds => match blsOf ds with
      | some bs => some (.bl (bs.all id))
      | none => none
    | none => none
  | .any, [x] => match listOf L x with
    | some ds => match blsOf ds with
      | some bs => some (.bl (bs.any id))
      | none => none
    | none => none
  | .sum, [x] => match listOf L x with
    | some ds => match intsOf ds with
      | some ns => some (.int ns.sum)
      | none => none
    | none => none
  | .str, [.str a] => some (.str a)
  | .str, [.int i] => if 0 ≤ i ∧ i.natAbs.log2 < 1920 then some (.str (TL.numL i.toNat)) else none
  | .int, [.int i] => some (.int i)
  | .int, [.str a] => if a.length ≤ 640 then match PySem.intText? (SX.S a) with
    | some n => some (.int n)
    | none => none else none
  | _, _ => none
def lens (ys : List (List Nat)) : Nat := (ys.map List.length).sum
/-- a method that changes nothing -/
def meV (L : Store) (m : Me) (o : D) (xs : List D) : Option D :=
  match m, o, xs with
  | .split, .str a, [.str b] => if b ≠ [] ∧ b.all (· < 256) ∧ a.length + 2 ≤ big then some (.lst ((TL.spl b 0 [] a).map .str)) else none
  | .join, .str a, [x] => match seqOf L x with
    | some ds => match strsOf ds with
      | some ys => if lens ys + a.length * ys.length ≤ big then some (.str (TL.joinL a ys)) else none
      | none => none
    | none => none
  | .index, .str a, [.str b] => if b ≠ [] then match TL.par b [] a with
    | some p => some (.int (p.1.length : Nat))
    | none => none else none
  | .startswith, .str a, [.str b] => some (.bl (Txt.startswith (SX.S a) (SX.S b)))
  | .endswith, .str a, [.str b] => some (.bl (Txt.endswith (SX.S a) (SX.S b)))
  | _, _, _ => none

/-! ### the walk -/
def wipeD (ρ : Env) : List Nat → Env
  | [] => ρ
  | v :: vs => (wipeD ρ vs).set v none
/-- the items of a tuple -/
def tupOf : D → Option (List D)
  | .tup ds => some ds
  | .ktup ds => some ds
  | _ => none
mutual
def bindT : Tg → D → Env → Option Env
  | .name i, d, ρ => some (ρ.set i (some d))
  | .tup ts, d, ρ => match tupOf d with
    | some ds => bindTs ts ds ρ
    | none => none
def bindTs : Tgs → List D → Env → Option Env
  | .nil, [], ρ => some ρ
  | .cons t r, d :: ds, ρ => match bindT t d ρ with
    | some ρ' => bindTs r ds ρ'
    | none => none
  | _, _, _ => none
end
mutual
/-- the slots of a target -/
def tgIx : Tg → List Nat
  | .name i => [i]
  | .tup ts => tgsIx ts
def tgsIx : Tgs → List Nat
  | .nil => []
  | .cons t r => tgIx t ++ tgsIx r
end
def lenTs : Tgs → Nat
  | .nil => 0
  | .cons _ r => lenTs r + 1
def upto (a : Int) : Nat → List D
  | 0 => []
  | n + 1 => .int a :: upto (a + 1) n
def numbered (a : Int) : List D → List D
  | [] => []
  | d :: ds => .tup [.int a, d] :: numbered (a + 1) ds
def zipD : List D → List D → List D
  | a :: r, b :: s => .tup [a, b] :: zipD r s
  | _, _ => []
/-- what is walked: values, or an object's list as it stands at each turn -/
inductive Wk where
  | vals (ds : List D)
  | obj (k : Nat)
/-- a comprehension's loop: f gives the new item, or none -/
def compL (f : D → M (Option D)) : List D → M (List D)
  | [], L => .ok [] L
  | d :: ds, L => (f d L).bind fun o L1 => (compL f ds L1).bind fun r L2 => .ok (match o with
    | some x => x :: r
    | none => r) L2
def items (w : Wk) (L : Store) : Option (List D) := match w with
  | .vals ds => some ds
  | .obj k => listOf L (.obj k)
/-- turn by turn: n turns at most -/
def compG (f : D → M (Option D)) (w : Wk) : Nat → Nat → M (List D)
  | 0, _, _ => .bad
  | n + 1, i, L => match items w L with
    | none => .bad
    | some ds => match ds[i]? with
      | none => .ok [] L
      | some d => (f d L).bind fun o L1 => (compG f w n (i + 1) L1).bind fun r L2 => .ok (match o with
        | some x => x :: r
        | none => r) L2
/-- turns at most -/
def fuelW : Wk → Nat
  | .vals ds => ds.length + 1
  | .obj _ => big
def smallW : Wk → Bool
  | .vals ds => decide (ds.length ≤ big)
  | .obj _ => true
def compW (f : D → M (Option D)) (w : Wk) : M (List D) := fun L => if smallW w then compG f w (fuelW w) 0 L else .bad
/-- a new object -/
def alloc (o : O) : M D := fun L => .ok (.obj L.length) (L ++ [o])
/-- within a store: what looks say -/
def look {α : Type} (f : Store → Option α) : M α := fun L => match f L with
  | some a => .ok a L
  | none => .bad
/-- a call's result behind its end: an own list is frozen; the store of the caller -/
def frozen (n : Nat) (d : D) (L : Store) : Option D :=
  match d with
  | .obj k => if k < n then some d else match L[k]? with
    | some (.lst ds) => if purAll ds then some (.lst ds) else none
    | _ => none
  | d => if d.pure then some d else none
def O.pure : O → Bool
  | .lst ds => purAll ds
  | .dK kvs => purAll (kvs.map (·.2))
  | .dT kvs => purAll (kvs.map (·.2))
/-- no object within an object -/
def storeP (L : Store) : Bool := L.all O.pure
/-- f(..) -/
def callF (cf : Nat → List D → M D) (f : Nat) (xs : List D) : M D := fun L =>
  if purAll xs then match cf f xs [] with
    | .ok d L1 => match frozen 0 d L1 with
      | some d' => .ok d' L
      | none => .bad
    | .exc c d L1 => if d.pure then .exc c d L else .bad
    | .bad => .bad
  else match cf f xs L with
    | .ok d L1 => if storeP (L1.take L.length) then match frozen L.length d L1 with
      | some d' => .ok d' (L1.take L.length)
      | none => .bad else .bad
    | .exc c d L1 => if d.pure && storeP (L1.take L.length) then .exc c d (L1.take L.length) else .bad
    | .bad => .bad
/-- x = f(..), x an object that is changed later: the new object that the call hands back -/
def callK (cf : Nat → List D → M D) (f : Nat) (xs : List D) : M D := fun L =>
  if purAll xs then match cf f xs [] with
    | .ok (.obj k) L1 => match L1[k]? with
      | some o => if o.pure then .ok (.obj L.length) (L ++ [o]) else .bad
      | none => .bad
    | .exc c d L1 => if d.pure then .exc c d L else .bad
    | _ => .bad
  else .bad
def boolOf : D → Option Bool
  | .bl b => some b
  | _ => none
def intOf : D → Option Int
  | .int i => some i
  | _ => none

/-- a method's receiver -/
def recv : Me → D → Store → Bool
  | .append, .obj k, L => match L[k]? with
    | some (.lst _) => true
    | _ => false
  | .append, _, _ => false
  | _, .str _, _ => true
  | _, _, _ => false
/-- nothing is raised -/
def noX {α : Type} (n : Bool) (r : R α) : R α := match r with
  | .exc c d L => if n then .bad else .exc c d L
  | r => r
mutual
def evE (cf : Nat → List D → M D) : E → Env → M D
  | .slot i, ρ, L => match ρ[i]? with
    | some (some d) => .ok d L
    | _ => .bad
  | .cst d, _, L => .ok d L
  | .glob d, _, L => .ok d L
  | .fnv f, _, L => .ok (.fn f) L
  | .bin o a b, ρ, L => (evE cf a ρ L).bind fun x L1 => (evE cf b ρ L1).bind fun y L2 => look (fun L => binV L o x y) L2
  | .neg a, ρ, L => (evE cf a ρ L).bind fun x L1 => match x with
    | .int i => .ok (.int (-i)) L1
    | _ => .bad
  | .not a, ρ, L => (evE cf a ρ L).bind fun x L1 => match x with
    | .bl b => .ok (.bl (!b)) L1
    | _ => .bad
  | .cmp o a b, ρ, L => (evE cf a ρ L).bind fun x L1 => (evE cf b ρ L1).bind fun y L2 => (look (fun L => cmpV L o x y) L2).bind fun b L3 => .ok (.bl b) L3
  | .chain o1 o2 a b c, ρ, L => (evE cf a ρ L).bind fun x L1 => (evE cf b ρ L1).bind fun y L2 => (look (fun L => cmpV L o1 x y) L2).bind fun q L3 =>
      if q then (evE cf c ρ L3).bind fun z L4 => (look (fun L => cmpV L o2 y z) L4).bind fun b L5 => .ok (.bl b) L5 else .ok (.bl false) L3
  | .isN a, ρ, L => (evE cf a ρ L).bind fun x L1 => .ok (.bl (match x with
    | .non => true
    | _ => false)) L1
  | .notN a, ρ, L => (evE cf a ρ L).bind fun x L1 => .ok (.bl (match x with
    | .non => false
    | _ => true)) L1
  | .and a b, ρ, L => (evE cf a ρ L).bind fun x L1 => match x with
    | .bl true => (evE cf b ρ L1).bind fun y L2 => match y with
      | .bl q => .ok (.bl q) L2
      | _ => .bad
    | .bl false => .ok (.bl false) L1
    | _ => .bad
  | .or a b, ρ, L => (evE cf a ρ L).bind fun x L1 => match x with
    | .bl true => .ok (.bl true) L1
    | .bl false => (evE cf b ρ L1).bind fun y L2 => match y with
      | .bl q => .ok (.bl q) L2
      | _ => .bad
    | _ => .bad
  | .ife t a b, ρ, L => (evE cf t ρ L).bind fun x L1 => match x with
    | .bl true => evE cf a ρ L1
    | .bl false => evE cf b ρ L1
    | _ => .bad
  | .tup es, ρ, L => (evEs cf es ρ L).bind fun xs L1 => if xs.length ≤ big then .ok (.tup xs) L1 else .bad
  | .frz f, ρ, L => (evF cf f ρ L).bind fun xs L1 => .ok (.lst xs) L1
  | .mut f, ρ, L => (evF cf f ρ L).bind fun xs L1 => .ok (.obj L1.length) (L1 ++ [.lst xs])
  | .call f es, ρ, L => (evEs cf es ρ L).bind fun xs L1 => callF cf f xs L1
  | .callk f es, ρ, L => (evEs cf es ρ L).bind fun xs L1 => callK cf f xs L1
  | .callv i n es, ρ, L => match ρ[i]? with
    | some (some (.fn f)) => if f < n then (evEs cf es ρ L).bind fun xs L1 => callF cf f xs L1 else .bad
    | _ => .bad
  | .bi b es, ρ, L => (evEs cf es ρ L).bind fun xs L1 => look (fun L => biV L b xs) L1
  | .meth m o es, ρ, L => (evE cf o ρ L).bind fun x L1 => if recv m x L1 then (evEs cf es ρ L1).bind fun xs L2 => match m, x, xs with
    | .append, .obj k, [y] => match L2[k]? with
      | some (.lst ds) => if ds.length < big then .ok .non (L2.set k (.lst (ds ++ [y]))) else .bad
      | _ => .bad
    | m, x, xs => look (fun L => meV L m x xs) L2 else .bad
  | .ix a b, ρ, L => (evE cf a ρ L).bind fun x L1 => (evE cf b ρ L1).bind fun y L2 => look (fun L => ixV L x y) L2
  | .dget a b, ρ, L => (evE cf a ρ L).bind fun x L1 => (evE cf b ρ L1).bind fun y L2 => look (fun L => (dictGet L x y).bind id) L2
  | .sl a lo hi, ρ, L => (evE cf a ρ L).bind fun x L1 => (evO cf lo ρ L1).bind fun l L2 => (evO cf hi ρ L2).bind fun h L3 => look (fun L => slV L x l h) L3
  | .isi a t, ρ, L => (evE cf a ρ L).bind fun x L1 => (look (fun L => isiV t L x) L1).bind fun b L2 => .ok (.bl b) L2
  | .dnew kt kvs, ρ, L => (evK cf kvs ρ L).bind fun ps L1 => if kt then (match ps with
      | [] => .ok (.obj L1.length) (L1 ++ [.dT []])
      | _ => .bad) else if ps.length ≤ 15 then .ok (.obj L1.length) (L1 ++ [.dK (ps.foldl (fun acc p => putK acc p.1 p.2) [])]) else .bad
  | .xfld i c, ρ, L => match ρ[i]? with
    | some (some (.exn c' d)) => if c' = c then .ok d L else .bad
    | _ => .bad
  | .mkx c f m _ e, ρ, L => (evE cf e ρ L).bind fun x L1 => .ok (.exv c f m x) L1
  | .mk0 c f m, _, L => .ok (.exv c f m .non) L
  | .isx _ ks e, ρ, L => (evE cf e ρ L).bind fun x L1 => match x with
    | .exv c _ _ _ => match ks[c]? with
      | some b => .ok (.bl b) L1
      | none => .bad
    | _ => .bad
  | .xfl n f e, ρ, L => (evE cf e ρ L).bind fun x L1 => match x with
    | .exv c g _ d => if g = f ∧ c < n then .ok d L1 else .bad
    | _ => .bad
  | .strx n e, ρ, L => (evE cf e ρ L).bind fun x L1 => match x with
    | .exv c _ m _ => if c < n then .ok (.str m) L1 else .bad
    | _ => .bad
  | .tupr a, ρ, L => (evE cf a ρ L).bind fun x L1 => match x with
    | .int n => if 0 ≤ n ∧ n ≤ 16777216 then .ok (.tup (upto 0 n.toNat)) L1 else .bad
    | _ => .bad
def evEs (cf : Nat → List D → M D) : Es → Env → M (List D)
  | .nil, _, L => .ok [] L
  | .cons e r, ρ, L => (evE cf e ρ L).bind fun x L1 => (evEs cf r ρ L1).bind fun xs L2 => .ok (x :: xs) L2
/-- a slice's part -/
def evO (cf : Nat → List D → M D) : Oe → Env → M (Option Int)
  | .none, _, L => .ok none L
  | .some e, ρ, L => (evE cf e ρ L).bind fun x L1 => match x with
    | .int i => .ok (some i) L1
    | _ => .bad
/-- a comprehension's test -/
def evT (cf : Nat → List D → M D) : Oe → Env → M Bool
  | .none, _, L => .ok true L
  | .some e, ρ, L => (evE cf e ρ L).bind fun x L1 => match x with
    | .bl b => .ok b L1
    | _ => .bad
def evK (cf : Nat → List D → M D) : Kvs → Env → M (List (L2.Key × D))
  | .nil, _, L => .ok [] L
  | .cons k v r, ρ, L => (evE cf k ρ L).bind fun x L1 => (evE cf v ρ L1).bind fun y L2 => match keyOf x with
    | some q => (evK cf r ρ L2).bind fun ps L3 => .ok ((q, y) :: ps) L3
    | none => .bad
def evF (cf : Nat → List D → M D) : F → Env → M (List D)
  | .disp es, ρ, L => (evEs cf es ρ L).bind fun xs L1 => if xs.length ≤ big then .ok xs L1 else .bad
  | .lc n elt tg it t own, ρ, L => (evI cf it ρ L).bind fun w L1 => compW (fun d L => match bindT tg d (wipeD ρ own) with
      | none => .bad
      | some ρ' => noX n ((evT cf t ρ' L).bind fun b L2 => if b then (evE cf elt ρ' L2).bind fun x L3 => .ok (some x) L3 else .ok none L2)) w L1
  | .sl a lo hi, ρ, L => (evE cf a ρ L).bind fun x L1 => (evO cf lo ρ L1).bind fun l L2 => (evO cf hi ρ L2).bind fun h L3 => match listOf L3 x with
    | some ds => .ok (cutL ds l h) L3
    | none => .bad
  | .rev a, ρ, L => (evE cf a ρ L).bind fun x L1 => match listOf L1 x with
    | some ds => .ok ds.reverse L1
    | none => .bad
  | .cat a b, ρ, L => (evE cf a ρ L).bind fun x L1 => (evE cf b ρ L1).bind fun y L2 => match listOf L2 x, listOf L2 y with
    | some p, some q => if p.length + q.length ≤ big then .ok (p ++ q) L2 else .bad
    | _, _ => .bad
  | .lis a, ρ, L => (evE cf a ρ L).bind fun x L1 => match seqOf L1 x with
    | some ds => .ok ds L1
    | none => .bad
def evI (cf : Nat → List D → M D) : It → Env → M Wk
  | .val e, ρ, L => (evE cf e ρ L).bind fun x L1 => match x with
    | .lst ds => .ok (.vals ds) L1
    | .tup ds => .ok (.vals ds) L1
    | .ktup ds => .ok (.vals ds) L1
    | .str a => .ok (.vals (signs a)) L1
    | .obj k => match listOf L1 (.obj k) with
      | some _ => .ok (.obj k) L1
      | none => .bad
    | _ => .bad
  | .range1 a, ρ, L => (evE cf a ρ L).bind fun x L1 => match x with
    | .int n => if n < 2 ^ 62 ∧ -(2 ^ 62) ≤ n then .ok (.vals (upto 0 n.toNat)) L1 else .bad
    | _ => .bad
  | .range2 a b, ρ, L => (evE cf a ρ L).bind fun x L1 => (evE cf b ρ L1).bind fun y L2 => match x, y with
    | .int m, .int n => if n < 2 ^ 62 ∧ -(2 ^ 62) ≤ n ∧ m < 2 ^ 62 ∧ -(2 ^ 62) ≤ m then .ok (.vals (upto m (n - m).toNat)) L2 else .bad
    | _, _ => .bad
  | .enum e, ρ, L => (evE cf e ρ L).bind fun x L1 => match x with
    | .lst ds => .ok (.vals (numbered 0 ds)) L1
    | _ => .bad
  | .zip a b, ρ, L => (evE cf a ρ L).bind fun x L1 => (evE cf b ρ L1).bind fun y L2 => match x, y with
    | .lst p, .lst q => .ok (.vals (zipD p q)) L2
    | x, y => match tupOf x, tupOf y with
      | some p, some q => .ok (.vals (zipD p q)) L2
      | _, _ => .bad
end

/-! ### statements -/
inductive SR where
  | next (ρ : Env) (L : Store)
  | brk (ρ : Env) (L : Store)
  | cont (ρ : Env) (L : Store)
  | ret (d : D) (L : Store)
  | exc (c : Nat) (d : D) (ρ : Env) (L : Store)
  | bad
/-- behind an expression -/
def R.then {α : Type} (r : R α) (ρ : Env) (f : α → Store → SR) : SR := match r with
  | .ok a L => f a L
  | .exc c d L => .exc c d ρ L
  | .bad => .bad
/-- behind a statement -/
def SR.seq (r : SR) (f : Env → Store → SR) : SR := match r with
  | .next ρ L => f ρ L
  | r => r
def forL (b : D → Env → Store → SR) : List D → Env → Store → SR
  | [], ρ, L => .next ρ L
  | d :: ds, ρ, L => match b d ρ L with
    | .next ρ1 L1 => forL b ds ρ1 L1
    | .cont ρ1 L1 => forL b ds ρ1 L1
    | .brk ρ1 L1 => .next ρ1 L1
    | r => r
def forG (b : D → Env → Store → SR) (w : Wk) : Nat → Nat → Env → Store → SR
  | 0, _, _, _ => .bad
  | n + 1, i, ρ, L => match items w L with
    | none => .bad
    | some ds => match ds[i]? with
      | none => .next ρ L
      | some d => match b d ρ L with
        | .next ρ1 L1 => forG b w n (i + 1) ρ1 L1
        | .cont ρ1 L1 => forG b w n (i + 1) ρ1 L1
        | .brk ρ1 L1 => .next ρ1 L1
        | r => r
def forW (b : D → Env → Store → SR) (w : Wk) (ρ : Env) (L : Store) : SR := forG b w (fuelW w) 0 ρ L
def whileG (t : Env → M Bool) (b : Env → Store → SR) : Nat → Env → Store → SR
  | 0, _, _ => .bad
  | n + 1, ρ, L => (t ρ L).then ρ fun q L1 => if q then (match b ρ L1 with
      | .next ρ1 L2 => whileG t b n ρ1 L2
      | .cont ρ1 L2 => whileG t b n ρ1 L2
      | .brk ρ1 L2 => .next ρ1 L2
      | r => r) else .next ρ L1
/-- turns of a while at most -/
def turns : Nat := 1000000000

def setAll : List Nat → List D → Env → Env
  | i :: is, x :: xs, ρ => setAll is xs (ρ.set i (some x))
  | _, _, ρ => ρ
mutual
def evS (cf : Nat → List D → M D) : S → Env → Store → SR
  | .set i e, ρ, L => (evE cf e ρ L).then ρ fun x L1 => .next (ρ.set i (some x)) L1
  | .par is es, ρ, L => (evEs cf es ρ L).then ρ fun xs L1 => if xs.length = is.length then .next (setAll is xs ρ) L1 else .bad
  | .asg t e, ρ, L => (evE cf e ρ L).then ρ fun x L1 => match bindT t x ρ with
    | some ρ' => .next ρ' L1
    | none => .bad
  | .setIx o i e, ρ, L => (evE cf e ρ L).then ρ fun x L1 => (evE cf o ρ L1).then ρ fun y L2 => (evE cf i ρ L2).then ρ fun z L3 => match y, z with
    | .obj k, .int n => match L3[k]? with
      | some (.lst ds) => match _root_.L2.ixN ds.length n with
        | some j => .next ρ (L3.set k (.lst (ds.set j x)))
        | none => .bad
      | _ => .bad
    | _, _ => .bad
  | .setK o i e, ρ, L => (evE cf e ρ L).then ρ fun x L1 => (evE cf o ρ L1).then ρ fun y L2 => (evE cf i ρ L2).then ρ fun z L3 => match y with
    | .obj k => match L3[k]?, z with
      | some (.dK kvs), z => match keyOf z with
        | some q => if kvs.length < big then .next ρ (L3.set k (.dK (putK kvs q x))) else .bad
        | none => .bad
      | some (.dT kvs), .tup ds => match keysOf ds with
        | some q => if kvs.length < big then .next ρ (L3.set k (.dT (putK kvs q x))) else .bad
        | none => .bad
      | _, _ => .bad
    | _ => .bad
  | .aug i o e, ρ, L => match ρ[i]? with
    | some (some x) => (evE cf e ρ L).then ρ fun y L1 => match x, y with
      | .int a, .int b => match o with
        | .add => .next (ρ.set i (some (.int (a + b)))) L1
        | .sub => .next (ρ.set i (some (.int (a - b)))) L1
        | _ => .bad
      | _, _ => .bad
    | _ => .bad
  | .ex e, ρ, L => (evE cf e ρ L).then ρ fun _ L1 => .next ρ L1
  | .ife t a b, ρ, L => (evE cf t ρ L).then ρ fun x L1 => match x with
    | .bl true => evSs cf a ρ L1
    | .bl false => evSs cf b ρ L1
    | _ => .bad
  | .for_ t it b, ρ, L => (evI cf it ρ L).then ρ fun w L1 => forW (fun d ρ L => match bindT t d ρ with
      | some ρ' => evSs cf b ρ' L
      | none => .bad) w ρ L1
  | .while_ t b, ρ, L => whileG (fun ρ L => (evE cf t ρ L).bind fun x L1 => match x with
      | .bl q => .ok q L1
      | _ => .bad) (fun ρ L => evSs cf b ρ L) turns ρ L
  | .ret e, ρ, L => (evE cf e ρ L).then ρ fun x L1 => .ret x L1
  | .retN, _, L => .ret .non L
  | .raise c e, ρ, L => (evE cf e ρ L).then ρ fun x L1 => .exc c x ρ L1
  | .try_ b hs, ρ, L => match evSs cf b ρ L with
    | .exc c d ρ1 L1 => evHs cf hs c d ρ1 L1
    | r => r
  | .pass, ρ, L => .next ρ L
  | .brk, ρ, L => .brk ρ L
  | .cont, ρ, L => .cont ρ L
def evSs (cf : Nat → List D → M D) : Ss → Env → Store → SR
  | .nil, ρ, L => .next ρ L
  | .cons s r, ρ, L => (evS cf s ρ L).seq fun ρ1 L1 => evSs cf r ρ1 L1
/-- the clause for an exception: its name holds it within the suite -/
def evHs (cf : Nat → List D → M D) : Hs → Nat → D → Env → Store → SR
  | .nil, c, d, ρ, L => .exc c d ρ L
  | .cons n c' i s r, c, d, ρ, L => if c < n then (if c = c' then (match i with
      | none => match evSs cf s ρ L with
        | .exc _ _ _ _ => .bad
        | r => r
      | some j => match evSs cf s (ρ.set j (some (.exn c d))) L with
        | .ret x L1 => if x.pure && storeP L1 then .ret x L1 else .bad
        | _ => .bad) else evHs cf r c d ρ L) else .bad
end

/-- a def: parameters, names in all, its body -/
structure Fd where
  np : Nat
  nl : Nat
  body : Ss
def startD (nl : Nat) (xs : List D) : Env := xs.map some ++ List.replicate (nl - xs.length) none
/-- the defs, by depth -/
def evFn (fs : List Fd) : Nat → Nat → List D → M D
  | 0, _, _, _ => .bad
  | n + 1, f, xs, L => match fs[f]? with
    | none => .bad
    | some F => if xs.length = F.np then (match evSs (evFn fs n) F.body (startD F.nl xs) L with
      | .next _ L1 => .ok .non L1
      | .ret d L1 => .ok d L1
      | .exc c d _ L1 => .exc c d L1
      | _ => .bad) else .bad
end EV
end

section
set_option autoImplicit false
/-! What data stand for in the tracked heap. -/
namespace EV
open PySem

/-- an exception: its class, its args, its dict -/
abbrev exOb (C t : Addr) (d : Option Addr) : Obj := { cls := .ref C, dict := d, data := .fields #[.ref t, .none, .none, .none, .bool false, .none] }
def xvo (e C : Addr) (d : Option Addr) (t : Addr) : L2.HO := .ext fun h => h.get? e = some (exOb C t d)
/-- what isn't written -/
def frzO : L2.HO → Bool
  | .tup _ => true
  | .ext _ => true
  | _ => false
structure Cfg where
  K : PySem.W.Frag
  adr : Nat → Addr
  cls : Nat → Addr
  fld : Nat → Str
  xcl : Nat → Addr
  EX : Addr → Nat → Addr → Prop

def asc (cs : List Nat) : Prop := ∀ c ∈ cs, c < 128

section
variable (C : Cfg) (Z : Addr → Prop) (ι : List Addr) (H : L2.Hp)
/-- a constant of the text -/
def KTup (a : Addr) (xs : List L2.V) : Prop :=
  ∃ (o : Obj) (its : Array Value) (n : Nat), C.K.lookup a = some o ∧ o.cls = .type "tuple" ∧ o.data = .seq its n ∧ its.size ≤ sizeLine ∧ L2.Vals xs its.toList
/-- what stands at an address as long as it isn't an object of ours -/
def XvAt (c : Nat) (f : Str) (m : List Nat) (v x : L2.V) : Prop :=
  ∃ a t dx, v = .ref a ∧ H a = some (xvo a (C.xcl c) (some dx) t) ∧ H t = some (.tup [.str (SX.S m)]) ∧ H dx = some (L2.exd dx [(f, x)]) ∧ a ∉ ι ∧ t ∉ ι ∧ dx ∉ ι
mutual
def RV : D → L2.V → Prop
  | .non, v => v = .non
  | .bl b, v => v = .bl b
  | .int i, v => v = .int i
  | .str x, v => v = .str (SX.S x) ∧ asc x
  | .tup ds, v => ∃ a xs, v = .ref a ∧ H a = some (.tup xs) ∧ a ∉ ι ∧ RVs ds xs
  | .lst ds, v => ∃ a xs, v = .ref a ∧ L2.Rd H a (.lst xs) ∧ ¬ Z a ∧ a ∉ ι ∧ RVs ds xs
  | .ktup ds, v => ∃ a xs, v = .ref a ∧ KTup C a xs ∧ RVs ds xs
  | .obj k, v => ∃ a, ι[k]? = some a ∧ v = .ref a
  | .fn f, v => v = .ref (C.adr f)
  | .exn c d, v => ∃ a dx x, v = .ref a ∧ C.EX a c dx ∧ H dx = some (.xd [(C.fld c, x)]) ∧ dx ∉ ι ∧ RV d x
  | .exv c f m d, v => ∃ x, XvAt C ι H c f m v x ∧ asc m ∧ RV d x
def RVs : List D → List L2.V → Prop
  | [], xs => xs = []
  | d :: ds, xs => ∃ x r, xs = x :: r ∧ RV d x ∧ RVs ds r
end
def KR {κ : Type} : List (κ × D) → List (κ × L2.V) → Prop
  | [], kv => kv = []
  | p :: r, kv => ∃ q s, kv = q :: s ∧ p.1 = q.1 ∧ RV C Z ι H p.2 q.2 ∧ KR r s
def OR : O → Addr → Prop
  | .lst ds, a => ∃ xs, H a = some (.lst xs) ∧ RVs C Z ι H ds xs
  | .dK kvs, a => ∃ kv, H a = some (.dK kv) ∧ KR C Z ι H kvs kv
  | .dT kvs, a => ∃ kv, H a = some (.dT kv) ∧ KR C Z ι H kvs kv
structure SO (L : Store) : Prop where
  len : ι.length = L.length
  nd : ι.Nodup
  obj : ∀ (k : Nat) (o : O), L[k]? = some o → ∃ a, ι[k]? = some a ∧ OR C Z ι H o a
  zh : ∀ a, Z a → H a ≠ none
structure ER (ρ : Env) (σ : L2.St) : Prop where
  len : ρ.length = σ.length
  get : ∀ (i : Nat) (d : D), ρ[i]? = some (some d) → ∃ v, σ[i]? = some (some v) ∧ RV C Z ι H d v
end
/-- more objects; what isn't an object of ours stands -/
structure Ex (ι : List Addr) (H : L2.Hp) (ι' : List Addr) (H' : L2.Hp) : Prop where
  pre : ∀ (k : Nat) (a : Addr), ι[k]? = some a → ι'[k]? = some a
  new : ∀ a ∈ ι', a ∈ ι ∨ H a = none
  old : ∀ a o, H a = some o → a ∉ ι → H' a = some o

section
variable {C : Cfg} {Z : Addr → Prop} {ι ι' ι2 : List Addr} {H H' H2 : L2.Hp} {L L' : Store}
theorem Ex.refl : Ex ι H ι H := ⟨fun _ _ h => h, fun _ h => .inl h, fun _ _ h _ => h⟩
theorem Ex.notin (x : Ex ι H ι' H') {a : Addr} {o : L2.HO} (h : H a = some o) (n : a ∉ ι) : a ∉ ι' := fun q => by
  rcases x.new a q with z | z
  · exact n z
  · rw [h] at z; cases z
theorem Ex.trans (x : Ex ι H ι' H') (y : Ex ι' H' ι2 H2) : Ex ι H ι2 H2 where
  pre := fun k a h => y.pre k a (x.pre k a h)
  new := fun a h => by
    rcases y.new a h with z | z
    · exact x.new a z
    · by_cases m : a ∈ ι
      · exact .inl m
      · cases q : H a with
        | none => exact .inr rfl
        | some o => rw [x.old a o q m] at z; cases z
  old := fun a o h n => y.old a o (x.old a o h n) (x.notin h n)
theorem Ex.rd (x : Ex ι H ι' H') {a : Addr} {u : L2.HO} (h : L2.Rd H a u) (n : a ∉ ι) : L2.Rd H' a u ∧ a ∉ ι' := by
  rcases h with h | ⟨o, h⟩
  · exact ⟨.inl (x.old _ _ h n), x.notin h n⟩
  · exact ⟨.inr ⟨o, x.old _ _ h n⟩, x.notin h n⟩
theorem XvAt.to (h : ∀ a o, frzO o = true → a ∉ ι → H a = some o → H' a = some o ∧ a ∉ ι') {c : Nat} {f : Str} {m : List Nat} {v x : L2.V} (r : XvAt C ι H c f m v x) : XvAt C ι' H' c f m v x := by
  obtain ⟨a, t, dx, e, h1, h2, h3, n1, n2, n3⟩ := r
  have k1 := h _ _ rfl n1 h1
  have k2 := h _ _ rfl n2 h2
  have k3 := h _ _ rfl n3 h3
  exact ⟨a, t, dx, e, k1.1, k2.1, k3.1, k1.2, k2.2, k3.2⟩
mutual
theorem RV.mono (x : Ex ι H ι' H') : ∀ (d : D) (v : L2.V), RV C Z ι H d v → RV C Z ι' H' d v
  | .non, _, h => by simpa [RV] using h
  | .bl _, _, h => by simpa [RV] using h
  | .int _, _, h => by simpa [RV] using h
  | .str _, _, h => by simpa [RV] using h
  | .tup ds, v, h => by
    unfold RV at h ⊢
    obtain ⟨a, xs, e, t, n, r⟩ := h
    exact ⟨a, xs, e, x.old _ _ t n, x.notin t n, RVs.mono x ds xs r⟩
  | .ktup ds, v, h => by
    unfold RV at h ⊢
    obtain ⟨a, xs, e, t, r⟩ := h
    exact ⟨a, xs, e, t, RVs.mono x ds xs r⟩
  | .lst ds, v, h => by
    unfold RV at h ⊢
    obtain ⟨a, xs, e, t, z, n, r⟩ := h
    exact ⟨a, xs, e, (x.rd t n).1, z, (x.rd t n).2, RVs.mono x ds xs r⟩
  | .obj k, v, h => by
    unfold RV at h ⊢
    obtain ⟨a, e, q⟩ := h
    exact ⟨a, x.pre _ _ e, q⟩
  | .fn _, _, h => by simpa [RV] using h
  | .exn c d, v, h => by
    unfold RV at h ⊢
    obtain ⟨a, dx, y, e, q, hd, n, r⟩ := h
    exact ⟨a, dx, y, e, q, x.old _ _ hd n, x.notin hd n, RV.mono x d y r⟩
  | .exv c f m d, v, h => by
    unfold RV at h ⊢
    obtain ⟨y, q, k, r⟩ := h
    exact ⟨y, q.to fun a o _ n z => ⟨x.old a o z n, x.notin z n⟩, k, RV.mono x d y r⟩
theorem RVs.mono (x : Ex ι H ι' H') : ∀ (ds : List D) (xs : List L2.V), RVs C Z ι H ds xs → RVs C Z ι' H' ds xs
  | [], _, h => by simpa [RVs] using h
  | d :: ds, xs, h => by
    unfold RVs at h ⊢
    obtain ⟨y, r, e, h1, h2⟩ := h
    exact ⟨y, r, e, RV.mono x d y h1, RVs.mono x ds r h2⟩
end
theorem KR.mono {κ : Type} (x : Ex ι H ι' H') : ∀ {kvs : List (κ × D)} {kv : List (κ × L2.V)}, KR C Z ι H kvs kv → KR C Z ι' H' kvs kv
  | [], _, h => h
  | p :: r, kv, h => by
    obtain ⟨q, s, e, k, h1, h2⟩ := h
    exact ⟨q, s, e, k, RV.mono x _ _ h1, KR.mono x h2⟩
/-- an object that stands -/
theorem OR.mono (x : Ex ι H ι' H') {o : O} {a : Addr} (e : ∀ u, H a = some u → H' a = some u) (h : OR C Z ι H o a) : OR C Z ι' H' o a := by
  cases o with
  | lst ds => obtain ⟨xs, q, r⟩ := h; exact ⟨xs, e _ q, RVs.mono x _ _ r⟩
  | dK kvs => obtain ⟨xs, q, r⟩ := h; exact ⟨xs, e _ q, KR.mono x r⟩
  | dT kvs => obtain ⟨xs, q, r⟩ := h; exact ⟨xs, e _ q, KR.mono x r⟩
theorem OR.there {o : O} {a : Addr} (h : OR C Z ι H o a) : ∃ u, H a = some u := by
  cases o with
  | lst ds => obtain ⟨xs, q, r⟩ := h; exact ⟨_, q⟩
  | dK kvs => obtain ⟨xs, q, r⟩ := h; exact ⟨_, q⟩
  | dT kvs => obtain ⟨xs, q, r⟩ := h; exact ⟨_, q⟩
theorem ER.mono (x : Ex ι H ι' H') {ρ : Env} {σ : L2.St} (h : ER C Z ι H ρ σ) : ER C Z ι' H' ρ σ :=
  ⟨h.len, fun i d e => let ⟨v, q, r⟩ := h.get i d e; ⟨v, q, RV.mono x _ _ r⟩⟩
theorem SO.there (s : SO C Z ι H L) {a : Addr} (h : a ∈ ι) : ∃ u, H a = some u := by
  obtain ⟨k, hk, e⟩ := List.getElem_of_mem h
  have hkL : k < L.length := by rw [← s.len]; exact hk
  obtain ⟨b, q, r⟩ := s.obj k L[k] (List.getElem?_eq_getElem hkL)
  rw [List.getElem?_eq_getElem hk, e] at q
  cases q
  exact r.there
theorem SO.fresh (s : SO C Z ι H L) {p : Addr} (h : H p = none) : p ∉ ι := fun m => by
  obtain ⟨u, e⟩ := s.there m
  rw [h] at e; cases e
theorem SO.notz (s : SO C Z ι H L) {p : Addr} (h : H p = none) : ¬ Z p := fun m => s.zh p m h
/-- a new frozen thing at p -/
theorem ex_upd {p : Addr} {o : L2.HO} (h : H p = none) : Ex ι H ι (L2.upd H p o) :=
  ⟨fun _ _ h => h, fun _ h => .inl h, fun a u e _ => by rw [L2.upd_ne (L2.ne_of_none e h)]; exact e⟩
theorem ex_same (h : L2.Same H H') : Ex ι H ι H' := ⟨fun _ _ h => h, fun _ h => .inl h, fun a o e _ => h a o e⟩
theorem SO.same (s : SO C Z ι H L) (h : L2.Same H H') : SO C Z ι H' L :=
  ⟨s.len, s.nd, fun k o e => let ⟨a, q, r⟩ := s.obj k o e; ⟨a, q, r.mono (ex_same h) fun u z => h a u z⟩, fun a z q => by
    cases e : H a with
    | none => exact s.zh a z e
    | some u => rw [h a u e] at q; cases q⟩
theorem same_upd {p : Addr} {o : L2.HO} (h : H p = none) : L2.Same H (L2.upd H p o) := fun a u e => by rw [L2.upd_ne (L2.ne_of_none e h)]; exact e
theorem SO.upd (s : SO C Z ι H L) {p : Addr} {o : L2.HO} (h : H p = none) : SO C Z ι (L2.upd H p o) L := s.same (same_upd h)
/-- a new object at p -/
theorem ex_push {p : Addr} {o : L2.HO} (h : H p = none) : Ex ι H (ι ++ [p]) (L2.upd H p o) :=
  ⟨fun k a e => by rw [List.getElem?_append_left (List.getElem?_eq_some_iff.mp e).1]; exact e, fun a m => by
    rcases List.mem_append.mp m with m | m
    · exact .inl m
    · have : a = p := by simpa using m
      exact .inr (this ▸ h), fun a u e _ => by rw [L2.upd_ne (L2.ne_of_none e h)]; exact e⟩
theorem SO.push (s : SO C Z ι H L) {p : Addr} {o : O} {u : L2.HO} (h : H p = none) (r : OR C Z (ι ++ [p]) (L2.upd H p u) o p) : SO C Z (ι ++ [p]) (L2.upd H p u) (L ++ [o]) := by
  have x := ex_push (ι := ι) (o := u) h
  refine ⟨by simp [s.len], ?_, fun k o' e => ?_, fun a z q => ?_⟩
  · rw [List.nodup_append]
    refine ⟨s.nd, by simp, fun a ha b hb e => ?_⟩
    have : b = p := by simpa using hb
    subst this; subst e
    exact s.fresh h ha
  · by_cases hk : k < L.length
    · rw [List.getElem?_append_left hk] at e
      obtain ⟨a, q, r'⟩ := s.obj k o' e
      refine ⟨a, x.pre k a q, r'.mono x fun u' z => ?_⟩
      rw [L2.upd_ne (L2.ne_of_none z h)]; exact z
    · rw [List.getElem?_append_right (by omega)] at e
      have hk' : k = L.length := by
        have := (List.getElem?_eq_some_iff.mp e).1
        simp at this; omega
      subst hk'
      simp at e
      subst e
      exact ⟨p, by rw [List.getElem?_append_right (by rw [s.len]; exact Nat.le_refl _)]; simp [s.len], r⟩
  · by_cases e : a = p
    · subst e; exact s.zh a z h
    · rw [L2.upd_ne e] at q; exact s.zh a z q
/-- an object of ours is written -/
theorem ex_set {a : Addr} {u : L2.HO} (m : a ∈ ι) : Ex ι H ι (L2.upd H a u) :=
  ⟨fun _ _ h => h, fun _ h => .inl h, fun b o e n => by rw [L2.upd_ne (fun z : b = a => n (by rw [z]; exact m))]; exact e⟩
theorem SO.set (s : SO C Z ι H L) {k : Nat} {a : Addr} {o : O} {u : L2.HO} (e : ι[k]? = some a) (r : OR C Z ι (L2.upd H a u) o a) : SO C Z ι (L2.upd H a u) (L.set k o) := by
  have m : a ∈ ι := List.mem_of_getElem? e
  have x := ex_set (H := H) (u := u) m
  have hk : k < ι.length := (List.getElem?_eq_some_iff.mp e).1
  refine ⟨by simp [s.len], s.nd, fun j o' ej => ?_, fun b z q => ?_⟩
  · by_cases hj : j = k
    · subst hj
      rw [List.getElem?_set_self (by rw [← s.len]; exact hk)] at ej
      cases ej
      exact ⟨a, e, r⟩
    · rw [List.getElem?_set_ne (Ne.symm hj)] at ej
      obtain ⟨b, q, r'⟩ := s.obj j o' ej
      refine ⟨b, q, r'.mono x fun u' z => ?_⟩
      have hne : b ≠ a := fun z' => hj (L2.nd_ix s.nd q (z' ▸ e))
      rw [L2.upd_ne hne]; exact z
  · by_cases hb : b = a
    · subst hb; rw [L2.upd_same] at q; cases q
    · rw [L2.upd_ne hb] at q; exact s.zh b z q
theorem SO.at_ (s : SO C Z ι H L) {k : Nat} {o : O} {a : Addr} (e : L[k]? = some o) (q : ι[k]? = some a) : OR C Z ι H o a := by
  obtain ⟨b, q', r⟩ := s.obj k o e
  rw [q] at q'
  cases q'
  exact r

/-! ### lists of data -/
theorem RVs.length : ∀ {ds : List D} {xs : List L2.V}, RVs C Z ι H ds xs → ds.length = xs.length
  | [], _, h => by unfold RVs at h; subst h; rfl
  | d :: ds, xs, h => by
    unfold RVs at h
    obtain ⟨y, r, e, h1, h2⟩ := h
    subst e
    simp [RVs.length h2]
theorem RVs.nil : RVs C Z ι H [] [] := by unfold RVs; rfl
theorem RVs.cons {d : D} {ds : List D} {v : L2.V} {vs : List L2.V} (h : RV C Z ι H d v) (r : RVs C Z ι H ds vs) : RVs C Z ι H (d :: ds) (v :: vs) := by
  unfold RVs; exact ⟨v, vs, rfl, h, r⟩
theorem RVs.uncons {d : D} {ds : List D} {vs : List L2.V} (h : RVs C Z ι H (d :: ds) vs) : ∃ v r, vs = v :: r ∧ RV C Z ι H d v ∧ RVs C Z ι H ds r := by
  unfold RVs at h; exact h
theorem RVs.get : ∀ {ds : List D} {xs : List L2.V} {i : Nat} {d : D}, RVs C Z ι H ds xs → ds[i]? = some d → ∃ v, xs[i]? = some v ∧ RV C Z ι H d v
  | [], _, i, d, _, e => by simp at e
  | d :: ds, xs, 0, d', h, e => by
    obtain ⟨v, r, rfl, h1, h2⟩ := h.uncons
    simp at e; subst e
    exact ⟨v, by simp, h1⟩
  | d :: ds, xs, i + 1, d', h, e => by
    obtain ⟨v, r, rfl, h1, h2⟩ := h.uncons
    obtain ⟨w, q, z⟩ := RVs.get (i := i) h2 (by simpa using e)
    exact ⟨w, by simpa using q, z⟩
theorem RVs.append : ∀ {ds es : List D} {xs ys : List L2.V}, RVs C Z ι H ds xs → RVs C Z ι H es ys → RVs C Z ι H (ds ++ es) (xs ++ ys)
  | [], _, xs, _, h, k => by unfold RVs at h; subst h; exact k
  | d :: ds, _, xs, _, h, k => by
    obtain ⟨v, r, rfl, h1, h2⟩ := h.uncons
    exact .cons h1 (RVs.append h2 k)
theorem RVs.drop : ∀ {ds : List D} {xs : List L2.V} (n : Nat), RVs C Z ι H ds xs → RVs C Z ι H (ds.drop n) (xs.drop n)
  | _, _, 0, h => h
  | [], xs, n + 1, h => by unfold RVs at h; subst h; exact .nil
  | d :: ds, xs, n + 1, h => by
    obtain ⟨v, r, rfl, h1, h2⟩ := h.uncons
    exact RVs.drop n h2
theorem RVs.take : ∀ {ds : List D} {xs : List L2.V} (n : Nat), RVs C Z ι H ds xs → RVs C Z ι H (ds.take n) (xs.take n)
  | _, _, 0, h => .nil
  | [], xs, n + 1, h => by unfold RVs at h; subst h; exact .nil
  | d :: ds, xs, n + 1, h => by
    obtain ⟨v, r, rfl, h1, h2⟩ := h.uncons
    exact .cons h1 (RVs.take n h2)
theorem RVs.set : ∀ {ds : List D} {xs : List L2.V} (i : Nat) {d : D} {v : L2.V}, RVs C Z ι H ds xs → RV C Z ι H d v → RVs C Z ι H (ds.set i d) (xs.set i v)
  | [], xs, i, _, _, h, _ => by unfold RVs at h; subst h; simpa using (RVs.nil (C := C) (Z := Z) (ι := ι) (H := H))
  | d :: ds, xs, 0, _, _, h, k => by
    obtain ⟨v, r, rfl, h1, h2⟩ := h.uncons
    exact .cons k h2
  | d :: ds, xs, i + 1, _, _, h, k => by
    obtain ⟨v, r, rfl, h1, h2⟩ := h.uncons
    exact .cons h1 (RVs.set i h2 k)
theorem RVs.reverse {ds : List D} : ∀ {xs : List L2.V}, RVs C Z ι H ds xs → RVs C Z ι H ds.reverse xs.reverse := by
  induction ds with
  | nil => intro xs h; unfold RVs at h; subst h; exact .nil
  | cons d ds ih =>
    intro xs h
    obtain ⟨v, r, rfl, h1, h2⟩ := h.uncons
    rw [List.reverse_cons, List.reverse_cons]
    exact (ih h2).append (.cons h1 .nil)
theorem RVs.replicate {ds : List D} {xs : List L2.V} (h : RVs C Z ι H ds xs) : ∀ n : Nat, RVs C Z ι H (List.replicate n ds).flatten (List.replicate n xs).flatten
  | 0 => .nil
  | n + 1 => by
    rw [List.replicate_succ, List.replicate_succ, List.flatten_cons, List.flatten_cons]
    exact h.append (RVs.replicate h n)
theorem RVs.of_get : ∀ {ds : List D} {xs : List L2.V}, ds.length = xs.length → (∀ (i : Nat) (d : D) (v : L2.V), ds[i]? = some d → xs[i]? = some v → RV C Z ι H d v) → RVs C Z ι H ds xs
  | [], [], _, _ => .nil
  | [], _ :: _, e, _ => by simp at e
  | _ :: _, [], e, _ => by simp at e
  | d :: ds, v :: xs, e, f => .cons (f 0 d v rfl rfl) (RVs.of_get (by simpa using e) fun i d' v' h1 h2 => f (i + 1) d' v' (by simpa using h1) (by simpa using h2))
theorem RVs.map_str : ∀ {ys : List (List Nat)}, (∀ y ∈ ys, asc y) → RVs C Z ι H (ys.map D.str) (ys.map fun y => L2.V.str (SX.S y))
  | [], _ => .nil
  | y :: r, h => .cons (by unfold RV; exact ⟨rfl, h y List.mem_cons_self⟩) (RVs.map_str fun z m => h z (List.mem_cons_of_mem _ m))
end
end EV
end

section
set_option autoImplicit false
/-! The evaluator's values of operators are the model's. -/
namespace EV
open PySem

section
variable {X : L2.Cx} {C : Cfg} {Z : Addr → Prop} {ι : List Addr} {H : L2.Hp} {L : Store} {pins : List (Addr × Obj)} {s : Shared} {σ : L2.St}

theorem rd_lst (I : L2.Inv X pins σ H s) {a : Addr} {xs : List L2.V} (h : L2.Rd H a (.lst xs)) :
    xs.length ≤ sizeLine ∧ ∃ (its : List Value) (n : Nat), L2.Vals xs its ∧ xs.length = its.length ∧ s.heap.get? a = some { cls := .type "list", data := .seq its.toArray n } := by
  obtain ⟨z, its, n, r, e⟩ := h.ok I.hok
  exact ⟨z, its, n, r, r.length, e⟩
theorem sql_of {K : PySem.W.Frag} {a : Addr} {xs : List L2.V} (h : L2.Rd H a (.lst xs)) : L2.SqL K H a xs := .inl h
theorem big_eq : big = sizeLine := by rw [sizeLine_eq]; rfl
theorem listOf_rv (S : SO C Z ι H L) {x : D} {ds : List D} {v : L2.V} (h : listOf L x = some ds) (r : RV C Z ι H x v) : ∃ a xs, v = .ref a ∧ L2.Rd H a (.lst xs) ∧ RVs C Z ι H ds xs := by
  cases x <;> simp only [listOf] at h <;> try cases h
  · unfold RV at r
    obtain ⟨a, xs, e, q, _, _, t⟩ := r
    exact ⟨a, xs, e, q, t⟩
  · rename_i k
    unfold RV at r
    obtain ⟨a, e, q⟩ := r
    cases w : L[k]? with
    | none => rw [w] at h; cases h
    | some o =>
      rw [w] at h
      cases o with
      | lst es =>
        cases h
        obtain ⟨xs, q1, q2⟩ := S.at_ w e
        exact ⟨a, xs, q, .inl q1, q2⟩
      | dK _ => cases h
      | dT _ => cases h
theorem seqOf_rv (S : SO C Z ι H L) {x : D} {ds : List D} {v : L2.V} (h : seqOf L x = some ds) (r : RV C Z ι H x v) : ∃ a xs, v = .ref a ∧ (L2.SqL C.K H a xs ∨ L2.SqT C.K H a xs) ∧ RVs C Z ι H ds xs := by
  by_cases ht : ∃ es, x = .tup es
  · obtain ⟨es, rfl⟩ := ht
    simp only [seqOf] at h
    cases h
    unfold RV at r
    obtain ⟨a, xs, e, t, _, q⟩ := r
    exact ⟨a, xs, e, .inr (.inl (.inl t)), q⟩
  · by_cases hk : ∃ es, x = .ktup es
    · obtain ⟨es, rfl⟩ := hk
      simp only [seqOf] at h
      cases h
      unfold RV at r
      obtain ⟨a, xs, e, t, q⟩ := r
      exact ⟨a, xs, e, .inr (.inr t), q⟩
    · have h' : listOf L x = some ds := by
        cases x with
        | tup es => exact absurd ⟨es, rfl⟩ ht
        | ktup es => exact absurd ⟨es, rfl⟩ hk
        | _ => exact h
      obtain ⟨a, xs, e, q, t⟩ := listOf_rv S h' r
      exact ⟨a, xs, e, .inl (.inl q), t⟩

/-! ### lists made anew, whatever they are read from -/
def rCatR : L2.R2 := fun x y H Q => ∃ l b xs zs, x = .ref l ∧ y = .ref b ∧ L2.Rd H l (.lst xs) ∧ L2.Rd H b (.lst zs) ∧ xs.length + zs.length ≤ sizeLine ∧ ∀ p, H p = none → Q (.ref p) (L2.upd H p (.lst (xs ++ zs)))
theorem op_catR : L2.OpR X (binaryOp .Add) rCatR := by
  intro pins s σ H x y v u Q I rx ry h
  obtain ⟨l, b, xs, zs, rfl, rfl, hl, hb, hz, q⟩ := h
  cases rx
  cases ry
  obtain ⟨_, its, n, r, e1, e⟩ := rd_lst I hl
  obtain ⟨_, its2, n2, r2, e12, e2⟩ := rd_lst I hb
  have sz : its.toArray.size + its2.toArray.size ≤ sizeLine := by rw [List.size_toArray, List.size_toArray, ← e1, ← e12]; exact hz
  refine PySem.P.add_list e e2 ?_ (by have := sizeLine_eq; omega)
  have ea : its.toArray ++ its2.toArray = (its ++ its2).toArray := by simp
  rw [ea]
  exact ⟨.ref _, _, I.lnew (t' := s.toks) (r.append r2) (by rw [List.length_append]; exact hz), rfl, q _ I.fresh⟩

/-- a list n times -/
def rRepR : L2.R2 := fun x y H Q => ∃ l k xs, x = .ref l ∧ y = .int k ∧ L2.Rd H l (.lst xs) ∧ 0 ≤ k ∧ k < 2 ^ 63 ∧ xs.length * k.toNat ≤ sizeLine ∧ ∀ p, H p = none → Q (.ref p) (L2.upd H p (.lst (List.replicate k.toNat xs).flatten))
theorem op_repR : L2.OpR X (binaryOp .Mult) rRepR := by
  intro pins s σ H x y v u Q I rx ry h
  obtain ⟨l, k, xs, rfl, rfl, hH, h1, h2, hz, q⟩ := h
  cases rx
  obtain ⟨t, rfl⟩ := ry
  obtain ⟨_, its, n, r, hl, e⟩ := rd_lst I hH
  have hlen : its.toArray.size * k.toNat ≤ sizeLine := by rw [List.size_toArray, ← hl]; exact hz
  have hcap : ¬ its.toArray.size * k.toNat > (2 ^ 63 - 1) / 8 := by
    have z : (sizeLine : Nat) ≤ (2 ^ 63 - 1) / 8 := by decide
    omega
  have hfit : ¬ (!Builtin.List.listFitsIndex k) = true := by
    rw [fitsIndex_both (by omega) h2]
    exact Bool.false_ne_true
  have hlong : ¬ Builtin.List.listTooLong (its.toArray.size * k.toNat) = true := by
    rw [L2.notLongL hlen]
    exact Bool.false_ne_true
  have f0 : ∀ m : Nat, List.foldl (fun x1 x2 => x1 ++ x2) #[] (List.replicate m its.toArray) = (List.replicate m its).flatten.toArray := fun m => by
    have z := L2.foldl_rep its m []
    rw [List.nil_append] at z
    exact z
  have hnew : List.foldl (fun x1 x2 => x1 ++ x2) #[] (List.replicate (if its.toArray.isEmpty = true then 0 else k.toNat) its.toArray) = (List.replicate k.toNat its).flatten.toArray := by
    rw [f0]
    cases its with
    | nil => simp
    | cons a r' => rw [if_neg (by simp)]
  refine wpAny_binaryOp_repeat_ref (T := "list") (U := "int") (by decide) ⟨_, e, rfl⟩ (fun s' => typeIs_int s' k t) PySem.noFill_list_mul F.fills_int_mul F.slot_int_rmul PySem.repeat_list F.slot_int_index.lookup
    (call_meets F.slot_int_rmul (typeIs_int s k t) F.entry_int_rmul (F.args_int_rmul_2 _ _) (PySem.int___rmul___int_list k t l its.toArray n)
      ⟨e, rfl, ⟨_, e, rfl⟩, call_meets F.slot_list_mul ⟨_, e, rfl⟩ F.entry_list_mul (F.args_list_mul_2 _ _) (AutoListH.list___mul___list_int_3 l its.toArray n k t hfit hcap hlong) ⟨e, ?_⟩⟩)
  rw [hnew]
  exact ⟨.ref _, _, I.lnew (t' := s.toks) (r.rep k.toNat) (by rw [PyProof.Rows.lm_len_rep_flat, Nat.mul_comm]; exact hz), rfl, q _ I.fresh⟩

def opB : Bin → Operator
  | .add => .Add
  | .sub => .Sub
  | .mul => .Mult
  | .fdiv => .FloorDiv
  | .mod => .Mod
  | .pow => .Pow

theorem rv_int {i : Int} : RV C Z ι H (.int i) (.int i) := by simp [RV]
theorem rv_bl {b : Bool} : RV C Z ι H (.bl b) (.bl b) := by simp [RV]
theorem rv_non : RV C Z ι H .non .non := by simp [RV]
theorem rv_str {x : List Nat} (h : asc x) : RV C Z ι H (.str x) (.str (SX.S x)) := by simp [RV, h]
theorem rv_tupNew {ds : List D} {xs : List L2.V} {p : Addr} (S : SO C Z ι H L) (hp : H p = none) (r : RVs C Z ι H ds xs) : RV C Z ι (L2.upd H p (.tup xs)) (.tup ds) (.ref p) := by
  unfold RV
  exact ⟨p, xs, rfl, L2.upd_same, S.fresh hp, RVs.mono (ex_upd hp) _ _ r⟩
theorem rv_lstNew {ds : List D} {xs : List L2.V} {p : Addr} (S : SO C Z ι H L) (hp : H p = none) (r : RVs C Z ι H ds xs) : RV C Z ι (L2.upd H p (.lst xs)) (.lst ds) (.ref p) := by
  unfold RV
  exact ⟨p, xs, rfl, .inl L2.upd_same, S.notz hp, S.fresh hp, RVs.mono (ex_upd hp) _ _ r⟩
theorem rv_tupOf {ds : List D} {v : L2.V} (r : RV C Z ι H (.tup ds) v) : ∃ a xs, v = .ref a ∧ H a = some (.tup xs) ∧ a ∉ ι ∧ RVs C Z ι H ds xs := by unfold RV at r; exact r
theorem asc_append {a b : List Nat} (h : asc a) (k : asc b) : asc (a ++ b) := fun c m => (List.mem_append.mp m).elim (h c) (k c)
theorem asc_sub {a b : List Nat} (h : asc a) (k : ∀ c ∈ b, c ∈ a) : asc b := fun c m => h c (k c m)
theorem asc_rep {a : List Nat} (h : asc a) (n : Nat) : asc (List.replicate n a).flatten := fun c m => by
  obtain ⟨l, hl, hc⟩ := List.mem_flatten.mp m
  obtain ⟨_, rfl⟩ := List.mem_replicate.mp hl
  exact h c hc
theorem flatten_rep_array (x : Array Nat) : ∀ n : Nat, ((List.replicate n x).foldl (· ++ ·) #[]) = ((List.replicate n x.toList).flatten).toArray := by
  have go : ∀ (n : Nat) (acc : Array Nat), ((List.replicate n x).foldl (· ++ ·) acc) = acc ++ ((List.replicate n x.toList).flatten).toArray := by
    intro n
    induction n with
    | zero => intro acc; simp
    | succ n ih =>
      intro acc
      rw [List.replicate_succ, List.foldl_cons, ih, List.replicate_succ, List.flatten_cons]
      apply Array.toList_inj.mp
      simp
  intro n
  rw [go n #[]]
  simp
/-- a text n times -/
theorem op_repS : L2.OpR X (binaryOp .Mult) (fun x y H Q => ∃ a k, x = .str (SX.S a) ∧ y = .int k ∧ 0 ≤ k ∧ k < 2 ^ 63 ∧ a.length * k.toNat ≤ sizeLine ∧ Q (.str (SX.S (List.replicate k.toNat a).flatten)) H) := by
  intro pins s σ H x y v u Q I rx ry h
  obtain ⟨a, k, rfl, rfl, h0, h1, hz, q⟩ := h
  obtain ⟨t, rfl⟩ := rx
  obtain ⟨t', rfl⟩ := ry
  have hsl := sizeLine_eq
  have lenS : (SX.S a).length = a.length := SX.S_len a
  have fin : ∀ {z : Str} {tk : Tok} {n : Nat}, z = SX.S (List.replicate k.toNat a).flatten → L2.EP X pins σ Q (.str z tk) { s with toks := n } := fun {z tk n} e => ⟨.str _, H, I.tok _, ⟨tk, by rw [e]⟩, q⟩
  have fin0 : ∀ {z : Str} {tk : Tok}, z = SX.S (List.replicate k.toNat a).flatten → L2.EP X pins σ Q (.str z tk) s := fun {z tk} e => ⟨.str _, H, I, ⟨tk, by rw [e]⟩, q⟩
  have c0 : (decide (k < -(2 ^ 63 : Int)) || decide (k ≥ 2 ^ 63)) = false := by
    rw [decide_eq_false (by omega), decide_eq_false (by omega)]; rfl
  refine PySem.P.mul_str (x := SX.S a) (n := k) c0 (fun h2 h3 => ?_) (fun h2 h3 => ?_) ?_
  · have hk : 0 < k := by omega
    have hb : (a.length : Int) * k ≤ 16777216 := by
      have e : ((a.length * k.toNat : Nat) : Int) = (a.length : Int) * k := by rw [Int.natCast_mul, Int.toNat_of_nonneg h0]
      rw [← e]; omega
    rw [lenS]
    intro hgt
    have h4 : (2 ^ 63 - 1 : Int) / k < (a.length : Int) := hgt
    have h5 : (2 ^ 63 - 1 : Int) < (a.length : Int) * k := (Int.ediv_lt_iff_lt_mul hk).mp h4
    omega
  · unfold Builtin.Str.tooLong
    rw [lenS]
    first
      | (rw [decide_eq_false (by omega)])
      | (simp; omega)
  · by_cases hk0 : k < 1
    · rw [if_pos hk0]
      refine ⟨by decide, fin ?_⟩
      have : k.toNat = 0 := by omega
      rw [this]
      rfl
    · rw [if_neg hk0]
      by_cases hk1 : (k == 1 || (SX.S a).length == 0) = true
      · rw [if_pos hk1]
        refine fin0 ?_
        rw [Bool.or_eq_true] at hk1
        rcases hk1 with e | e
        · have e' : k = 1 := by simpa using e
          subst e'
          simp
        · have e' : a.length = 0 := by simpa [lenS] using e
          have : a = [] := List.eq_nil_of_length_eq_zero e'
          subst this
          simp
      · rw [if_neg hk1]
        have e := flatten_rep_array a.toArray k.toNat
        have e2 : (⟨(List.replicate k.toNat (SX.S a).cps).foldl (· ++ ·) #[]⟩ : Str) = SX.S (List.replicate k.toNat a).flatten := by
          show (⟨(List.replicate k.toNat a.toArray).foldl (· ++ ·) #[]⟩ : Str) = _
          rw [e]
        refine ⟨?_, fin e2⟩
        first
          | (rw [e2]; unfold Builtin.Str.tooLong; rw [SX.S_len, PyProof.Rows.lm_len_rep_flat]; rw [decide_eq_false (by rw [Nat.mul_comm]; omega)])
          | (rw [e2, SX.S_len, PyProof.Rows.lm_len_rep_flat, Nat.mul_comm]; omega)

theorem rv_unInt {i : Int} {v : L2.V} (r : RV C Z ι H (.int i) v) : v = .int i := by simpa [RV] using r
theorem rv_unBl {i : Bool} {v : L2.V} (r : RV C Z ι H (.bl i) v) : v = .bl i := by simpa [RV] using r
theorem rv_unNon {v : L2.V} (r : RV C Z ι H .non v) : v = .non := by simpa [RV] using r
theorem rv_unStr {x : List Nat} {v : L2.V} (r : RV C Z ι H (.str x) v) : v = .str (SX.S x) ∧ asc x := by simpa [RV] using r

/-- ** of wide bases -/
theorem op_powW {X : L2.Cx} : L2.OpR X (binaryOp .Pow) (L2.rI (fun i j => 0 ≤ j ∧ (j ≤ 1000000 ∧ i.natAbs < 2 ^ 64 ∨ j ≤ 8000 ∧ i.natAbs < 2 ^ 16384)) fun i j => .int (i ^ j.toNat)) := L2.opI fun i j _ _ _ _ _ hc q => by
  rcases hc.2 with h | h
  · exact PyProof.Rows.pow_int_small hc.1 h.1 h.2 q
  · have hb : Builtin.Int.intBits i ≤ 16384 := PyProof.Rows.intBits_le h.2
    have h1 : (Builtin.Int.intBits i : Int) * j ≤ 16384 * j := Int.mul_le_mul_of_nonneg_right (by omega) hc.1
    exact PyProof.Rows.pow_int hc.1 (by have := h.1; omega) q
theorem bin_sound (hK : X.K = C.K) (I : L2.Inv X pins σ H s) (S : SO C Z ι H L) {o : Bin} {x y d : D} (h : binV L o x y = some d) {v w : L2.V} {u u' : Value} (rx : RV C Z ι H x v) (ry : RV C Z ι H y w)
    (r1 : L2.RelV v u) (r2 : L2.RelV w u') {Q : L2.VK} (q : ∀ v' H', L2.Same H H' → RV C Z ι H' d v' → Q v' H') : wpAny (model X.prog X.w) X.A (binaryOp (opB o) u u') (L2.EP X pins σ Q) X.xe s := by
  have q0 : ∀ v', RV C Z ι H d v' → Q v' H := fun v' r => q v' H (L2.Same.refl H) r
  unfold binV at h
  split at h
  · cases h
    exact L2.op_add pins s σ H _ _ u u' Q I r1 r2 ⟨_, _, rv_unInt rx, rv_unInt ry, q0 _ rv_int⟩
  · split at h
    · cases h
      rename_i a b hz
      obtain ⟨e1, a1⟩ := rv_unStr rx
      obtain ⟨e2, a2⟩ := rv_unStr ry
      refine L2.op_add_str pins s σ H _ _ u u' Q I r1 r2 ⟨_, _, e1, e2, by rw [SX.S_len, SX.S_len, ← big_eq]; exact hz, ?_⟩
      rw [SX.S_cat]
      exact q0 _ (rv_str (asc_append a1 a2))
    · cases h
  · split at h
    · cases h
      rename_i a b hz
      obtain ⟨la, xa, ea, ta, _, ra⟩ := rv_tupOf rx
      obtain ⟨lb, xb, eb, tb, _, rb⟩ := rv_tupOf ry
      refine L2.op_catA pins s σ H _ _ u u' Q I r1 r2 ⟨la, lb, xa, xb, ea, eb, L2.SqT.of ta, L2.SqT.of tb, by rw [← ra.length, ← rb.length, ← big_eq]; exact hz, fun e => ?_, fun _ e => ?_, fun _ _ p hp => ?_⟩
      · subst e
        have ha : a = [] := List.eq_nil_of_length_eq_zero (by rw [ra.length]; rfl)
        subst ha
        exact q0 _ (eb ▸ ry)
      · subst e
        have hb : b = [] := List.eq_nil_of_length_eq_zero (by rw [rb.length]; rfl)
        subst hb
        rw [List.append_nil] at q0
        exact q0 _ (ea ▸ rx)
      · exact q _ _ (same_upd hp) (rv_tupNew S hp (ra.append rb))
    · cases h
  · cases h
    exact L2.op_sub pins s σ H _ _ u u' Q I r1 r2 ⟨_, _, rv_unInt rx, rv_unInt ry, q0 _ rv_int⟩
  · split at h
    · cases h
      rename_i i j hz
      refine L2.op_mul pins s σ H _ _ u u' Q I r1 r2 ⟨_, _, rv_unInt rx, rv_unInt ry, ?_, q0 _ rv_int⟩
      unfold cmul at hz
      simp only [Bool.or_eq_true, Bool.and_eq_true, decide_eq_true_eq] at hz
      exact hz
    · cases h
  · split at h
    · cases h
      rename_i a k hz
      obtain ⟨la, xa, ea, ta, _, ra⟩ := rv_tupOf rx
      refine L2.op_repT pins s σ H _ _ u u' Q I r1 r2 ⟨la, k, xa, ea, rv_unInt ry, L2.SqT.of ta, fun e => hz.1 (List.eq_nil_of_length_eq_zero (by rw [ra.length, e]; rfl)), hz.2.1, hz.2.2.1, by rw [← ra.length]; exact hz.2.2.2, fun p hp => ?_⟩
      exact q _ _ (same_upd hp) (rv_tupNew S hp (ra.replicate _))
    · cases h
  · split at h
    · cases h
      rename_i a k hz
      obtain ⟨e1, a1⟩ := rv_unStr rx
      refine op_repS pins s σ H _ _ u u' Q I r1 r2 ⟨a, k, e1, rv_unInt ry, hz.1, hz.2.1, by rw [← big_eq]; exact hz.2.2, ?_⟩
      exact q0 _ (rv_str (asc_rep a1 _))
    · cases h
  · split at h
    · cases h
      rename_i i j hz
      exact L2.op_fdiv pins s σ H _ _ u u' Q I r1 r2 ⟨_, _, rv_unInt rx, rv_unInt ry, hz, q0 _ rv_int⟩
    · cases h
  · split at h
    · cases h
      rename_i i j hz
      exact L2.op_mod pins s σ H _ _ u u' Q I r1 r2 ⟨_, _, rv_unInt rx, rv_unInt ry, hz, q0 _ rv_int⟩
    · cases h
  · split at h
    · cases h
      rename_i i j hz
      exact op_powW pins s σ H _ _ u u' Q I r1 r2 ⟨_, _, rv_unInt rx, rv_unInt ry, hz, q0 _ rv_int⟩
    · cases h
  · split at h
    · rename_i a b ha hb
      split at h
      · cases h
        rename_i hz
        obtain ⟨la, xa, ea, ta, ra⟩ := listOf_rv S ha rx
        obtain ⟨lb, xb, eb, tb, rb⟩ := listOf_rv S hb ry
        refine op_catR pins s σ H _ _ u u' Q I r1 r2 ⟨la, lb, xa, xb, ea, eb, ta, tb, by rw [← ra.length, ← rb.length, ← big_eq]; exact hz, fun p hp => ?_⟩
        exact q _ _ (same_upd hp) (rv_lstNew S hp (ra.append rb))
      · cases h
    · cases h
  · split at h
    · rename_i a ha
      split at h
      · cases h
        rename_i hz
        obtain ⟨la, xa, ea, ta, ra⟩ := listOf_rv S ha rx
        refine op_repR pins s σ H _ _ u u' Q I r1 r2 ⟨la, _, xa, ea, rv_unInt ry, ta, hz.1, hz.2.1, by rw [← ra.length, ← big_eq]; exact hz.2.2, fun p hp => ?_⟩
        exact q _ _ (same_upd hp) (rv_lstNew S hp (ra.replicate _))
      · cases h
    · cases h
  · cases h
end
end EV
end

section
set_option autoImplicit false
/-! comparisons, membership -/
namespace EV
open PySem

section
variable {X : L2.Cx} {C : Cfg} {Z : Addr → Prop} {ι : List Addr} {H : L2.Hp} {L : Store} {pins : List (Addr × Obj)} {s : Shared} {σ : L2.St}

theorem strOk_asc {x : List Nat} (h : asc x) : PyData.strOk (SX.S x) = true := by
  unfold PyData.strOk
  show (x.toArray.all fun c => decide (c < 0x110000)) = true
  rw [List.all_toArray, List.all_eq_true]
  intro c m
  have := h c m
  exact decide_eq_true (by omega)
mutual
theorem dp_rv : ∀ (n : Nat) (d : D) (v : L2.V), RV C Z ι H d v → d.shp n = true → L2.Dp C.K H v d.py ∧ d.py.canLay0 = true ∧ d.py.depth ≤ n
  | n, .non, v, r, _ => by rw [rv_unNon r]; exact ⟨.non, by simp [D.py, PyData.canLay0], by simp [D.py, PyData.depth]⟩
  | n, .bl b, v, r, _ => by rw [rv_unBl r]; exact ⟨.bl b, by simp [D.py, PyData.canLay0], by simp [D.py, PyData.depth]⟩
  | n, .int b, v, r, _ => by rw [rv_unInt r]; exact ⟨.int b, by simp [D.py, PyData.canLay0], by simp [D.py, PyData.depth]⟩
  | n, .str b, v, r, _ => by
    obtain ⟨e, a⟩ := rv_unStr r
    rw [e]
    exact ⟨.str _, by simp only [D.py, PyData.canLay0]; exact strOk_asc a, by simp [D.py, PyData.depth]⟩
  | n + 1, .tup ds, v, r, h => by
    obtain ⟨a, xs, e, t, _, q⟩ := rv_tupOf r
    have h' : shpAll n ds = true := by simpa [D.shp] using h
    obtain ⟨z1, z2, z3⟩ := dp_rvs n ds xs q h'
    rw [e]
    exact ⟨.tup (L2.SqT.of t) z1, by simp only [D.py, PyData.canLay0]; exact z2, by simp only [D.py, PyData.depth]; omega⟩
  | n + 1, .lst ds, v, r, h => by
    unfold RV at r
    obtain ⟨a, xs, e, t, _, _, q⟩ := r
    have h' : shpAll n ds = true := by simpa [D.shp] using h
    obtain ⟨z1, z2, z3⟩ := dp_rvs n ds xs q h'
    rw [e]
    exact ⟨.lst (.inl t) z1, by simp only [D.py, PyData.canLay0]; exact z2, by simp only [D.py, PyData.depth]; omega⟩
  | n + 1, .ktup ds, v, r, h => by
    unfold RV at r
    obtain ⟨a, xs, e, t, q⟩ := r
    have h' : shpAll n ds = true := by simpa [D.shp] using h
    obtain ⟨z1, z2, z3⟩ := dp_rvs n ds xs q h'
    rw [e]
    exact ⟨.tup (.inr t) z1, by simp only [D.py, PyData.canLay0]; exact z2, by simp only [D.py, PyData.depth]; omega⟩
  | 0, .tup ds, v, r, h => by simp [D.shp] at h
  | 0, .ktup ds, v, r, h => by simp [D.shp] at h
  | 0, .lst ds, v, r, h => by simp [D.shp] at h
  | n, .obj k, v, r, h => by cases n <;> simp [D.shp] at h
  | n, .fn k, v, r, h => by cases n <;> simp [D.shp] at h
  | n, .exn c d, v, r, h => by cases n <;> simp [D.shp] at h
  | n, .exv c f m d, v, r, h => by cases n <;> simp [D.shp] at h
theorem dp_rvs : ∀ (n : Nat) (ds : List D) (vs : List L2.V), RVs C Z ι H ds vs → shpAll n ds = true → L2.DpAll C.K H vs (pyAll ds) ∧ PyData.canLayAll0 (pyAll ds) = true ∧ PyData.depthAll (pyAll ds) ≤ n
  | n, [], vs, r, _ => by unfold RVs at r; subst r; exact ⟨.nil, by simp [pyAll, PyData.canLayAll0], by simp [pyAll, PyData.depthAll]⟩
  | n, d :: ds, vs, r, h => by
    obtain ⟨v, w, rfl, r1, r2⟩ := r.uncons
    have h' : d.shp n = true ∧ shpAll n ds = true := by simpa [shpAll] using h
    obtain ⟨z1, z2, z3⟩ := dp_rv n d v r1 h'.1
    obtain ⟨y1, y2, y3⟩ := dp_rvs n ds w r2 h'.2
    exact ⟨.cons z1 y1, by simp only [pyAll, PyData.canLayAll0, z2, y2, Bool.and_self], by simp only [pyAll, PyData.depthAll]; omega⟩
end
theorem shaped_rv {n : Nat} {d : D} {v : L2.V} (r : RV C Z ι H d v) (h : d.shp n = true) (hn : n ≤ 64) : L2.Dp C.K H v d.py ∧ SeqAt.shaped d.py = true := by
  obtain ⟨z1, z2, z3⟩ := dp_rv n d v r h
  refine ⟨z1, ?_⟩
  unfold SeqAt.shaped
  rw [z2, decide_eq_true (by omega : d.py.depth ≤ 64)]
  rfl
mutual
theorem eqv_py : ∀ (n m : Nat) (d e : D), d.shp n = true → e.shp m = true → PyData.eqv d.py e.py = d.eqv e
  | n, m, d, e, h, k => by
    cases d <;> (try (cases n <;> simp [D.shp] at h; done)) <;> cases e <;> (try (cases m <;> simp [D.shp] at k; done)) <;> simp only [D.py, PyData.eqv, D.eqv] <;> try rfl
    · rename_i a b
      exact SX.S_beq a b
    all_goals
      rename_i a b
      cases n with
      | zero => simp [D.shp] at h
      | succ n =>
        cases m with
        | zero => simp [D.shp] at k
        | succ m => exact eqvs_py n m a b (by simpa [D.shp] using h) (by simpa [D.shp] using k)
theorem eqvs_py : ∀ (n m : Nat) (ds es : List D), shpAll n ds = true → shpAll m es = true → PyData.eqvAll (pyAll ds) (pyAll es) = eqvAll ds es
  | n, m, [], [], _, _ => by simp [pyAll, PyData.eqvAll, eqvAll]
  | n, m, [], _ :: _, _, _ => by simp [pyAll, PyData.eqvAll, eqvAll]
  | n, m, _ :: _, [], _, _ => by simp [pyAll, PyData.eqvAll, eqvAll]
  | n, m, d :: ds, e :: es, h, k => by
    have h' : d.shp n = true ∧ shpAll n ds = true := by simpa [shpAll] using h
    have k' : e.shp m = true ∧ shpAll m es = true := by simpa [shpAll] using k
    simp only [pyAll, PyData.eqvAll, eqvAll]
    rw [eqv_py n m d e h'.1 k'.1, eqvs_py n m ds es h'.2 k'.2]
end
theorem dp_derf (S : SO C Z ι H L) {d : D} {v : L2.V} (r : RV C Z ι H d v) (h : (derf L d).shp 64 = true) : L2.Dp C.K H v (derf L d).py ∧ SeqAt.shaped (derf L d).py = true := by
  by_cases hk : ∃ k, d = .obj k
  · obtain ⟨k, rfl⟩ := hk
    unfold RV at r
    obtain ⟨a, ea, ev⟩ := r
    unfold derf at h ⊢
    simp only at h ⊢
    cases w : L[k]? with
    | none => rw [w] at h; simp [D.shp] at h
    | some o =>
      rw [w] at h
      cases o with
      | dK _ => simp [D.shp] at h
      | dT _ => simp [D.shp] at h
      | lst ds =>
        simp only at h ⊢
        obtain ⟨xs, q1, q2⟩ := S.at_ w ea
        have h' : shpAll 63 ds = true := by simpa [D.shp] using h
        obtain ⟨z1, z2, z3⟩ := dp_rvs 63 ds xs q2 h'
        subst ev
        refine ⟨.lst (.inl (.inl q1)) z1, ?_⟩
        unfold SeqAt.shaped
        have e2 : PyData.canLay0 (D.lst ds).py = true := by simp only [D.py, PyData.canLay0]; exact z2
        have e3 : PyData.depth (D.lst ds).py ≤ 64 := by simp only [D.py, PyData.depth]; omega
        rw [e2, decide_eq_true e3]
        rfl
  · have e : derf L d = d := by
      cases d <;> first | rfl | exact absurd ⟨_, rfl⟩ hk
    rw [e] at h ⊢
    exact shaped_rv r h (Nat.le_refl _)
theorem eqV_sound (hK : X.K = C.K) (hu : X.A.units + 64 < cLine) (I : L2.Inv X pins σ H s) (S : SO C Z ι H L) {x y : D} {b : Bool} (h : eqV L x y = some b) {v w : L2.V} {u u' : Value} (rx : RV C Z ι H x v) (ry : RV C Z ι H y w)
    (r1 : L2.RelV v u) (r2 : L2.RelV w u') {Q : L2.VK} : (Q (.bl b) H → wpAny (model X.prog X.w) X.A (compareOp .Eq u u') (L2.EP X pins σ Q) X.xe s) ∧ (Q (.bl (!b)) H → wpAny (model X.prog X.w) X.A (compareOp .NotEq u u') (L2.EP X pins σ Q) X.xe s) := by
  unfold eqV at h
  split at h
  · cases h
    rename_i i j
    rw [rv_unInt rx] at r1
    rw [rv_unInt ry] at r2
    have e : decide (L2.V.int i = L2.V.int j) = decide (i = j) := by rw [L2.dec_int]; exact Bool.beq_eq_decide_eq _ _
    exact ⟨fun q => L2.op_eq pins s σ H _ _ u u' Q I r1 r2 ⟨rfl, by rw [e]; exact q⟩, fun q => L2.op_ne pins s σ H _ _ u u' Q I r1 r2 ⟨rfl, by rw [e]; exact q⟩⟩
  · cases h
    rename_i i j
    obtain ⟨e1, a1⟩ := rv_unStr rx
    obtain ⟨e2, a2⟩ := rv_unStr ry
    subst e1
    subst e2
    have e : decide (L2.V.str (SX.S i) = L2.V.str (SX.S j)) = decide (i = j) := by rw [L2.dec_str]; exact SX.S_beq_eq
    exact ⟨fun q => L2.op_eq pins s σ H _ _ u u' Q I r1 r2 ⟨rfl, by rw [e]; exact q⟩, fun q => L2.op_ne pins s σ H _ _ u u' Q I r1 r2 ⟨rfl, by rw [e]; exact q⟩⟩
  · cases h
    rename_i i j
    rw [rv_unBl rx] at r1
    rw [rv_unBl ry] at r2
    have e : decide (L2.V.bl i = L2.V.bl j) = decide (i = j) := by rw [L2.dec_bl]; exact Bool.beq_eq_decide_eq _ _
    exact ⟨fun q => L2.op_eq pins s σ H _ _ u u' Q I r1 r2 ⟨rfl, by rw [e]; exact q⟩, fun q => L2.op_ne pins s σ H _ _ u u' Q I r1 r2 ⟨rfl, by rw [e]; exact q⟩⟩
  · split at h
    · cases h
      rename_i hz
      rw [Bool.and_eq_true] at hz
      obtain ⟨d1, s1⟩ := dp_derf S rx hz.1
      obtain ⟨d2, s2⟩ := dp_derf S ry hz.2
      have e := eqv_py 64 64 _ _ hz.1 hz.2
      exact ⟨fun q => L2.op_eqD hu pins s σ H _ _ u u' Q I r1 r2 ⟨_, _, hK ▸ d1, hK ▸ d2, s1, s2, by rw [e]; exact q⟩, fun q => L2.op_neD hu pins s σ H _ _ u u' Q I r1 r2 ⟨_, _, hK ▸ d1, hK ▸ d2, s1, s2, by rw [e]; exact q⟩⟩
    · cases h

/-! ### flat values -/
theorem flat_rv {d : D} {v : L2.V} (r : RV C Z ι H d v) (h : flat d = true) : L2.flatV v = true := by
  cases d <;> simp [flat] at h
  · rw [rv_unNon r]; rfl
  · rw [rv_unBl r]; rfl
  · rw [rv_unInt r]; rfl
  · rw [(rv_unStr r).1]; rfl
theorem flat_eqv {d e : D} {v w : L2.V} (r : RV C Z ι H d v) (t : RV C Z ι H e w) (h : flat d = true) (k : flat e = true) : L2.eqV v w = d.eqv e := by
  cases d <;> simp [flat] at h <;> cases e <;> simp [flat] at k
  all_goals (first | rw [rv_unNon r] | rw [rv_unBl r] | rw [rv_unInt r] | rw [(rv_unStr r).1])
  all_goals (first | rw [rv_unNon t] | rw [rv_unBl t] | rw [rv_unInt t] | rw [(rv_unStr t).1])
  all_goals simp only [L2.eqV, D.eqv]
  exact SX.S_beq _ _
theorem flats_rv : ∀ {ds : List D} {vs : List L2.V}, RVs C Z ι H ds vs → ds.all flat = true → vs.all L2.flatV = true
  | [], vs, r, _ => by unfold RVs at r; subst r; rfl
  | d :: ds, vs, r, h => by
    obtain ⟨v, w, rfl, r1, r2⟩ := r.uncons
    rw [List.all_cons, Bool.and_eq_true] at h ⊢
    exact ⟨flat_rv r1 h.1, flats_rv r2 h.2⟩
theorem inV_flat {x : D} {v : L2.V} (t : RV C Z ι H x v) (k : flat x = true) : ∀ {ds : List D} {vs : List L2.V}, RVs C Z ι H ds vs → ds.all flat = true → L2.inV v vs = ds.any fun d => d.eqv x
  | [], vs, r, _ => by unfold RVs at r; subst r; rfl
  | d :: ds, vs, r, h => by
    obtain ⟨v', w, rfl, r1, r2⟩ := r.uncons
    rw [List.all_cons, Bool.and_eq_true] at h
    have ih := inV_flat t k r2 h.2
    unfold L2.inV at ih ⊢
    rw [List.any_cons, List.any_cons, ih, flat_eqv r1 t h.1 k]
theorem any_py : ∀ {n : Nat} {x : D} {ds : List D}, x.shp 64 = true → shpAll n ds = true → ((pyAll ds).any fun e => PyData.eqv e x.py) = ds.any fun d => d.eqv x
  | n, x, [], _, _ => rfl
  | n, x, d :: ds, h, k => by
    have k' : d.shp n = true ∧ shpAll n ds = true := by simpa [shpAll] using k
    simp only [pyAll, List.any_cons]
    rw [eqv_py n 64 d x k'.1 h, any_py h k'.2]
end
end EV
end

section
set_option autoImplicit false
/-! comparisons as a whole; items, slices, isinstance -/
namespace EV
open PySem

theorem keyOf_kV {C : Cfg} {Z : Addr → Prop} {ι : List Addr} {H : L2.Hp} {d : D} {k : L2.Key} {v : L2.V} (h : keyOf d = some k) (r : RV C Z ι H d v) : v = L2.kV k := by
  cases d <;> simp only [keyOf] at h <;> cases h
  · exact rv_unInt r
  · exact (rv_unStr r).1
theorem keysOf_kV {C : Cfg} {Z : Addr → Prop} {ι : List Addr} {H : L2.Hp} : ∀ {ds : List D} {ks : List L2.Key} {vs : List L2.V}, keysOf ds = some ks → RVs C Z ι H ds vs → vs = ks.map L2.kV
  | [], ks, vs, h, r => by simp only [keysOf] at h; cases h; unfold RVs at r; subst r; rfl
  | d :: ds, ks, vs, h, r => by
    obtain ⟨v, w, rfl, r1, r2⟩ := r.uncons
    simp only [keysOf] at h
    cases e : keyOf d with
    | none => rw [e] at h; cases h
    | some k =>
      rw [e] at h
      cases e2 : keysOf ds with
      | none => rw [e2] at h; cases h
      | some q =>
        rw [e2] at h
        cases h
        rw [keyOf_kV e r1, keysOf_kV e2 r2]
        rfl
section
variable {X : L2.Cx} {C : Cfg} {Z : Addr → Prop} {ι : List Addr} {H : L2.Hp} {L : Store} {pins : List (Addr × Obj)} {s : Shared} {σ : L2.St}
/-- both none, or alike -/
def OpR2 (C : Cfg) (Z : Addr → Prop) (ι : List Addr) (H : L2.Hp) : Option D → Option L2.V → Prop
  | some d, some v => RV C Z ι H d v
  | none, none => True
  | _, _ => False
theorem KR.val {κ : Type} [DecidableEq κ] (k : κ) : ∀ {kvs : List (κ × D)} {kv : List (κ × L2.V)}, KR C Z ι H kvs kv → OpR2 C Z ι H (valK kvs k) (L2.valV kv k)
  | [], kv, h => by
    have e : kv = [] := h
    subst e
    simp [valK, L2.valV, OpR2]
  | p :: r, kv, h => by
    obtain ⟨q, t, rfl, hk, h1, h2⟩ := h
    obtain ⟨pk, pd⟩ := p
    obtain ⟨qk, qd⟩ := q
    simp only at hk h1
    subst hk
    by_cases e : pk = k
    · subst e
      rw [L2.valV_pos rfl]
      simp only [valK, if_true, OpR2]
      exact h1
    · rw [L2.valV_neg (show ¬ (pk, qd).1 = k from e)]
      simp only [valK, if_neg e]
      exact KR.val k h2
theorem KR.length {κ : Type} : ∀ {kvs : List (κ × D)} {kv : List (κ × L2.V)}, KR C Z ι H kvs kv → kvs.length = kv.length
  | [], kv, h => by have e : kv = [] := h; subst e; rfl
  | p :: r, kv, h => by
    obtain ⟨q, t, rfl, _, _, h2⟩ := h
    simp [KR.length h2]
theorem KR.map {κ : Type} [DecidableEq κ] (k : κ) {d : D} {v : L2.V} (r : RV C Z ι H d v) : ∀ {kvs : List (κ × D)} {kv : List (κ × L2.V)}, KR C Z ι H kvs kv →
    KR C Z ι H (kvs.map fun p => if p.1 = k then (p.1, d) else p) (kv.map fun p => if p.1 = k then (p.1, v) else p)
  | [], kv, h => by have e : kv = [] := h; subst e; exact rfl
  | p :: r', kv, h => by
    obtain ⟨q, t, rfl, hk, h1, h2⟩ := h
    refine ⟨_, _, rfl, ?_, ?_, KR.map k r h2⟩
    · show (if p.1 = k then (p.1, d) else p).1 = (if q.1 = k then (q.1, v) else q).1
      by_cases e : p.1 = k
      · rw [if_pos e, if_pos (hk ▸ e)]; exact hk
      · rw [if_neg e, if_neg (hk ▸ e)]; exact hk
    · show RV C Z ι H (if p.1 = k then (p.1, d) else p).2 (if q.1 = k then (q.1, v) else q).2
      by_cases e : p.1 = k
      · rw [if_pos e, if_pos (hk ▸ e)]; exact r
      · rw [if_neg e, if_neg (hk ▸ e)]; exact h1
theorem KR.append {κ : Type} {k : κ} {d : D} {v : L2.V} (r : RV C Z ι H d v) : ∀ {kvs : List (κ × D)} {kv : List (κ × L2.V)}, KR C Z ι H kvs kv → KR C Z ι H (kvs ++ [(k, d)]) (kv ++ [(k, v)])
  | [], kv, h => by have e : kv = [] := h; subst e; exact ⟨(k, v), [], rfl, rfl, r, rfl⟩
  | p :: r', kv, h => by
    obtain ⟨q, t, rfl, hk, h1, h2⟩ := h
    exact ⟨q, t ++ [(k, v)], rfl, hk, h1, KR.append r h2⟩
theorem KR.put {κ : Type} [DecidableEq κ] {kvs : List (κ × D)} {kv : List (κ × L2.V)} (h : KR C Z ι H kvs kv) (k : κ) {d : D} {v : L2.V} (r : RV C Z ι H d v) : KR C Z ι H (putK kvs k d) (L2.putK kv k v) := by
  have q := KR.val k h
  unfold putK L2.putK
  rw [L2.valV_any]
  cases e1 : valK kvs k with
  | none =>
    cases e2 : L2.valV kv k with
    | none => simp; exact KR.append r h
    | some _ => rw [e1, e2] at q; exact False.elim q
  | some _ =>
    cases e2 : L2.valV kv k with
    | none => rw [e1, e2] at q; exact False.elim q
    | some _ => simp; exact KR.map k r h
/-- d[k]: what the dict holds -/
theorem dictGet_rv (S : SO C Z ι H L) {x k : D} {o : Option D} {v w : L2.V} (h : dictGet L x k = some o) (rx : RV C Z ι H x v) (rk : RV C Z ι H k w) :
    ∃ a r, v = .ref a ∧ L2.DGet H a w r ∧ OpR2 C Z ι H o r := by
  cases x <;> simp only [dictGet] at h <;> try cases h
  rename_i n
  unfold RV at rx
  obtain ⟨a, ea, ev⟩ := rx
  subst ev
  cases e : L[n]? with
  | none => rw [e] at h; cases h
  | some ob =>
    rw [e] at h
    cases ob with
    | lst ds => cases h
    | dK kvs =>
      simp only at h
      cases eq : keyOf k with
      | none => rw [eq] at h; cases h
      | some q =>
        rw [eq] at h
        cases h
        obtain ⟨kv, q1, q2⟩ := S.at_ e ea
        rw [keyOf_kV eq rk]
        exact ⟨a, _, rfl, .k q1, KR.val q q2⟩
    | dT kvs =>
      cases k with
      | tup ds =>
        simp only at h
        cases eq : keysOf ds with
        | none => rw [eq] at h; cases h
        | some q =>
          rw [eq] at h
          cases h
          obtain ⟨kv, q1, q2⟩ := S.at_ e ea
          obtain ⟨b, xs, eb, tb, _, rb⟩ := rv_tupOf rk
          subst eb
          have e2 := keysOf_kV eq rb
          subst e2
          exact ⟨a, _, rfl, .t q1 tb, KR.val q q2⟩
      | _ => cases h

def opC : Cmp → CmpOp
  | .eq => .Eq
  | .ne => .NotEq
  | .lt => .Lt
  | .le => .LtE
  | .gt => .Gt
  | .ge => .GtE
  | .isin => .In
  | .notin => .NotIn
theorem intsOf_rv : ∀ {ds : List D} {ns : List Int} {vs : List L2.V}, intsOf ds = some ns → RVs C Z ι H ds vs → vs = ns.map L2.V.int
  | [], ns, vs, h, r => by simp only [intsOf] at h; cases h; unfold RVs at r; subst r; rfl
  | d :: ds, ns, vs, h, r => by
    obtain ⟨v, w, rfl, r1, r2⟩ := r.uncons
    cases d <;> simp only [intsOf] at h <;> try cases h
    rename_i i
    cases e : intsOf ds with
    | none => rw [e] at h; cases h
    | some l =>
      rw [e] at h
      cases h
      rw [rv_unInt r1, intsOf_rv e r2]
      rfl
theorem in_sound (hK : X.K = C.K) (hu : X.A.units + 65 < cLine) (I : L2.Inv X pins σ H s) (S : SO C Z ι H L) {x y : D} {b : Bool} (h : inV L x y = some b) {v w : L2.V} {u u' : Value} (rx : RV C Z ι H x v) (ry : RV C Z ι H y w)
    (r1 : L2.RelV v u) (r2 : L2.RelV w u') {Q : L2.VK} : (Q (.bl b) H → wpAny (model X.prog X.w) X.A (compareOp .In u u') (L2.EP X pins σ Q) X.xe s) ∧ (Q (.bl (!b)) H → wpAny (model X.prog X.w) X.A (compareOp .NotIn u u') (L2.EP X pins σ Q) X.xe s) := by
  have seqCase : ∀ {ds : List D}, seqOf L y = some ds → (flat x && ds.all flat) = true → (ds.any fun d => d.eqv x) = b →
      (Q (.bl b) H → wpAny (model X.prog X.w) X.A (compareOp .In u u') (L2.EP X pins σ Q) X.xe s) ∧ (Q (.bl (!b)) H → wpAny (model X.prog X.w) X.A (compareOp .NotIn u u') (L2.EP X pins σ Q) X.xe s) := fun {ds} e hf hb => by
    rw [Bool.and_eq_true] at hf
    obtain ⟨a, xs, ea, t, q⟩ := seqOf_rv S e ry
    have ei := inV_flat rx hf.1 q hf.2
    rw [hb] at ei
    have t' : L2.SqL X.K H a xs ∨ L2.SqT X.K H a xs := hK ▸ t
    exact ⟨fun g => L2.op_in_seq pins s σ H _ _ u u' Q I r1 r2 ⟨a, xs, ea, t', flat_rv rx hf.1, flats_rv q hf.2, by rw [ei]; exact g⟩,
      fun g => L2.op_notIn_seq pins s σ H _ _ u u' Q I r1 r2 ⟨a, xs, ea, t', flat_rv rx hf.1, flats_rv q hf.2, by rw [ei]; exact g⟩⟩
  unfold inV at h
  split at h
  · rename_i y' bs
    obtain ⟨e2, a2⟩ := rv_unStr ry
    subst e2
    split at h
    · cases h
      rename_i c
      obtain ⟨e1, a1⟩ := rv_unStr rx
      subst e1
      exact ⟨fun g => L2.op_in_sign pins s σ H _ _ u u' Q I r1 r2 ⟨c, _, rfl, rfl, g⟩, fun g => L2.op_notIn_sign pins s σ H _ _ u u' Q I r1 r2 ⟨c, _, rfl, rfl, g⟩⟩
    · cases h
      obtain ⟨e1, a1⟩ := rv_unStr rx
      subst e1
      exact ⟨fun g => L2.op_in_str pins s σ H _ _ u u' Q I r1 r2 ⟨_, _, rfl, rfl, g⟩, fun g => L2.op_notIn_str pins s σ H _ _ u u' Q I r1 r2 ⟨_, _, rfl, rfl, g⟩⟩
    · cases h
  · rename_i y' hy
    split at h
    · rename_i ds e
      split at h
      · rename_i hf
        cases h
        exact seqCase e hf rfl
      · split at h
        · cases h
        · cases h
        · rename_i ht hk
          split at h
          · rename_i hz
            cases h
            rw [Bool.and_eq_true] at hz
            have e' : listOf L y = some ds := by
              cases y <;> first | exact e | exact absurd rfl (ht _) | exact absurd rfl (hk _)
            obtain ⟨a, xs, ea, t, q⟩ := listOf_rv S e' ry
            subst ea
            obtain ⟨d1, s1⟩ := shaped_rv rx hz.1 (Nat.le_refl _)
            obtain ⟨z1, z2, z3⟩ := dp_rvs 63 ds xs q hz.2
            have d2 : L2.Dp X.K H (.ref a) (.list (pyAll ds)) := hK ▸ L2.Dp.lst (.inl t) z1
            have s2 : SeqAt.shaped (.list (pyAll ds)) = true := by
              unfold SeqAt.shaped
              have e2 : PyData.canLay0 (.list (pyAll ds)) = true := by simp only [PyData.canLay0]; exact z2
              have e3 : PyData.depth (.list (pyAll ds)) ≤ 64 := by simp only [PyData.depth]; omega
              rw [e2, decide_eq_true e3]
              rfl
            have ea2 := any_py (n := 63) hz.1 hz.2
            exact ⟨fun g => L2.op_inD hu pins s σ H _ _ u u' Q I r1 r2 ⟨_, _, hK ▸ d1, d2, s1, s2, by rw [ea2]; exact g⟩, fun g => L2.op_notInD hu pins s σ H _ _ u u' Q I r1 r2 ⟨_, _, hK ▸ d1, d2, s1, s2, by rw [ea2]; exact g⟩⟩
          · cases h
    · split at h
      · rename_i o e
        cases h
        obtain ⟨a, r, ea, g, m⟩ := dictGet_rv S e ry rx
        subst ea
        cases (show u' = Value.ref a from r2)
        have hs : r.isSome = o.isSome := by
          cases o <;> cases r <;> first | rfl | exact False.elim m
        have hu1 : X.A.units + 1 < cLine := by omega
        refine ⟨fun q => L2.d_in hu1 I g r1 fun s' J => ⟨.bl _, H, J, rfl, ?_⟩, fun q => L2.d_notIn hu1 I g r1 fun s' J => ⟨.bl _, H, J, rfl, ?_⟩⟩
        · rw [hs]; exact q
        · rw [hs]; exact q
      · cases h
theorem cmp_sound (hK : X.K = C.K) (hu : X.A.units + 65 < cLine) (I : L2.Inv X pins σ H s) (S : SO C Z ι H L) {o : Cmp} {x y : D} {b : Bool} (h : cmpV L o x y = some b) {v w : L2.V} {u u' : Value} (rx : RV C Z ι H x v) (ry : RV C Z ι H y w)
    (r1 : L2.RelV v u) (r2 : L2.RelV w u') {Q : L2.VK} (q : Q (.bl b) H) : wpAny (model X.prog X.w) X.A (compareOp (opC o) u u') (L2.EP X pins σ Q) X.xe s := by
  unfold cmpV at h
  split at h
  · exact (eqV_sound hK (by omega) I S h rx ry r1 r2).1 q
  · split at h
    · rename_i c e
      cases h
      exact (eqV_sound hK (by omega) I S e rx ry r1 r2).2 q
    · cases h
  · exact (in_sound hK hu I S h rx ry r1 r2).1 q
  · split at h
    · rename_i c e
      cases h
      exact (in_sound hK hu I S e rx ry r1 r2).2 q
    · cases h
  · split at h
    · cases h
      exact L2.op_lt pins s σ H _ _ u u' Q I r1 r2 ⟨_, _, rv_unInt rx, rv_unInt ry, q⟩
    · cases h
      exact L2.op_lt_str pins s σ H _ _ u u' Q I r1 r2 ⟨_, _, (rv_unStr rx).1, (rv_unStr ry).1, q⟩
    · split at h
      · rename_i a b' ns ms e1 e2
        cases h
        obtain ⟨la, xa, ea, ta, _, ra⟩ := rv_tupOf rx
        obtain ⟨lb, xb, eb, tb, _, rb⟩ := rv_tupOf ry
        have z1 := intsOf_rv e1 ra
        have z2 := intsOf_rv e2 rb
        subst z1
        subst z2
        exact L2.op_ltT (by omega) pins s σ H _ _ u u' Q I r1 r2 ⟨la, lb, _, _, ea, eb, .of ta, .of tb, q⟩
      · cases h
    · cases h
  · split at h
    · cases h
      exact L2.op_le pins s σ H _ _ u u' Q I r1 r2 ⟨_, _, rv_unInt rx, rv_unInt ry, q⟩
    · cases h
  · split at h
    · cases h
      exact L2.op_gt pins s σ H _ _ u u' Q I r1 r2 ⟨_, _, rv_unInt rx, rv_unInt ry, q⟩
    · cases h
  · split at h
    · cases h
      exact L2.op_ge pins s σ H _ _ u u' Q I r1 r2 ⟨_, _, rv_unInt rx, rv_unInt ry, q⟩
    · cases h

/-! ### items and slices -/
theorem rvs_atI {ds : List D} {vs : List L2.V} {i : Int} {d : D} (r : RVs C Z ι H ds vs) (h : L2.atI ds i = some d) : ∃ v, L2.atI vs i = some v ∧ RV C Z ι H d v := by
  unfold L2.atI at h ⊢
  rw [← r.length]
  cases e : L2.ixN ds.length i with
  | none => rw [e] at h; cases h
  | some j =>
    rw [e] at h
    exact r.get h
theorem ix_sound (hK : X.K = C.K) (I : L2.Inv X pins σ H s) (S : SO C Z ι H L) {x y d : D} (h : ixV L x y = some d) {v w : L2.V} (rx : RV C Z ι H x v) (ry : RV C Z ι H y w) {Q : L2.VK} (q : ∀ v', RV C Z ι H d v' → Q v' H) : L2.rIx X.K v w H Q := by
  unfold ixV at h
  split at h
  · split at h
    · rename_i a i hz
      obtain ⟨e1, a1⟩ := rv_unStr rx
      split at h
      · rename_i c e
        cases h
        refine .inr (.inr ⟨_, i, c, e1, rv_unInt ry, by rw [SX.S_len, ← big_eq]; exact hz, e, q _ ?_⟩)
        refine rv_str fun c' m => ?_
        have : c' = c := by simpa using m
        subst this
        obtain ⟨j, _, hj, _⟩ := L2.atI_get e
        exact a1 _ (List.mem_of_getElem? hj)
      · cases h
    · cases h
  · split at h
    · rename_i ds e
      obtain ⟨a, xs, ea, t, r⟩ := seqOf_rv S e rx
      obtain ⟨v', hv, rv⟩ := rvs_atI r h
      rcases t with t | t
      · exact .inl ⟨a, xs, _, v', ea, rv_unInt ry, hK ▸ t, hv, q _ rv⟩
      · exact .inr (.inl ⟨a, xs, _, v', ea, rv_unInt ry, hK ▸ t, hv, q _ rv⟩)
    · cases h
  · cases h
theorem rvs_cut {ds : List D} {vs : List L2.V} (r : RVs C Z ι H ds vs) (lo hi : Option Int) : RVs C Z ι H (cutL ds lo hi) (L2.cutV vs lo hi) := by
  unfold cutL L2.cutV
  rw [← r.length]
  exact (r.drop _).take _
theorem cut_whole {α : Type} {xs : List α} {lo hi : Option Int} (h : HT.sIx xs.length 0 lo = 0 ∧ HT.sIx xs.length xs.length hi = xs.length) : cutL xs lo hi = xs := by
  unfold cutL
  rw [h.1, h.2]
  simp
def rSlV (K : PySem.W.Frag) : L2.V → Option Int → Option Int → L2.Hp → L2.VK → Prop := fun x lo hi H Q => L2.rSlS x lo hi H Q ∨ L2.rSlA K x lo hi H Q ∨ L2.rSlL K x lo hi H Q
theorem sl_txt2 : L2.SlR X (rSlV X.K) := L2.sl_str.or (L2.sl_tupA.or L2.sl_list)
end
end EV
end

section
set_option autoImplicit false
/-! slices, isinstance, built-ins, methods -/
namespace EV
open PySem

/-- the first place of a text within a text -/
theorem occ_par {a b p q : List Nat} (hb : b ≠ []) (h : TL.par b [] a = some (p, q)) : ∃ r, Builtin.Str.occurrences (SX.S a) (SX.S b) 0 (SX.S a).length 1 = p.length :: r := by
  have e := SX.partition_some hb h
  cases o : Builtin.Str.occurrences (SX.S a) (SX.S b) 0 (SX.S a).length 1 with
  | nil =>
    unfold Txt.partition at e
    rw [o] at e
    simp only [Prod.mk.injEq] at e
    have z : SX.S [] = SX.S b := e.2.1
    exact absurd (SX.S_inj z).symm hb
  | cons i r =>
    unfold Txt.partition at e
    rw [o] at e
    simp only [Prod.mk.injEq] at e
    have hi := (StrLaws.occ_spec (SX.S a) (SX.S b) 0 (SX.S a).length 1 i (by rw [o]; exact List.mem_cons_self)).1
    rw [SX.S_len, SX.S_len] at hi
    have t := congrArg TL.tl e.1
    rw [TL.tl_strSub] at t
    have t' : ((a.drop 0).take (i - 0)) = p := t
    rw [List.drop_zero, Nat.sub_zero] at t'
    refine ⟨r, ?_⟩
    rw [← t', List.length_take, Nat.min_eq_left (by omega)]

section
variable {X : L2.Cx} {C : Cfg} {Z : Addr → Prop} {ι : List Addr} {H : L2.Hp} {L : Store} {pins : List (Addr × Obj)} {s : Shared} {σ : L2.St}
theorem asc_cut {a : List Nat} (h : asc a) (lo hi : Option Int) : asc (cutL a lo hi) := asc_sub h fun c m => List.mem_of_mem_drop (List.mem_of_mem_take m)
theorem sl_sound (hK : X.K = C.K) (S : SO C Z ι H L) {x d : D} {lo hi : Option Int} (h : slV L x lo hi = some d) {v : L2.V} (rx : RV C Z ι H x v) {Q : L2.VK} (q : ∀ v' H', L2.Same H H' → RV C Z ι H' d v' → Q v' H') : rSlV X.K v lo hi H Q := by
  have q0 : ∀ v', RV C Z ι H d v' → Q v' H := fun v' r => q v' H (L2.Same.refl H) r
  have lstCase : ∀ {ds : List D}, listOf L x = some ds → d = .lst (cutL ds lo hi) → rSlV X.K v lo hi H Q := fun {ds} e ed => by
    subst ed
    obtain ⟨a, xs, ea, t, r⟩ := listOf_rv S e rx
    exact .inr (.inr ⟨a, xs, ea, .inl t, fun p hp => q _ _ (same_upd hp) (rv_lstNew S hp (rvs_cut r lo hi))⟩)
  cases x <;> simp only [slV] at h <;> try (simp only [listOf] at h; cases h; done)
  · split at h
    · rename_i a hz
      cases h
      obtain ⟨e1, a1⟩ := rv_unStr rx
      subst e1
      refine .inl ⟨_, rfl, by rw [SX.S_len, ← big_eq]; exact hz, ?_⟩
      have e : L2.cutS (SX.S a) lo hi = SX.S (cutL a lo hi) := by
        unfold L2.cutS cutL
        first
          | rfl
          | (simp only [SX.S_len]; rfl)
          | (apply TL.ext_tl; simp [TL.tl, SX.S_len])
      rw [e]
      exact q0 _ (rv_str (asc_cut a1 lo hi))
    · cases h
  · cases h
    rename_i ds
    obtain ⟨a, xs, ea, t, nz, r⟩ := rv_tupOf rx
    refine .inr (.inl ⟨a, xs, ea, .of t, fun w => ?_, fun _ p hp => q _ _ (same_upd hp) (rv_tupNew S hp (rvs_cut r lo hi))⟩)
    rw [← r.length] at w
    rw [cut_whole w] at q0
    exact q0 _ (ea ▸ rx)
  · split at h
    · cases h
      rename_i ds' e
      exact lstCase e rfl
    · cases h
  · split at h
    · cases h
      rename_i ds' e
      exact lstCase e rfl
    · cases h

def tyN : Ty → String
  | .int => "int"
  | .str => "str"
  | .bool => "bool"
  | .tuple => "tuple"
  | .list => "list"
theorem kitT (t : Ty) : L2.kitB "NoneType" (tyN t) = some false ∧ L2.kitB "bool" (tyN t) = some (t == .bool || t == .int) ∧ L2.kitB "int" (tyN t) = some (t == .int) ∧ L2.kitB "str" (tyN t) = some (t == .str) ∧
    L2.kitB "tuple" (tyN t) = some (t == .tuple) ∧ L2.kitB "list" (tyN t) = some (t == .list) ∧ L2.kitB "dict" (tyN t) = some false := by
  cases t <;> decide +kernel
theorem isi_sound (hK : X.K = C.K) (S : SO C Z ι H L) {x : D} {t : Ty} {b : Bool} (h : isiV t L x = some b) {v : L2.V} (rx : RV C Z ι H x v) {Q : L2.VK} (q : Q (.bl b) H) : L2.rIsi X.K [v, .ty (tyN t)] H Q := by
  have fin : ∀ {ty : String} {b' : Bool}, L2.TyX X.K H v (.type ty) → L2.kitB ty (tyN t) = some b' → b' = b → L2.rIsi X.K [v, .ty (tyN t)] H Q := fun {ty b'} k e eb => by
    subst eb
    exact ⟨v, _, _, _, b', rfl, .ty _, k, L2.kit_ty e, q⟩
  cases x with
  | non => simp only [isiV] at h; cases h; have e := rv_unNon rx; subst e; exact fin (.base .non) (kitT t).1 rfl
  | bl c => simp only [isiV] at h; cases h; have e := rv_unBl rx; subst e; exact fin (.base (.bl c)) (kitT t).2.1 rfl
  | int c => simp only [isiV] at h; cases h; have e := rv_unInt rx; subst e; exact fin (.base (.int c)) (kitT t).2.2.1 rfl
  | str c => simp only [isiV] at h; cases h; obtain ⟨e, _⟩ := rv_unStr rx; subst e; exact fin (.base (.str _)) (kitT t).2.2.2.1 rfl
  | tup ds =>
    simp only [isiV] at h
    cases h
    obtain ⟨a, xs, ea, ta, _⟩ := rv_tupOf rx
    subst ea
    exact fin (.base (.tup ta)) (kitT t).2.2.2.2.1 rfl
  | ktup ds =>
    simp only [isiV] at h
    cases h
    unfold RV at rx
    obtain ⟨a, xs, ea, ⟨o, its, n, hk, hc, _⟩, _⟩ := rx
    subst ea
    exact fin (.kTuple (hK ▸ hk) hc) (kitT t).2.2.2.2.1 rfl
  | lst ds =>
    simp only [isiV] at h
    cases h
    unfold RV at rx
    obtain ⟨a, xs, ea, ta, _⟩ := rx
    subst ea
    rcases ta with ta | ⟨o, ta⟩
    · exact fin (.base (.lst ta)) (kitT t).2.2.2.2.2.1 rfl
    · exact fin (.base (.frz ta)) (kitT t).2.2.2.2.2.1 rfl
  | obj k =>
    simp only [isiV] at h
    unfold RV at rx
    obtain ⟨a, ea, ev⟩ := rx
    subst ev
    cases e : L[k]? with
    | none => rw [e] at h; cases h
    | some o =>
      rw [e] at h
      have z := S.at_ e ea
      cases o with
      | lst ds =>
        cases h
        obtain ⟨xs, q1, _⟩ := z
        exact fin (.base (.lst q1)) (kitT t).2.2.2.2.2.1 rfl
      | dK kvs =>
        cases h
        obtain ⟨xs, q1, _⟩ := z
        exact fin (.base (.dK q1)) (kitT t).2.2.2.2.2.2 rfl
      | dT kvs =>
        cases h
        obtain ⟨xs, q1, _⟩ := z
        exact fin (.base (.dT q1)) (kitT t).2.2.2.2.2.2 rfl
  | fn f => simp only [isiV] at h; cases h
  | exn c d => simp only [isiV] at h; cases h
  | exv c f m d => simp only [isiV] at h; cases h

/-! ### built-ins -/
def biF : Bi → Value
  | .len => .builtin "len"
  | .tuple => .type "tuple"
  | .all => .builtin "all"
  | .any => .builtin "any"
  | .sum => .builtin "sum"
  | .str => .type "str"
  | .int => .type "int"
theorem blsOf_rv : ∀ {ds : List D} {ns : List Bool} {vs : List L2.V}, blsOf ds = some ns → RVs C Z ι H ds vs → vs = ns.map L2.V.bl
  | [], ns, vs, h, r => by simp only [blsOf] at h; cases h; unfold RVs at r; subst r; rfl
  | d :: ds, ns, vs, h, r => by
    obtain ⟨v, w, rfl, r1, r2⟩ := r.uncons
    cases d <;> simp only [blsOf] at h <;> try cases h
    cases e : blsOf ds with
    | none => rw [e] at h; cases h
    | some l =>
      rw [e] at h
      cases h
      rw [rv_unBl r1, blsOf_rv e r2]
      rfl
theorem strsOf_rv : ∀ {ds : List D} {ns : List (List Nat)} {vs : List L2.V}, strsOf ds = some ns → RVs C Z ι H ds vs → vs = (ns.map SX.S).map L2.V.str ∧ ∀ y ∈ ns, asc y
  | [], ns, vs, h, r => by simp only [strsOf] at h; cases h; unfold RVs at r; subst r; exact ⟨rfl, fun _ m => by cases m⟩
  | d :: ds, ns, vs, h, r => by
    obtain ⟨v, w, rfl, r1, r2⟩ := r.uncons
    cases d <;> simp only [strsOf] at h <;> try cases h
    cases e : strsOf ds with
    | none => rw [e] at h; cases h
    | some l =>
      rw [e] at h
      cases h
      obtain ⟨e1, a1⟩ := rv_unStr r1
      obtain ⟨e2, a2⟩ := strsOf_rv e r2
      rw [e1, e2]
      refine ⟨rfl, fun y m => ?_⟩
      rcases List.mem_cons.mp m with m | m
      · subst m; exact a1
      · exact a2 y m
theorem asc_num (n : Nat) : asc (TL.numL n) := fun c m => by
  have := TL.numL_digits n c m
  omega
theorem bi_sound (hK : X.K = C.K) (hc : X.calm = true) (I : L2.Inv X pins σ H s) (S : SO C Z ι H L) {b : Bi} {xs : List D} {d : D} (h : biV L b xs = some d) {vs : List L2.V} {us : List Value} (rx : RVs C Z ι H xs vs) (r1 : L2.Vals vs us) {Q : L2.VK}
    (q : ∀ v' H', L2.Same H H' → RV C Z ι H' d v' → Q v' H') : wpAny (model X.prog X.w) X.A (call (biF b) us) (L2.EP X pins σ Q) X.xe s := by
  have q0 : ∀ v', RV C Z ι H d v' → Q v' H := fun v' r => q v' H (L2.Same.refl H) r
  obtain ⟨x, rfl⟩ : ∃ x, xs = [x] := by
    cases b <;> cases xs with
    | nil => simp [biV] at h
    | cons x r => cases r with
      | nil => exact ⟨x, rfl⟩
      | cons _ _ => simp [biV] at h
  obtain ⟨v, w, rfl, rv, rw'⟩ := rx.uncons
  have ew : w = [] := by unfold RVs at rw'; exact rw'
  subst ew
  cases b with
  | len =>
    by_cases hs : ∃ a, x = .str a
    · obtain ⟨a, rfl⟩ := hs
      simp only [biV] at h
      split at h
      · rename_i hz
        cases h
        obtain ⟨e1, a1⟩ := rv_unStr rv
        refine L2.call_len_str pins s σ H _ us Q I r1 ⟨_, by rw [e1], by rw [SX.S_len, ← big_eq]; exact hz, ?_⟩
        rw [SX.S_len]
        exact q0 _ rv_int
      · cases h
    · have h' : (match seqOf L x with
        | some ds => some (D.int ds.length)
        | none => match x with
          | .obj k => match L[k]? with
            | some (.dK kvs) => some (.int kvs.length)
            | _ => none
          | _ => none) = some d := by
        cases x <;> first | exact h | exact absurd ⟨_, rfl⟩ hs
      cases e : seqOf L x with
      | some ds =>
        rw [e] at h'
        cases h'
        obtain ⟨a, xs, ea, t, r⟩ := seqOf_rv S e rv
        subst ea
        refine L2.call_len_seq pins s σ H _ us Q I r1 ⟨a, xs, rfl, hK ▸ t, ?_⟩
        rw [← r.length]
        exact q0 _ rv_int
      | none =>
        rw [e] at h'
        cases x <;> simp only at h' <;> try cases h'
        rename_i k
        cases e2 : L[k]? with
        | none => rw [e2] at h'; cases h'
        | some o =>
          rw [e2] at h'
          cases o <;> try cases h'
          unfold RV at rv
          obtain ⟨a, ea, ev⟩ := rv
          subst ev
          obtain ⟨kv, q1, q2⟩ := S.at_ e2 ea
          obtain ⟨u, rfl, ru⟩ := L2.vals1 r1
          cases (show u = Value.ref a from ru)
          refine L2.d_len I (.inl q1) fun t s' J => ⟨.int _, H, J, ⟨t, rfl⟩, ?_⟩
          rw [← q2.length]
          exact q0 _ rv_int
  | tuple =>
    by_cases hs : ∃ a, x = .ktup a
    · obtain ⟨a, rfl⟩ := hs
      simp only [biV] at h
      cases h
      have rv' := rv
      unfold RV at rv'
      obtain ⟨p, xs, ea, t, r⟩ := rv'
      subst ea
      exact L2.call_tuple_of pins s σ H _ us Q I r1 ⟨p, xs, rfl, .inr ⟨.inr (hK ▸ t), q0 _ rv⟩⟩
    · have h' : (match seqOf L x with
        | some ds => some (D.tup ds)
        | none => none) = some d := by
        cases x <;> first | exact h | exact absurd ⟨_, rfl⟩ hs
      cases e : seqOf L x with
      | none => rw [e] at h'; cases h'
      | some ds =>
        rw [e] at h'
        cases h'
        by_cases ht : ∃ es, x = .tup es
        · obtain ⟨es, rfl⟩ := ht
          simp only [seqOf] at e
          cases e
          obtain ⟨p, xs, ea, t, _, r⟩ := rv_tupOf rv
          subst ea
          exact L2.call_tuple_of pins s σ H _ us Q I r1 ⟨p, xs, rfl, .inr ⟨.of t, q0 _ rv⟩⟩
        · have e' : listOf L x = some ds := by
            cases x <;> first | exact e | exact absurd ⟨_, rfl⟩ ht | exact absurd ⟨_, rfl⟩ hs
          obtain ⟨p, xs, ea, t, r⟩ := listOf_rv S e' rv
          subst ea
          exact L2.call_tuple_of pins s σ H _ us Q I r1 ⟨p, xs, rfl, .inl ⟨.inl t, fun l hl => q _ _ (same_upd hl) (rv_tupNew S hl r)⟩⟩
  | all =>
    simp only [biV] at h
    cases e : listOf L x with
    | none => rw [e] at h; cases h
    | some ds =>
      rw [e] at h
      cases e2 : blsOf ds with
      | none => simp only [e2] at h; cases h
      | some bs =>
        simp only [e2] at h
        cases h
        obtain ⟨p, xs, ea, t, r⟩ := listOf_rv S e rv
        subst ea
        have z := blsOf_rv e2 r
        subst z
        exact L2.cr_all hc pins s σ H _ us Q I r1 ⟨p, bs, rfl, .inl t, q0 _ rv_bl⟩
  | any =>
    simp only [biV] at h
    cases e : listOf L x with
    | none => rw [e] at h; cases h
    | some ds =>
      rw [e] at h
      cases e2 : blsOf ds with
      | none => simp only [e2] at h; cases h
      | some bs =>
        simp only [e2] at h
        cases h
        obtain ⟨p, xs, ea, t, r⟩ := listOf_rv S e rv
        subst ea
        have z := blsOf_rv e2 r
        subst z
        exact L2.cr_any hc pins s σ H _ us Q I r1 ⟨p, bs, rfl, .inl t, q0 _ rv_bl⟩
  | sum =>
    simp only [biV] at h
    cases e : listOf L x with
    | none => rw [e] at h; cases h
    | some ds =>
      rw [e] at h
      cases e2 : intsOf ds with
      | none => simp only [e2] at h; cases h
      | some bs =>
        simp only [e2] at h
        cases h
        obtain ⟨p, xs, ea, t, r⟩ := listOf_rv S e rv
        subst ea
        have z := intsOf_rv e2 r
        subst z
        exact L2.cr_sum hc pins s σ H _ us Q I r1 ⟨p, bs, rfl, .inl t, q0 _ rv_int⟩
  | str =>
    cases x <;> simp only [biV] at h <;> try cases h
    rotate_left
    · obtain ⟨e1, a1⟩ := rv_unStr rv
      exact SkE.call_str_str pins s σ H _ us Q I r1 ⟨_, by rw [e1], q0 _ (rv_str a1)⟩
    rename_i i
    split at h
    · rename_i hz
      cases h
      refine L2.call_str_int pins s σ H _ us Q I r1 ⟨i, by rw [rv_unInt rv], hz.2, ?_⟩
      have e : (Str.ofString (toString i) : Str) = SX.S (TL.numL i.toNat) := by
        have := SX.num_S i.toNat
        rw [Int.toNat_of_nonneg hz.1] at this
        exact this
      have q' := q0 _ (rv_str (asc_num i.toNat))
      rw [← e] at q'
      exact q'
    · cases h
  | int =>
    cases x <;> simp only [biV] at h <;> try cases h
    · exact L2.call_int1 pins s σ H _ us Q I r1 (.inl ⟨_, by rw [rv_unInt rv], q0 _ rv_int⟩)
    · split at h
      · rename_i hz
        split at h
        · rename_i n en
          cases h
          exact L2.call_int_str pins s σ H _ us Q I r1 ⟨_, n, by rw [(rv_unStr rv).1], en, by rw [SX.S_len]; exact hz, q0 _ rv_int⟩
        · cases h
      · cases h

/-! ### methods -/
def meId : Me → String
  | .split => "str.split"
  | .join => "str.join"
  | .index => "str.index"
  | .append => "list.append"
  | .count => "str.count"
  | .startswith => "str.startswith"
  | .endswith => "str.endswith"
theorem asc_spl {S : List Nat} : ∀ (k : Nat) (acc l : List Nat), asc acc → asc l → ∀ y ∈ TL.spl S k acc l, asc y
  | k, acc, [], h, _, y, m => by
    rw [TL.spl_nil] at m
    have : y = acc := by simpa using m
    subst this; exact h
  | 0, acc, c :: r, h, t, y, m => by
    unfold TL.spl at m
    split at m
    · rcases List.mem_cons.mp m with m | m
      · subst m; exact h
      · exact asc_spl (S.length - 1) [] r (fun _ m => by cases m) (fun x q => t x (List.mem_cons_of_mem _ q)) y m
    · exact asc_spl 0 (acc ++ [c]) r (asc_append h fun x q => by
        have : x = c := by simpa using q
        subst this; exact t _ List.mem_cons_self) (fun x q => t x (List.mem_cons_of_mem _ q)) y m
  | k + 1, acc, c :: r, h, t, y, m => by
    unfold TL.spl at m
    exact asc_spl k acc r h (fun x q => t x (List.mem_cons_of_mem _ q)) y m
theorem asc_join {a : List Nat} (h : asc a) : ∀ {ys : List (List Nat)}, (∀ y ∈ ys, asc y) → asc (TL.joinL a ys)
  | [], _ => fun _ m => by cases m
  | [p], t => t p List.mem_cons_self
  | p :: q :: r, t => by
    show asc (p ++ (a ++ TL.joinL a (q :: r)))
    exact asc_append (t p List.mem_cons_self) (asc_append h (asc_join h fun y m => t y (List.mem_cons_of_mem _ m)))
theorem me_sound (hK : X.K = C.K) (I : L2.Inv X pins σ H s) (S : SO C Z ι H L) {m : Me} {o : D} {xs : List D} {d : D} (h : meV L m o xs = some d) {v : L2.V} {vs : List L2.V} {u : Value} {us : List Value} (ro : RV C Z ι H o v) (rx : RVs C Z ι H xs vs) (r0 : L2.RelV v u)
    (r1 : L2.Vals vs us) {Q : L2.VK} (q : ∀ v' H', L2.Same H H' → RV C Z ι H' d v' → Q v' H') : wpAny (model X.prog X.w) X.A (call (.builtin (meId m)) (u :: us)) (L2.EP X pins σ Q) X.xe s := by
  have q0 : ∀ v', RV C Z ι H d v' → Q v' H := fun v' r => q v' H (L2.Same.refl H) r
  unfold meV at h
  split at h
  · rename_i a b
    split at h
    · rename_i hz
      cases h
      obtain ⟨y, w, rfl, r2, r3⟩ := rx.uncons
      have ew : w = [] := by unfold RVs at r3; exact r3
      subst ew
      obtain ⟨e1, a1⟩ := rv_unStr ro
      obtain ⟨e2, a2⟩ := rv_unStr r2
      have hlen : ((SX.S b).length == 0) = false := by
        rw [SX.S_len]
        cases b with
        | nil => exact absurd rfl hz.1
        | cons _ _ => rfl
      refine L2.mt_split pins s σ H _ _ u us Q I r0 r1 ⟨_, _, e1, by rw [e2], hlen, by rw [SX.S_len, ← big_eq]; exact hz.2.2, fun p hp => ?_⟩
      rw [SX.split_S hz.1 hz.2.1]
      refine q _ _ (same_upd hp) ?_
      have es : (((TL.spl b 0 [] a).map SX.S).map L2.V.str) = (TL.spl b 0 [] a).map fun y => L2.V.str (SX.S y) := by rw [List.map_map]; rfl
      rw [es]
      exact rv_lstNew S hp (RVs.map_str (asc_spl 0 [] a (fun _ m => by cases m) a1))
    · cases h
  · rename_i a x
    split at h
    · rename_i ds e
      split at h
      · rename_i ys e2
        split at h
        · rename_i hz
          cases h
          obtain ⟨y, w, rfl, r2, r3⟩ := rx.uncons
          have ew : w = [] := by unfold RVs at r3; exact r3
          subst ew
          obtain ⟨e1, a1⟩ := rv_unStr ro
          obtain ⟨p, xs, ea, t, r⟩ := seqOf_rv S e r2
          subst ea
          obtain ⟨z1, z2⟩ := strsOf_rv e2 r
          subst z1
          refine L2.mt_join pins s σ H _ _ u us Q I r0 r1 ⟨_, p, ys.map SX.S, e1, rfl, hK ▸ t, ?_, ?_⟩
          · rw [SX.lens, List.length_map, SX.S_len, Nat.mul_comm]
            exact hz
          · rw [SX.join_S]
            exact q0 _ (rv_str (asc_join a1 z2))
        · cases h
      · cases h
    · cases h
  · rename_i a b
    split at h
    · rename_i hz
      split at h
      · rename_i p e
        cases h
        obtain ⟨y, w, rfl, r2, r3⟩ := rx.uncons
        have ew : w = [] := by unfold RVs at r3; exact r3
        subst ew
        obtain ⟨e1, a1⟩ := rv_unStr ro
        obtain ⟨e2, a2⟩ := rv_unStr r2
        obtain ⟨pp, pq⟩ := p
        obtain ⟨r, hr⟩ := occ_par hz e
        exact L2.mt_sindex pins s σ H _ _ u us Q I r0 r1 ⟨_, _, _, r, e1, by rw [e2], hr, q0 _ rv_int⟩
      · cases h
    · cases h
  · rename_i a b
    cases h
    obtain ⟨y, w, rfl, r2, r3⟩ := rx.uncons
    have ew : w = [] := by unfold RVs at r3; exact r3
    subst ew
    exact L2.mt_startswith pins s σ H _ _ u us Q I r0 r1 ⟨_, _, (rv_unStr ro).1, by rw [(rv_unStr r2).1], q0 _ rv_bl⟩
  · rename_i a b
    cases h
    obtain ⟨y, w, rfl, r2, r3⟩ := rx.uncons
    have ew : w = [] := by unfold RVs at r3; exact r3
    subst ew
    exact L2.mt_endswith pins s σ H _ _ u us Q I r0 r1 ⟨_, _, (rv_unStr ro).1, by rw [(rv_unStr r2).1], q0 _ rv_bl⟩
  · cases h
end
end EV
end

section
set_option autoImplicit false
/-! What is raised: out of calls, out of a comprehension's block. -/
namespace EV
open PySem PySem.Spec PyProof.Rows L2

/-- an exception in the air, new or come out of a call -/
def XE2 (X : L2.Cx) (W : L2.WX) (u : Value) (s' : Shared) : Prop :=
  ∃ (a : Addr) (B : Heap) (sI : Shared) (pins : List (Addr × Obj)) (σ : L2.St) (H : L2.Hp) (cls : Value) (d : Option Addr),
    u = .ref a ∧ L2.Inv X pins σ H sI ∧ (∀ b o, sI.heap.get? b = some o → b ∉ L2.frs X.stack → B.get? b = some o) ∧ sI.heap.UpToSlots s'.heap ∧
      HandSPX.FlyingZ B X.stack a (L2.Zc cls d) s'.heap ∧ H a = none ∧ s'.os = sI.os ∧ AllBare s'.gens ∧ W cls d σ H
def Takes2 (X : L2.Cx) (W : L2.WX) : Prop := ∀ u s', XE2 X W u s' → X.xe u s'
theorem Takes2.of {X : L2.Cx} {W : L2.WX} (t : L2.Takes X W) : Takes2 X W := fun u s' ⟨a, B, sI, pins, σ, H, cls, d, e, I, nb, up, fl, na, os, ag, w⟩ =>
  t u s' ⟨a, B, sI, pins, σ, H, cls, d, e, I, nb, up, .inr (.inl fl), na, os, ag, w⟩
theorem takes2_none {X : L2.Cx} : Takes2 X fun _ _ _ _ => False := fun _ _ ⟨_, _, _, _, _, _, _, _, _, _, _, _, _, _, _, _, w⟩ => w.elim
section
variable {X : L2.Cx} {pins : List (Addr × Obj)} {σ : L2.St} {H : L2.Hp} {s s' : Shared} {W : L2.WX} {E : L2.XK}
theorem XE2.of_call (I : L2.Inv X pins σ H s) (hW : ∀ cls d H', E cls d H' → W cls d σ H') {u : Value} (c : L2.CX X.prog X.w X.stack H s E u s') : XE2 X W u s' := by
  obtain ⟨a, B, H1, cls, d, rfl, fl, hok, ub, na, eo, ag, hE⟩ := c
  obtain ⟨G, g1, g2⟩ := L2.restrict s'.heap fun b => (B.get? b).isSome || decide (b ∈ L2.frs X.stack)
  have st : B.StaysIn s'.heap := fl.1
  have inB : ∀ b o, B.get? b = some o → G.get? b = some o := fun b o e => by
    rw [g1 b (by simp [e])]; exact st b o e
  have inF : ∀ b, b ∈ L2.frs X.stack → G.get? b = s'.heap.get? b := fun b m => g1 b (by simp [m])
  have back : ∀ b o, G.get? b = some o → s'.heap.get? b = some o ∧ ((B.get? b).isSome = true ∨ b ∈ L2.frs X.stack) := fun b o e => by
    cases q : ((B.get? b).isSome || decide (b ∈ L2.frs X.stack)) with
    | false => rw [g2 b q] at e; cases e
    | true => rw [g1 b q] at e; exact ⟨e, by simpa [Bool.or_eq_true] using q⟩
  have un : L2.Un (L2.frs X.stack) [] H H1 s.heap G :=
    { keep := fun b o e n m _ => inB b o (ub.keep b o e n m)
      slot := fun b o e n m _ => by
        obtain ⟨sl, q⟩ := ub.slot b o e m
        exact ⟨sl, by rw [inF b m]; exact q⟩
      free := fun b o e n _ => ub.free b o e n
      there := fun b o e _ => by
        by_cases m : b ∈ L2.frs X.stack
        · obtain ⟨sl, q⟩ := ub.slot b o e m
          exact ⟨_, by rw [inF b m]; exact q⟩
        · obtain ⟨o', q⟩ := ub.there b o e m
          exact ⟨o', inB b o' q⟩
      tups := ub.tups
      frzs := ub.frzs
      tbls := ub.tbls }
  have J : L2.Inv X pins σ H1 { s with heap := G, gens := s'.gens, drawn := s'.drawn, toks := s'.toks } := I.call un (hok.kept inB) ag (fun _ z => nomatch z)
  refine ⟨a, B, _, pins, σ, H1, cls, d, rfl, J, fun b o e m => ?_, Heap.UpToSlots.of_keeps fun b o e => (back b o e).1, fl, na, eo, ag, hW _ _ _ hE⟩
  obtain ⟨e', h⟩ := back b o e
  rcases h with h | h
  · obtain ⟨o', q⟩ := Option.isSome_iff_exists.mp h
    have z := st b o' q
    rw [e'] at z; cases z
    exact q
  · exact absurd h m
theorem passes_at (tk : Takes2 X W) : ∀ (pins : List (Addr × Obj)) (σ : L2.St) (H : L2.Hp) (s : Shared) (e : Value) (s' : Shared), L2.Inv X pins σ H s → L2.CX X.prog X.w X.stack H s (fun cls d H' => W cls d σ H') e s' → X.xe e s' :=
  fun _ _ _ _ e s' I c => tk e s' (XE2.of_call I (fun _ _ _ h => h) c)
end

/-! ### a comprehension whose block may let an exception out, in a def's own body -/
/-- a block's context with a wish about exceptions -/
abbrev blkX (X : L2.Cx) (s : Shared) (H : L2.Hp) (scope : Scope) (cenv : PySem.Env) (fp : List Addr) (xe : Value → Shared → Prop) : L2.Cx := { X.blk s H scope cenv fp with xe := xe }
theorem inv_blkX {X : L2.Cx} {s₀ : Shared} {H₀ : L2.Hp} {scope : Scope} {cenv : PySem.Env} {fp : List Addr} {xe : Value → Shared → Prop} {pins : List (Addr × Obj)} {σ : L2.St} {H : L2.Hp} {s : Shared}
    (I : L2.Inv (X.blk s₀ H₀ scope cenv fp) pins σ H s) : L2.Inv (blkX X s₀ H₀ scope cenv fp xe) pins σ H s := I.wish xe

section
variable {X : L2.Cx} {W : L2.WX}
/-- [elt for target in iter if ..] with what a turn may raise -/
def tLcX (wi : L2.TI) (g : L2.TG) (tt : L2.WX → L2.TT) (te : L2.WX → L2.TE) (vs : List Nat) (W : L2.WX) : L2.TE := fun σ H Q =>
  L2.tLc wi g (tt fun cls d _ H' => W cls d σ H') (te fun cls d _ H' => W cls d σ H') vs σ H Q
theorem lc_coreX {pins : List (Addr × Obj)} {s : Shared} {σ : L2.St} {H : L2.Hp} {Q : L2.VK} {elt tg iter : Expr} {ifs : List Expr} {scope : Scope} {own : List (Str × Nat)} {pos pos' : Pos} {wi : L2.TI} {g : L2.TG} {tt : L2.WX → L2.TT} {te : L2.WX → L2.TE}
    {use : Option (Value → Sem Unit)} {Qf : Value → Shared → Prop}
    (hs0 : X.stack = X.env :: X.outer) (hf : X.env.frame = some X.env.locals) (tk : L2.Takes X W)
    (hc : X.calm = true) (hN : X.N.Nodup) (I : L2.Inv X pins σ H s) (hi : L2.PI X tg iter wi) (ok : L2.BlkOk X.N X.env.scope scope own)
    (hg : ∀ (s : Shared) (H : L2.Hp) (C : Addr) (cl : List (Str × Addr)) (fp : List Addr) (xe : Value → Shared → Prop), L2.PG (blkX X s H scope (compEnvC scope cl C X.env) fp xe) tg g)
    (ht : ∀ (s : Shared) (H : L2.Hp) (C : Addr) (cl : List (Str × Addr)) (fp : List Addr) (xe : Value → Shared → Prop) (W' : L2.WX), Takes2 (blkX X s H scope (compEnvC scope cl C X.env) fp xe) W' → L2.PTs (blkX X s H scope (compEnvC scope cl C X.env) fp xe) ifs (tt W'))
    (he : ∀ (s : Shared) (H : L2.Hp) (C : Addr) (cl : List (Str × Addr)) (fp : List Addr) (xe : Value → Shared → Prop) (W' : L2.WX), Takes2 (blkX X s H scope (compEnvC scope cl C X.env) fp xe) W' → L2.PE (blkX X s H scope (compEnvC scope cl C X.env) fp xe) elt (te W'))
    (hs : ∀ x, foldedSetIterable iter X.env x = pure x)
    (h : tLcX wi g tt te (own.map (·.2)) W σ H Q)
    (hRR : ∀ D C (ce : PySem.Env) s' m H', ce.locals = C → L2.Inv X pins σ H' s' → Q (.ref D) H' → s'.heap.Ns C m → L2.FpOk X pins H' C → compEnds (model X.prog X.w) X.A X.xe use Qf (.ref D) ce (.ok .next) s') :
    wpAny (model X.prog X.w) X.A (comprehension (.ListComp elt [⟨tg, iter, ifs, 0⟩] scope pos) scope X.env pos' (newList []) false (eval iter X.env) use) Qf X.xe s := by
  have hfree : ∀ y ∈ scope.names, y.2 = .free → ∃ c, X.env.cells.lookup y.1 = some c := fun y hy e => by
    rcases ok.free y hy e with k | k
    · exact I.ok.has _ (.inl k)
    · exact I.ok.has _ (.inr k)
  have hfr : X.A.frames = some (X.env :: X.outer) := by rw [I.ok.frames, hs0]
  refine comprehension_at (use := use) rfl hs (L2.closure_ok hfree) ok.kind (fun y hy e => by rw [ok.uniq y hy, e])
    (L2.thn (hi.run pins s σ H _ I h) fun xv s1 hx => L2.thn hx fun itv s2 h2 => ?_)
  obtain ⟨it, fp, tn, J, H2, e, I2, T, st2, f2, q⟩ := h2
  subst e
  refine wpAny_newObj_type (L2.newEnv_comp ?_) (by show 0 ≤ sizeLine; decide)
  generalize hD : s2.heap.objs.size = D
  have hDn : H2 D = none := I2.hok.fresh (Nat.le_of_eq hD)
  obtain ⟨V, ⟨m0, w0⟩, turn⟩ := q D hDn
  generalize hs3 : ({ s2 with heap := s2.heap.push { cls := .type "list", data := .seq ([] : List Value).toArray } } : Shared) = s3
  have I3 : L2.Inv X pins σ (L2.upd H2 D (.lst [])) s3 := by
    rw [← hs3]
    refine I2.laid (t' := s2.toks) (fun b o e => Heap.get?_push_of_some _ e) (Nat.le_of_eq hD) ⟨Nat.zero_le _, [], 0, .nil, ?_⟩
    rw [← hD]
    exact Heap.get?_push_size _ rfl
  have h3 : s3.heap = s2.heap.push { cls := .type "list", data := .seq ([] : List Value).toArray } := by rw [← hs3]
  have sz : ∀ b ∈ fp, b < s2.heap.objs.size := fun b hb => by
    obtain ⟨o, e, _⟩ := T.obj _ _ st2 b hb
    exact Heap.lt_size e
  have f3 : ∀ b ∈ fp, L2.FpOk X pins (L2.upd H2 D (.lst [])) b ∧ b < s3.heap.objs.size := fun b hb => by
    have hlt := sz b hb
    refine ⟨⟨?_, (f2 b hb).2⟩, by rw [h3, Heap.size_push]; exact Nat.lt_succ_of_lt hlt⟩
    rw [L2.upd_ne (by rw [← hD]; exact Nat.ne_of_lt hlt)]
    exact (f2 b hb).1
  have st3 : tn 0 s3.heap := T.keep _ _ _ st2 fun b _ o e => by rw [h3]; exact Heap.get?_push_of_some _ e
  have I4 := L2.block_start I3 ok hN f3
  have pg := hg s3 (L2.upd H2 D (.lst [])) s3.heap.objs.size (cellsFrom (s3.heap.objs.size + 1) scope.names (L2.cloFrom X.env.cells scope.names [])) fp
  have pt := ht s3 (L2.upd H2 D (.lst [])) s3.heap.objs.size (cellsFrom (s3.heap.objs.size + 1) scope.names (L2.cloFrom X.env.cells scope.names [])) fp
  have pe := he s3 (L2.upd H2 D (.lst [])) s3.heap.objs.size (cellsFrom (s3.heap.objs.size + 1) scope.names (L2.cloFrom X.env.cells scope.names [])) fp
  show codeAny _ _ (.compStart (.ListComp elt [⟨tg, iter, ifs, 0⟩] scope pos) 0 (.ref it) (.ref D) (compEnvC scope (cellsFrom (s3.heap.objs.size + 1) scope.names (L2.cloFrom X.env.cells scope.names [])) s3.heap.objs.size X.env))
    (compEnds (model X.prog X.w) X.A X.xe use Qf (.ref D) (compEnvC scope (cellsFrom (s3.heap.objs.size + 1) scope.names (L2.cloFrom X.env.cells scope.names [])) s3.heap.objs.size X.env)) { s3 with heap := pushCells (s3.heap.push { cls := .type "dict", data := .dict #[] }) scope.names }
  have nfp : ∀ b ∈ fp, (L2.upd H2 D (.lst [])) b = none := fun b hb => (f3 b hb).1.1
  generalize hce : compEnvC scope (cellsFrom (s3.heap.objs.size + 1) scope.names (L2.cloFrom X.env.cells scope.names [])) s3.heap.objs.size X.env = ce at I4 pg pt pe ⊢
  have cL : ce.locals = s3.heap.objs.size := by subst hce; rfl
  have cF : ce.frame = X.env.frame := by subst hce; rfl
  generalize hH3 : L2.upd H2 D (.lst []) = H3 at I3 I4 pg pt pe w0 nfp f3
  generalize hs4 : ({ s3 with heap := pushCells (s3.heap.push { cls := .type "dict", data := .dict #[] }) scope.names } : Shared) = s4 at I4 ⊢
  have st4 : tn 0 s4.heap := T.keep _ _ _ st3 fun b _ o e => by rw [← hs4]; exact pushCells_keeps _ _ _ _ (Heap.get?_push_of_some _ e)
  -- what is wished of an exception of the block
  generalize hW : (fun cls d (_ : L2.St) H' => W cls d σ H' : L2.WX) = W' at pt pe turn
  generalize hxe : (notedBy (model X.prog X.w) X.A ce fun e s' => compEnds (model X.prog X.w) X.A X.xe use Qf (.ref D) ce (.error e) s') = xe
  have tkB : Takes2 (blkX X s3 H3 scope ce fp xe) W' := by
    rintro u s' ⟨a, B, sI, pins', σ', H', cls, d, rfl, J', nb, up, fl, na, os, ag, w⟩
    have Jb : L2.Inv (X.blk s3 H3 scope ce fp) pins' σ' H' sI := J'.unwish
    show xe (.ref a) s'
    rw [← hxe]
    have fl' : HandSPX.FlyingZ B (X.env :: X.outer) a (L2.Zc cls d) s'.heap := by rw [← hs0]; exact fl
    show wpAny _ _ (noteFrame (.ref a) ce) _ _ s'
    rw [noteFrame_env _ cF]
    refine HandSPX.looks_onZ L2.Zc.steady hfr hf fl' fun h1 hh1 up1 => ?_
    -- back in the def's context
    have JX : L2.Inv X pins σ H' sI := I3.call' (ch := fp) Jb.os Jb.base Jb.hok Jb.bare fun b hb => ⟨(f3 b hb).1.2.2.2.1, (f3 b hb).1.2.1, (f3 b hb).1.2.2.2.2.1, (f3 b hb).1.2.2.2.2.2⟩
    obtain ⟨mI, hnI, _⟩ := Jb.loc
    have hnI : sI.heap.Ns ce.locals mI := hnI
    have nC : H' ce.locals = none := Jb.free
    have Cfs : ce.locals ∉ L2.frs X.stack := fun hm => by
      have z := I3.stack
      obtain ⟨_, o, ho, _⟩ := z.mem hm
      rw [cL] at ho
      exact absurd (Heap.lt_size ho) (Nat.lt_irrefl _)
    have CB : B.get? ce.locals = sI.heap.get? ce.locals := by
      obtain ⟨oC, es, ep, hoC, _⟩ := hnI
      rw [hoC]
      exact nb _ _ hoC Cfs
    have ns1 : h1.Ns ce.locals mI := by
      obtain ⟨oC, es, ep, hoC, r⟩ := hnI
      exact ⟨oC, es, ep, hh1.1 _ _ (CB.trans hoC), r⟩
    refine ⟨mI, ns1, fun h2 m2 hn2 sb2 => ?_⟩
    -- the block's own dict apart from the ground
    obtain ⟨G, g1, g2⟩ := L2.restrict B fun b => decide (b ≠ ce.locals)
    have gG : ∀ b, b ≠ ce.locals → G.get? b = B.get? b := fun b hb => g1 b (decide_eq_true hb)
    have gN : G.get? ce.locals = none := g2 _ (by simp)
    have gB : ∀ b o, G.get? b = some o → B.get? b = some o := fun b o e => by
      by_cases hb : b = ce.locals
      · rw [hb, gN] at e; cases e
      · rw [gG b hb] at e; exact e
    obtain ⟨k1, k2, k3, oe, vs, Tr, oT, ts, he1, hz1, hd1, h11, nT, Te, hT, hdT, h33⟩ := hh1
    have ne_a : a ≠ ce.locals := fun z => by
      obtain ⟨oC, es, ep, hoC, hdC, _⟩ := ns1
      rw [z, hoC] at he1; cases he1; rw [hd1] at hdC; cases hdC
    have ne_T : Tr ≠ ce.locals := fun z => by
      obtain ⟨oC, es, ep, hoC, hdC, _⟩ := ns1
      rw [z, hoC] at hT; cases hT; rw [hdT] at hdC; cases hdC
    have kk : ∀ b o, b ≠ ce.locals → h1.get? b = some o → h2.get? b = some o := fun b o hb e => (sb2.2 b hb).trans e
    have G2 : G.StaysIn h2 := fun b o e => by
      by_cases hb : b = ce.locals
      · rw [hb, gN] at e; cases e
      · exact kk b o hb (k1 b o (gB b o e))
    have frsC : ∀ L ∈ L2.frs (X.env :: X.outer), L ≠ ce.locals := fun L m z => Cfs (by rw [hs0]; rw [z] at m; exact m)
    have ff2 : h2.FunFrames G (X.env :: X.outer) := by
      have go : ∀ {l : List PySem.Env}, (∀ L ∈ L2.frs l, L ≠ ce.locals) → h1.FunFrames B l → h2.FunFrames G l := by
        intro l
        induction l with
        | nil => intro _ _; trivial
        | cons env l ih =>
          intro hm hx
          obtain ⟨hk, ⟨L, o, hfL, hnL, hoL, hdL⟩, hr⟩ := hx
          have mL : L ∈ L2.frs (env :: l) := by unfold L2.frs; rw [List.filterMap_cons, hfL]; exact List.mem_cons_self
          have hne := hm L mL
          refine ⟨hk, ⟨L, o, hfL, by rw [gG L hne]; exact hnL, kk L o hne hoL, hdL⟩, ih (fun b hb => hm b ?_) hr⟩
          unfold L2.frs at hb ⊢
          rw [List.filterMap_cons, hfL]
          exact List.mem_cons_of_mem _ hb
      exact go frsC k3
    have nGa : G.get? a = none := by rw [gG a ne_a]; exact k2
    unfold PySem.passOn
    refine wpAny_bind (wpAny_field (kk _ _ ne_a he1) hd1 h11 ?_)
    rw [if_neg (show ¬ ((Value.ref Tr == Value.none) = true) from by simp)]
    have tr2 : HandSPX.TracedZ h2 G a (L2.Zc cls d) (rawInt X.env.locals) :=
      ⟨oe, vs, Tr, oT, ts, kk _ _ ne_a he1, hz1, hd1, h11, by rw [gG Tr ne_T]; exact nT, Te, kk _ _ ne_T hT, hdT, h33⟩
    refine wpAny_bind ?_
    rw [cF, hf]
    refine HandSPX.setFlight_anyZ (s := { s' with heap := h2 }) (base := G) (l := X.env :: X.outer) (Z := L2.Zc cls d) (e := a) G2 ff2 tr2 fun h3' q1 q2 q3 up3 => wpAny_throw ?_
    -- the def's wish: the block's own record is no ground of it
    obtain ⟨GI, r1, r2⟩ := L2.restrict sI.heap fun b => decide (b ≠ ce.locals)
    have gI : ∀ b, b ≠ ce.locals → GI.get? b = sI.heap.get? b := fun b hb => r1 b (decide_eq_true hb)
    have gIn : GI.get? ce.locals = none := r2 _ (by simp)
    have gIs : ∀ b o, GI.get? b = some o → sI.heap.get? b = some o ∧ b ≠ ce.locals := fun b o e => by
      by_cases hb : b = ce.locals
      · rw [hb, gIn] at e; cases e
      · rw [gI b hb] at e; exact ⟨e, hb⟩
    have JG : L2.Inv X pins σ H' { sI with heap := GI } := by
      have un : L2.Un (L2.frs X.stack) fp H3 H' s3.heap GI :=
        { keep := fun b o e n m x => by
            have hb : b ≠ ce.locals := by rw [cL]; exact Nat.ne_of_lt (Heap.lt_size e)
            rw [gI b hb]; exact Jb.base.keep b o e n m x
          slot := fun b o e n m x => by
            have hb : b ≠ ce.locals := by rw [cL]; exact Nat.ne_of_lt (Heap.lt_size e)
            rw [gI b hb]; exact Jb.base.slot b o e n m x
          free := Jb.base.free
          there := fun b o e x => by
            have hb : b ≠ ce.locals := by rw [cL]; exact Nat.ne_of_lt (Heap.lt_size e)
            rw [gI b hb]; exact Jb.base.there b o e x
          tups := Jb.base.tups
          frzs := Jb.base.frzs
          tbls := Jb.base.tbls }
      refine I3.call' (s' := { sI with heap := GI }) (ch := fp) Jb.os un (fun b o e => ?_) Jb.bare fun b hb => ⟨(f3 b hb).1.2.2.2.1, (f3 b hb).1.2.1, (f3 b hb).1.2.2.2.2.1, (f3 b hb).1.2.2.2.2.2⟩
      refine (Jb.hok b o e).stay (fun c v hc q => ?_) (fun _ z => z) fun _ _ z => z
      have hcn : c ≠ ce.locals := fun z => by
        rcases hc with hc | hc
        · rw [← hc, z, nC] at e; cases e
        · rw [z, nC] at hc; cases hc
      rw [gI c hcn]; exact q
    refine tk _ _ ⟨a, G, { sI with heap := GI }, pins, σ, H', cls, d, rfl, JG, fun b o e m => ?_, fun b o e hnf => ?_, .inr (.inr (by rw [hs0]; exact ⟨q1, nGa, q2, q3⟩)), na, os, ag, ?_⟩
    · obtain ⟨e1, hb⟩ := gIs b o e
      rw [gG b hb]
      exact nb b o e1 m
    · obtain ⟨e1, hb⟩ := gIs b o e
      obtain ⟨sl, e2⟩ := up b o e1 hnf
      obtain ⟨sl2, e3⟩ := up1 b _ e2 hnf
      obtain ⟨sl3, e4⟩ := up3 b _ (kk b _ hb e3) hnf
      exact ⟨sl3, e4⟩
    · rw [← hW] at w
      exact w
  have I4' : L2.Inv (blkX X s3 H3 scope ce fp xe) [] (L2.wipe σ (own.map (·.2))) H3 s4 := inv_blkX I4
  have stat : ∀ {σ' : L2.St} {H' : L2.Hp} {s' : Shared}, L2.Inv (blkX X s3 H3 scope ce fp xe) [] σ' H' s' → (∀ b ∈ fp, H' b = none) → ∀ b ∈ fp, L2.FpOk (blkX X s3 H3 scope ce fp xe) [] H' b := fun {σ' H' s'} I' hn b hb =>
    ⟨hn b hb, (I'.ok.exf b hb).1, I'.ok.exfs b hb, .inl hb, fun x c e => (I'.ok.exf b hb).2 x c e, fun p hp => absurd (show p ∈ ([] : List (Addr × Obj)) ++ [] from hp) (by simp)⟩
  have loop : codeAny (model X.prog X.w) X.A (.compLoop (.ListComp elt [⟨tg, iter, ifs, 0⟩] scope pos) 0 (.ref it) (.ref D) ce) (compEnds (model X.prog X.w) X.A X.xe use Qf (.ref D) ce) s4 := by
    refine L2.compLoop_any (fun n s' => ∃ i H', L2.Inv (blkX X s3 H3 scope ce fp xe) [] (L2.wipe σ (own.map (·.2))) H' s' ∧ tn i s'.heap ∧ (∀ b ∈ fp, H' b = none) ∧ V i n H') ?_ m0 ⟨0, H3, I4', st4, nfp, w0⟩
    rintro n s5 ⟨i, H5, I5, st5, n5, w5⟩
    rw [hxe]
    rcases turn i n H5 w5 with ⟨stop, qq⟩ | ⟨go, Nx, hNx, step⟩
    · refine L2.thn (T.done (blkX X s3 H3 scope ce fp xe) rfl rfl rfl hc i [] s5 _ H5 xe I5 (stat I5 n5) st5 stop) fun r s6 ⟨hr, I6⟩ => ?_
      subst hr
      have I6b : L2.Inv (X.blk s3 H3 scope ce fp) [] (L2.wipe σ (own.map (·.2))) H5 s6 := I6.unwish
      have I7 : L2.Inv X pins σ H5 s6 := I3.call' (ch := fp) I6b.os I6b.base I6b.hok I6b.bare fun b hb => ⟨(f3 b hb).1.2.2.2.1, (f3 b hb).1.2.1, (f3 b hb).1.2.2.2.2.1, (f3 b hb).1.2.2.2.2.2⟩
      have nC : H5 s3.heap.objs.size = none := by
        have z : H5 ce.locals = none := I6b.free
        rw [cL] at z
        exact z
      obtain ⟨m, hn, _⟩ := I6b.loc
      have hn : s6.heap.Ns ce.locals m := hn
      rw [cL] at hn
      exact hRR D s3.heap.objs.size ce s6 m H5 cL I7 qq hn (I3.fpOk (Nat.le_refl _) nC)
    · refine L2.thn (T.item (blkX X s3 H3 scope ce fp xe) rfl rfl rfl hc i [] s5 _ H5 xe I5 (stat I5 n5) st5 go) fun r s6 ⟨u, hr, h6⟩ => ?_
      subst hr
      refine L2.thn h6 fun _ s7 ⟨x, H7, I7, r7, y7, st7, n7⟩ => ?_
      have I7' := I7.pinned (stat I7 n7) (T.obj _ _ st7)
      refine L2.thn ((pg xe).run _ s7 _ H7 x u _ I7' r7 (step x H7 y7)) fun _ s8 ⟨σ8, H8, I8, hw8, q8⟩ => ?_
      refine L2.thn ((pt xe W' tkB).run _ s8 σ8 H8 _ I8 q8) fun b s9 ⟨H9, I9, q9⟩ => ?_
      have fin : ∀ {s' : Shared} {H' : L2.Hp}, L2.Inv (blkX X s3 H3 scope ce fp xe) ([] ++ L2.pinsAt fp s7.heap) σ8 H' s' → Nx H' → ∃ m, m < n ∧ ∃ i H', L2.Inv (blkX X s3 H3 scope ce fp xe) [] (L2.wipe σ (own.map (·.2))) H' s' ∧ tn i s'.heap ∧ (∀ b ∈ fp, H' b = none) ∧ V i m H' := fun {s' H'} I' nx => by
        obtain ⟨m', hm, w'⟩ := hNx H' nx
        have pin' : ∀ b ∈ fp, ∀ o, s7.heap.get? b = some o → s'.heap.get? b = some o ∧ H' b = none := fun b hb o e =>
          let z := I'.pin (b, o) (List.mem_append_right _ (List.mem_append_right _ (L2.mem_pinsAt hb e)))
          ⟨z.1, z.2.1⟩
        have hl : (L2.wipe σ (own.map (·.2))).length = σ8.length := by rw [← hw8, L2.wipe_length]
        refine ⟨m', hm, i + 1, H', (I'.unpinned (pins := [])).weak hl (fun j v e => ?_), T.keep _ _ _ st7 fun b hb o e => (pin' b hb o e).1, fun b hb => ?_, w'⟩
        · rw [← hw8] at e
          exact (L2.wipe_some e).1
        · obtain ⟨o, e, _⟩ := T.obj _ _ st7 b hb
          exact (pin' b hb o e).2
      cases b with
      | false =>
        simp only [Bool.false_eq_true, if_false] at q9 ⊢
        exact fin I9 q9
      | true =>
        simp only [if_true] at q9 ⊢
        refine L2.thn ((pe xe W' tkB).run _ s9 σ8 H9 _ I9 q9) fun z s10 ⟨yv, H10, I10, r10, acc, hD10, hz10, nx⟩ => ?_
        exact L2.app_ok (X := blkX X s3 H3 scope ce fp xe) I10 hD10 hz10 r10 fun s11 I11 => fin I11 nx
  exact codeAny_compStart_list loop (T.self X.A 0 _ _ _ st4 loop)
end
end EV
end

section
set_option autoImplicit false
/-! The evaluator as readings of the hand layer; the constructs, one by one. -/
namespace EV
open PySem

section
variable (C : Cfg) (Z : Addr → Prop) (W : L2.WX) (σ : L2.St)
/-- behind what the evaluator says: P where it goes on, the wish W where it raises -/
def Aft {α : Type} (ι : List Addr) (H : L2.Hp) (r : R α) (P : α → Store → List Addr → L2.Hp → Prop) : Prop := match r with
  | .ok a L' => ∀ ι' H', Ex ι H ι' H' → SO C Z ι' H' L' → P a L' ι' H'
  | .exc c d L' => ∀ v ι' H' dx, Ex ι H ι' H' → SO C Z ι' H' L' → RV C Z ι' H' d v → H' dx = some (.xd [(C.fld c, v)]) → W (.ref (C.cls c)) (some dx) σ H'
  | .bad => False
end
section
variable {C : Cfg} {Z : Addr → Prop} {W : L2.WX} {σ : L2.St} {ι ι' : List Addr} {H H' : L2.Hp}
theorem Aft.ext {α : Type} {r : R α} {P : α → Store → List Addr → L2.Hp → Prop} (h : Aft C Z W σ ι H r P) (x : Ex ι H ι' H') : Aft C Z W σ ι' H' r P := by
  cases r with
  | ok a L => exact fun ι2 H2 y s => h ι2 H2 (x.trans y) s
  | exc c d L => exact fun v ι2 H2 dx y s rv e => h v ι2 H2 dx (x.trans y) s rv e
  | bad => exact h
theorem Aft.bind {α β : Type} {r : R α} {f : α → M β} {P : β → Store → List Addr → L2.Hp → Prop} (h : Aft C Z W σ ι H (r.bind f) P) :
    Aft C Z W σ ι H r fun a L1 ι1 H1 => Aft C Z W σ ι1 H1 (f a L1) P := by
  cases r with
  | ok a L => exact fun ι1 H1 x s => h.ext x
  | exc c d L => exact h
  | bad => exact h
theorem Aft.mono {α : Type} {r : R α} {P P' : α → Store → List Addr → L2.Hp → Prop} (h : Aft C Z W σ ι H r P) (f : ∀ a L1 ι1 H1, Ex ι H ι1 H1 → SO C Z ι1 H1 L1 → P a L1 ι1 H1 → P' a L1 ι1 H1) : Aft C Z W σ ι H r P' := by
  cases r with
  | ok a L => exact fun ι1 H1 x s => f _ _ _ _ x s (h ι1 H1 x s)
  | exc c d L => exact h
  | bad => exact h
theorem Aft.look {α : Type} {f : Store → Option α} {L : Store} {P : α → Store → List Addr → L2.Hp → Prop} (h : Aft C Z W σ ι H (look f L) P) (S : SO C Z ι H L) : ∃ a, f L = some a ∧ P a L ι H := by
  unfold EV.look at h
  cases e : f L with
  | none => rw [e] at h; exact False.elim h
  | some a => rw [e] at h; exact ⟨a, rfl, h ι H .refl S⟩
theorem Aft.ok {α : Type} {a : α} {L : Store} {P : α → Store → List Addr → L2.Hp → Prop} (h : Aft C Z W σ ι H (.ok a L) P) (S : SO C Z ι H L) : P a L ι H := h ι H .refl S
end

/-- a reading by the evaluator: rel says how the evaluator's value stands for the layer's -/
def rG {α β : Type} (C : Cfg) (W : L2.WX) (m : Env → M α) (rel : (Addr → Prop) → List Addr → L2.Hp → α → β → Prop) : L2.St → L2.Hp → (β → L2.Hp → Prop) → Prop := fun σ H Q =>
  ∃ Z ι L ρ, SO C Z ι H L ∧ ER C Z ι H ρ σ ∧ Aft C Z W σ ι H (m ρ L) fun a L' ι' H' => ∀ b, rel Z ι' H' a b → Q b H'
/-- an expression's -/
def rE (C : Cfg) (W : L2.WX) (m : Env → M D) : L2.TE := rG C W m (fun Z ι H d v => RV C Z ι H d v)
/-- an argument list's -/
def rA (C : Cfg) (W : L2.WX) (m : Env → M (List D)) : L2.TA := rG C W m (fun Z ι H ds vs => RVs C Z ι H ds vs)
def boolM (m : Env → M D) : Env → M Bool := fun ρ L => (m ρ L).bind fun d L1 => match d with
  | .bl b => .ok b L1
  | _ => .bad
/-- a test's -/
def rT (C : Cfg) (W : L2.WX) (m : Env → M D) : L2.TT := rG C W (boolM m) (fun _ _ _ b c => b = c)
/-- a slice's part -/
def rO (C : Cfg) (W : L2.WX) (m : Env → M (Option Int)) : L2.TO := rG C W m (fun _ _ _ o p => o = p)

/-- a new address as one that must not be met -/
def zAdd (Z : Addr → Prop) (p : Addr) : Addr → Prop := fun a => Z a ∨ a = p
section
variable {C : Cfg} {Z Z' : Addr → Prop} {ι : List Addr} {H : L2.Hp} {L : Store}
mutual
theorem RV.weak (h : ∀ a, Z a → Z' a) : ∀ (d : D) (v : L2.V), RV C Z' ι H d v → RV C Z ι H d v
  | .non, _, r => by simpa [RV] using r
  | .bl _, _, r => by simpa [RV] using r
  | .int _, _, r => by simpa [RV] using r
  | .str _, _, r => by simpa [RV] using r
  | .fn _, _, r => by simpa [RV] using r
  | .obj _, _, r => by simpa [RV] using r
  | .tup ds, v, r => by
    unfold RV at r ⊢
    obtain ⟨a, xs, e, t, n, q⟩ := r
    exact ⟨a, xs, e, t, n, RVs.weak h ds xs q⟩
  | .ktup ds, v, r => by
    unfold RV at r ⊢
    obtain ⟨a, xs, e, t, q⟩ := r
    exact ⟨a, xs, e, t, RVs.weak h ds xs q⟩
  | .lst ds, v, r => by
    unfold RV at r ⊢
    obtain ⟨a, xs, e, t, z, n, q⟩ := r
    exact ⟨a, xs, e, t, fun y => z (h a y), n, RVs.weak h ds xs q⟩
  | .exn c d, v, r => by
    unfold RV at r ⊢
    obtain ⟨a, dx, y, e, q, hd, n, r⟩ := r
    exact ⟨a, dx, y, e, q, hd, n, RV.weak h d y r⟩
  | .exv c f m d, v, r => by
    unfold RV at r ⊢
    obtain ⟨y, q, k, r⟩ := r
    exact ⟨y, q, k, RV.weak h d y r⟩
theorem RVs.weak (h : ∀ a, Z a → Z' a) : ∀ (ds : List D) (vs : List L2.V), RVs C Z' ι H ds vs → RVs C Z ι H ds vs
  | [], _, r => by simpa [RVs] using r
  | d :: ds, vs, r => by
    obtain ⟨v, w, rfl, r1, r2⟩ := r.uncons
    exact .cons (RV.weak h d v r1) (RVs.weak h ds w r2)
end
mutual
theorem RV.add {p : Addr} (hp : H p = none) : ∀ (d : D) (v : L2.V), RV C Z ι H d v → RV C (zAdd Z p) ι H d v
  | .non, _, r => by simpa [RV] using r
  | .bl _, _, r => by simpa [RV] using r
  | .int _, _, r => by simpa [RV] using r
  | .str _, _, r => by simpa [RV] using r
  | .fn _, _, r => by simpa [RV] using r
  | .obj _, _, r => by simpa [RV] using r
  | .tup ds, v, r => by
    unfold RV at r ⊢
    obtain ⟨a, xs, e, t, n, q⟩ := r
    exact ⟨a, xs, e, t, n, RVs.add hp ds xs q⟩
  | .ktup ds, v, r => by
    unfold RV at r ⊢
    obtain ⟨a, xs, e, t, q⟩ := r
    exact ⟨a, xs, e, t, RVs.add hp ds xs q⟩
  | .lst ds, v, r => by
    unfold RV at r ⊢
    obtain ⟨a, xs, e, t, z, n, q⟩ := r
    refine ⟨a, xs, e, t, fun y => ?_, n, RVs.add hp ds xs q⟩
    rcases y with y | y
    · exact z y
    · rcases t with t | ⟨o, t⟩ <;> (rw [y, hp] at t; cases t)
  | .exn c d, v, r => by
    unfold RV at r ⊢
    obtain ⟨a, dx, y, e, q, hd, n, r⟩ := r
    exact ⟨a, dx, y, e, q, hd, n, RV.add hp d y r⟩
  | .exv c f m d, v, r => by
    unfold RV at r ⊢
    obtain ⟨y, q, k, r⟩ := r
    exact ⟨y, q, k, RV.add hp d y r⟩
theorem RVs.add {p : Addr} (hp : H p = none) : ∀ (ds : List D) (vs : List L2.V), RVs C Z ι H ds vs → RVs C (zAdd Z p) ι H ds vs
  | [], _, r => by simpa [RVs] using r
  | d :: ds, vs, r => by
    obtain ⟨v, w, rfl, r1, r2⟩ := r.uncons
    exact .cons (RV.add hp d v r1) (RVs.add hp ds w r2)
end
mutual
/-- the address that must not be met becomes an object's -/
theorem RV.adopt {p : Addr} (hp : ∀ o, frzO o = true → H p ≠ some o) (hx : ∀ fs, H p ≠ some (.xd fs)) : ∀ (d : D) (v : L2.V), RV C (zAdd Z p) ι H d v → RV C Z (ι ++ [p]) H d v
  | .non, _, r => by simpa [RV] using r
  | .bl _, _, r => by simpa [RV] using r
  | .int _, _, r => by simpa [RV] using r
  | .str _, _, r => by simpa [RV] using r
  | .fn _, _, r => by simpa [RV] using r
  | .obj k, v, r => by
    unfold RV at r ⊢
    obtain ⟨a, e, q⟩ := r
    exact ⟨a, by rw [List.getElem?_append_left (List.getElem?_eq_some_iff.mp e).1]; exact e, q⟩
  | .tup ds, v, r => by
    unfold RV at r ⊢
    obtain ⟨a, xs, e, t, n, q⟩ := r
    refine ⟨a, xs, e, t, fun m => ?_, RVs.adopt hp hx ds xs q⟩
    rcases List.mem_append.mp m with m | m
    · exact n m
    · have : a = p := by simpa using m
      exact hp _ rfl (this ▸ t)
  | .ktup ds, v, r => by
    unfold RV at r ⊢
    obtain ⟨a, xs, e, t, q⟩ := r
    exact ⟨a, xs, e, t, RVs.adopt hp hx ds xs q⟩
  | .lst ds, v, r => by
    unfold RV at r ⊢
    obtain ⟨a, xs, e, t, z, n, q⟩ := r
    refine ⟨a, xs, e, t, fun y => z (.inl y), fun m => ?_, RVs.adopt hp hx ds xs q⟩
    rcases List.mem_append.mp m with m | m
    · exact n m
    · exact z (.inr (by simpa using m))
  | .exn c d, v, r => by
    unfold RV at r ⊢
    obtain ⟨a, dx, y, e, q, hd, n, r⟩ := r
    refine ⟨a, dx, y, e, q, hd, fun m => ?_, RV.adopt hp hx d y r⟩
    rcases List.mem_append.mp m with m | m
    · exact n m
    · have : dx = p := by simpa using m
      exact hx _ (this ▸ hd)
  | .exv c f m d, v, r => by
    unfold RV at r ⊢
    obtain ⟨y, q, k, r⟩ := r
    refine ⟨y, q.to fun a o ho n z => ⟨z, fun m => ?_⟩, k, RV.adopt hp hx d y r⟩
    rcases List.mem_append.mp m with m | m
    · exact n m
    · have : a = p := by simpa using m
      exact hp o ho (this ▸ z)
theorem RVs.adopt {p : Addr} (hp : ∀ o, frzO o = true → H p ≠ some o) (hx : ∀ fs, H p ≠ some (.xd fs)) : ∀ (ds : List D) (vs : List L2.V), RVs C (zAdd Z p) ι H ds vs → RVs C Z (ι ++ [p]) H ds vs
  | [], _, r => by simpa [RVs] using r
  | d :: ds, vs, r => by
    obtain ⟨v, w, rfl, r1, r2⟩ := r.uncons
    exact .cons (RV.adopt hp hx d v r1) (RVs.adopt hp hx ds w r2)
end
theorem KR.weak {κ : Type} (h : ∀ a, Z a → Z' a) : ∀ {kvs : List (κ × D)} {kv : List (κ × L2.V)}, KR C Z' ι H kvs kv → KR C Z ι H kvs kv
  | [], _, r => r
  | p :: r, kv, x => by
    obtain ⟨q, s, e, k, h1, h2⟩ := x
    exact ⟨q, s, e, k, RV.weak h _ _ h1, KR.weak h h2⟩
theorem KR.add {κ : Type} {p : Addr} (hp : H p = none) : ∀ {kvs : List (κ × D)} {kv : List (κ × L2.V)}, KR C Z ι H kvs kv → KR C (zAdd Z p) ι H kvs kv
  | [], _, r => r
  | q :: r, kv, x => by
    obtain ⟨q, s, e, k, h1, h2⟩ := x
    exact ⟨q, s, e, k, RV.add hp _ _ h1, KR.add hp h2⟩
theorem KR.adopt {κ : Type} {p : Addr} (hp : ∀ o, frzO o = true → H p ≠ some o) (hx : ∀ fs, H p ≠ some (.xd fs)) : ∀ {kvs : List (κ × D)} {kv : List (κ × L2.V)}, KR C (zAdd Z p) ι H kvs kv → KR C Z (ι ++ [p]) H kvs kv
  | [], _, r => r
  | q :: r, kv, x => by
    obtain ⟨q, s, e, k, h1, h2⟩ := x
    exact ⟨q, s, e, k, RV.adopt hp hx _ _ h1, KR.adopt hp hx h2⟩
theorem SO.weak (h : ∀ a, Z a → Z' a) (s : SO C Z' ι H L) : SO C Z ι H L :=
  ⟨s.len, s.nd, fun k o e => by
    obtain ⟨a, q, r⟩ := s.obj k o e
    refine ⟨a, q, ?_⟩
    cases o with
    | lst ds => obtain ⟨xs, q1, q2⟩ := r; exact ⟨xs, q1, RVs.weak h _ _ q2⟩
    | dK ds => obtain ⟨xs, q1, q2⟩ := r; exact ⟨xs, q1, KR.weak h q2⟩
    | dT ds => obtain ⟨xs, q1, q2⟩ := r; exact ⟨xs, q1, KR.weak h q2⟩, fun a z => s.zh a (h a z)⟩
/-- in the heap with the new thing laid at p -/
theorem SO.add {p : Addr} {u : L2.HO} (hp : H p = none) (s : SO C Z ι H L) : SO C (zAdd Z p) ι (L2.upd H p u) L := by
  have x := ex_upd (ι := ι) (o := u) hp
  refine ⟨s.len, s.nd, fun k o e => ?_, fun a z => ?_⟩
  · obtain ⟨a, q, r⟩ := s.obj k o e
    have up : ∀ {w : L2.HO}, H a = some w → L2.upd H p u a = some w := fun {w} z => by rw [L2.upd_ne (L2.ne_of_none z hp)]; exact z
    refine ⟨a, q, ?_⟩
    cases o with
    | lst ds => obtain ⟨xs, q1, q2⟩ := r; exact ⟨xs, up q1, RVs.mono x _ _ (RVs.add hp _ _ q2)⟩
    | dK ds => obtain ⟨xs, q1, q2⟩ := r; exact ⟨xs, up q1, KR.mono x (KR.add hp q2)⟩
    | dT ds => obtain ⟨xs, q1, q2⟩ := r; exact ⟨xs, up q1, KR.mono x (KR.add hp q2)⟩
  · rcases z with z | z
    · intro q
      by_cases e : a = p
      · rw [e] at z; exact s.zh p z hp
      · rw [L2.upd_ne e] at q; exact s.zh a z q
    · rw [z, L2.upd_same]; intro q; cases q
/-- the new thing becomes an object -/
theorem SO.adopt {p : Addr} {xs : List L2.V} {ds : List D} (s : SO C (zAdd Z p) ι H L) (hp : H p = some (.lst xs)) (hn : p ∉ ι) (r : RVs C (zAdd Z p) ι H ds xs) : SO C Z (ι ++ [p]) H (L ++ [.lst ds]) := by
  have ht : ∀ o, frzO o = true → H p ≠ some o := fun ys k q => by rw [hp] at q; cases q; cases k
  have hx : ∀ fs, H p ≠ some (.xd fs) := fun ys q => by rw [hp] at q; cases q
  refine ⟨by simp [s.len], ?_, fun k o e => ?_, fun a z => s.zh a (.inl z)⟩
  · rw [List.nodup_append]
    refine ⟨s.nd, by simp, fun a ha b hb e => ?_⟩
    have : b = p := by simpa using hb
    rw [this] at e
    exact hn (e ▸ ha)
  · by_cases hk : k < L.length
    · rw [List.getElem?_append_left hk] at e
      obtain ⟨a, q, r'⟩ := s.obj k o e
      refine ⟨a, by rw [List.getElem?_append_left (by rw [s.len]; exact hk)]; exact q, ?_⟩
      cases o with
      | lst ds => obtain ⟨xs, q1, q2⟩ := r'; exact ⟨xs, q1, RVs.adopt ht hx _ _ q2⟩
      | dK ds => obtain ⟨xs, q1, q2⟩ := r'; exact ⟨xs, q1, KR.adopt ht hx q2⟩
      | dT ds => obtain ⟨xs, q1, q2⟩ := r'; exact ⟨xs, q1, KR.adopt ht hx q2⟩
    · rw [List.getElem?_append_right (by omega)] at e
      have hk' : k = L.length := by
        have := (List.getElem?_eq_some_iff.mp e).1
        simp at this; omega
      subst hk'
      simp at e
      subst e
      exact ⟨p, by rw [List.getElem?_append_right (by rw [s.len]; exact Nat.le_refl _)]; simp [s.len], xs, hp, RVs.adopt ht hx _ _ r⟩
theorem zle {p : Addr} : ∀ a, Z a → zAdd Z p a := fun _ z => .inl z
theorem Ex.fresh {ι' : List Addr} {H' : L2.Hp} (x : Ex ι H ι' H') (S : SO C Z ι' H' L) {p : Addr} (h : H' p = none) : H p = none := by
  cases q : H p with
  | none => rfl
  | some o =>
    by_cases m : p ∈ ι
    · obtain ⟨k, hk, e⟩ := List.getElem_of_mem m
      have z := x.pre k p (by rw [List.getElem?_eq_getElem hk, e])
      obtain ⟨u, w⟩ := S.there (List.mem_of_getElem? z)
      rw [h] at w; cases w
    · rw [x.old p o q m] at h; cases h
end

/-- a fresh list's reading: it stands at p, new, and nothing else speaks of it -/
def rF (C : Cfg) (W : L2.WX) (m : Env → M (List D)) : L2.TE := fun σ H Q => ∃ Z ι L ρ, SO C Z ι H L ∧ ER C Z ι H ρ σ ∧ match m ρ L with
  | .ok ds L' => ∀ p xs ι' H', Ex ι H ι' H' → H p = none → SO C (zAdd Z p) ι' H' L' → H' p = some (.lst xs) → p ∉ ι' → RVs C (zAdd Z p) ι' H' ds xs → Q (.ref p) H'
  | .exc c d L' => ∀ v ι' H' dx, Ex ι H ι' H' → SO C Z ι' H' L' → RV C Z ι' H' d v → H' dx = some (.xd [(C.fld c, v)]) → W (.ref (C.cls c)) (some dx) σ H'
  | .bad => False
end EV
end

section
set_option autoImplicit false
/-! calls: what the caller knows behind a callee that ran in a store of its own, or in the caller's -/
namespace EV
open PySem

section
variable {C : Cfg} {Z Z' : Addr → Prop} {ι ι1 : List Addr} {H H1 : L2.Hp} {L L1 : Store}
def isOb : L2.HO → Bool
  | .lst _ => true
  | .dK _ => true
  | .dT _ => true
  | _ => false
theorem OR.kind {o : O} {a : Addr} (h : OR C Z ι H o a) : ∃ u, H a = some u ∧ isOb u = true := by
  cases o with
  | lst ds => obtain ⟨xs, q, r⟩ := h; exact ⟨_, q, rfl⟩
  | dK kvs => obtain ⟨xs, q, r⟩ := h; exact ⟨_, q, rfl⟩
  | dT kvs => obtain ⟨xs, q, r⟩ := h; exact ⟨_, q, rfl⟩
theorem SO.kind (s : SO C Z ι H L) {a : Addr} (h : a ∈ ι) : ∃ u, H a = some u ∧ isOb u = true := by
  obtain ⟨k, hk, e⟩ := List.getElem_of_mem h
  have hkL : k < L.length := by rw [← s.len]; exact hk
  obtain ⟨b, q, r⟩ := s.obj k L[k] (List.getElem?_eq_getElem hkL)
  rw [List.getElem?_eq_getElem hk, e] at q
  cases q
  exact r.kind
theorem SO.notup (s : SO C Z ι H L) {a : Addr} {o : L2.HO} (ho : frzO o = true) (h : H a = some o) : a ∉ ι := fun m => by
  obtain ⟨u, e, k⟩ := s.kind m
  rw [h] at e; cases e
  cases o <;> first | (cases ho; done) | (cases k; done)
mutual
/-- data without objects, under other objects and addresses that must not be met -/
theorem RV.move (hz : ∀ a, ¬ Z a → a ∉ ι → ¬ Z' a ∧ a ∉ ι1) (ht : ∀ a o, frzO o = true → H a = some o → a ∉ ι1) : ∀ (d : D) (v : L2.V), d.pure = true → RV C Z ι H d v → RV C Z' ι1 H d v
  | .non, _, _, r => by simpa [RV] using r
  | .bl _, _, _, r => by simpa [RV] using r
  | .int _, _, _, r => by simpa [RV] using r
  | .str _, _, _, r => by simpa [RV] using r
  | .fn _, _, _, r => by simpa [RV] using r
  | .obj _, _, p, r => by simp [D.pure] at p
  | .exn _ _, _, p, r => by simp [D.pure] at p
  | .exv c f m d, v, p, r => by
    unfold RV at r ⊢
    obtain ⟨y, q, k, r⟩ := r
    exact ⟨y, q.to fun a o ho n z => ⟨z, ht a o ho z⟩, k, RV.move hz ht d y (by simpa [D.pure] using p) r⟩
  | .tup ds, v, p, r => by
    unfold RV at r ⊢
    obtain ⟨a, xs, e, t, n, q⟩ := r
    exact ⟨a, xs, e, t, ht a _ rfl t, RVs.move hz ht ds xs (by simpa [D.pure] using p) q⟩
  | .ktup ds, v, p, r => by
    unfold RV at r ⊢
    obtain ⟨a, xs, e, t, q⟩ := r
    exact ⟨a, xs, e, t, RVs.move hz ht ds xs (by simpa [D.pure] using p) q⟩
  | .lst ds, v, p, r => by
    unfold RV at r ⊢
    obtain ⟨a, xs, e, t, z, n, q⟩ := r
    obtain ⟨z1, n1⟩ := hz a z n
    exact ⟨a, xs, e, t, z1, n1, RVs.move hz ht ds xs (by simpa [D.pure] using p) q⟩
theorem RVs.move (hz : ∀ a, ¬ Z a → a ∉ ι → ¬ Z' a ∧ a ∉ ι1) (ht : ∀ a o, frzO o = true → H a = some o → a ∉ ι1) : ∀ (ds : List D) (vs : List L2.V), purAll ds = true → RVs C Z ι H ds vs → RVs C Z' ι1 H ds vs
  | [], _, _, r => by simpa [RVs] using r
  | d :: ds, vs, p, r => by
    obtain ⟨v, w, rfl, r1, r2⟩ := r.uncons
    have p' : d.pure = true ∧ purAll ds = true := by simpa [purAll] using p
    exact .cons (RV.move hz ht d v p'.1 r1) (RVs.move hz ht ds w p'.2 r2)
end
theorem KR.move {κ : Type} (hz : ∀ a, ¬ Z a → a ∉ ι → ¬ Z' a ∧ a ∉ ι1) (ht : ∀ a o, frzO o = true → H a = some o → a ∉ ι1) : ∀ {kvs : List (κ × D)} {kv : List (κ × L2.V)}, purAll (kvs.map (·.2)) = true → KR C Z ι H kvs kv → KR C Z' ι1 H kvs kv
  | [], _, _, r => r
  | q :: r, kv, p, x => by
    obtain ⟨q2, s, e, k, h1, h2⟩ := x
    have p' : q.2.pure = true ∧ purAll (r.map (·.2)) = true := by simpa [purAll] using p
    exact ⟨q2, s, e, k, RV.move hz ht _ _ p'.1 h1, KR.move hz ht p'.2 h2⟩
theorem OR.move (hz : ∀ a, ¬ Z a → a ∉ ι → ¬ Z' a ∧ a ∉ ι1) (ht : ∀ a o, frzO o = true → H a = some o → a ∉ ι1) {o : O} {a : Addr} (p : o.pure = true) (h : OR C Z ι H o a) : OR C Z' ι1 H o a := by
  cases o with
  | lst ds => obtain ⟨xs, q, r⟩ := h; exact ⟨xs, q, RVs.move hz ht _ _ p r⟩
  | dK kvs => obtain ⟨xs, q, r⟩ := h; exact ⟨xs, q, KR.move hz ht p r⟩
  | dT kvs => obtain ⟨xs, q, r⟩ := h; exact ⟨xs, q, KR.move hz ht p r⟩
/-- for a callee in a store of its own all our objects are such as must not be met -/
def zOf (Z : Addr → Prop) (ι : List Addr) : Addr → Prop := fun a => Z a ∨ a ∈ ι
theorem SO.alone (s : SO C Z ι H L) : SO C (zOf Z ι) [] H [] :=
  ⟨rfl, by simp, fun k o e => by simp at e, fun a z => by
    rcases z with z | z
    · exact s.zh a z
    · obtain ⟨u, e⟩ := s.there z
      rw [e]; intro q; cases q⟩
theorem RVs.alone {ds : List D} {vs : List L2.V} (p : purAll ds = true) (r : RVs C Z ι H ds vs) : RVs C (zOf Z ι) [] H ds vs :=
  RVs.move (fun a z n => ⟨fun q => q.elim z n, by simp⟩) (fun a xs _ _ => by simp) ds vs p r
/-- behind such a callee -/
theorem back_alone (s : SO C Z ι H L) (x : Ex [] H ι1 H1) : L2.Same H H1 ∧ SO C Z ι H1 L ∧ Ex ι H ι H1 := by
  have sm : L2.Same H H1 := fun a o e => x.old a o e (by simp)
  exact ⟨sm, s.same sm, ex_same sm⟩
theorem RV.back (s : SO C Z ι H1 L) {d : D} {v : L2.V} (p : d.pure = true) (r : RV C (zOf Z ι) ι1 H1 d v) : RV C Z ι H1 d v :=
  RV.move (fun a z _ => ⟨fun q => z (.inl q), fun q => z (.inr q)⟩) (fun a xs k h => s.notup k h) d v p r
theorem new_alone (s : SO C Z ι H L) (x : Ex [] H ι1 H1) {a : Addr} (m : a ∈ ι1) : H a = none ∧ ¬ Z a ∧ a ∉ ι := by
  have h : H a = none := by
    rcases x.new a m with z | z
    · simp at z
    · exact z
  exact ⟨h, s.notz h, s.fresh h⟩
theorem frozen_alone (s : SO C Z ι H L) (x : Ex [] H ι1 H1) (s1 : SO C (zOf Z ι) ι1 H1 L1) {d d' : D} {v : L2.V} (f : frozen 0 d L1 = some d') (r : RV C (zOf Z ι) ι1 H1 d v) : RV C Z ι H1 d' v := by
  obtain ⟨sm, s', _⟩ := back_alone s x
  by_cases hk : ∃ k, d = .obj k
  · obtain ⟨k, rfl⟩ := hk
    simp only [frozen, Nat.not_lt_zero, if_false] at f
    cases e : L1[k]? with
    | none => rw [e] at f; cases f
    | some o =>
      rw [e] at f
      cases o with
      | dK _ => cases f
      | dT _ => cases f
      | lst ds =>
        simp only at f
        split at f
        · rename_i p
          cases f
          unfold RV at r
          obtain ⟨a, ea, ev⟩ := r
          obtain ⟨xs, q1, q2⟩ := s1.at_ e ea
          obtain ⟨n1, n2, n3⟩ := new_alone s x (List.mem_of_getElem? ea)
          unfold RV
          exact ⟨a, xs, ev, .inl q1, n2, n3, RVs.move (fun a z _ => ⟨fun q => z (.inl q), fun q => z (.inr q)⟩) (fun a xs k h => s'.notup k h) ds xs p q2⟩
        · cases f
  · have f' : (if d.pure then some d else none) = some d' := by
      cases d <;> first | exact f | exact absurd ⟨_, rfl⟩ hk
    split at f'
    · rename_i p
      cases f'
      exact RV.back s' p r
    · cases f'
/-- a new object that the callee hands back -/
theorem kept_alone (s : SO C Z ι H L) (x : Ex [] H ι1 H1) (s1 : SO C (zOf Z ι) ι1 H1 L1) {k : Nat} {a : Addr} {o : O} (e : L1[k]? = some o) (ea : ι1[k]? = some a) (p : o.pure = true) :
    Ex ι H (ι ++ [a]) H1 ∧ SO C Z (ι ++ [a]) H1 (L ++ [o]) := by
  obtain ⟨sm, s', ex⟩ := back_alone s x
  obtain ⟨n1, n2, n3⟩ := new_alone s x (List.mem_of_getElem? ea)
  have ha : a ∈ ι1 := List.mem_of_getElem? ea
  refine ⟨⟨fun j b q => ?_, fun b m => ?_, ex.old⟩, ⟨by simp [s.len], ?_, fun j o' q => ?_, s'.zh⟩⟩
  · rw [List.getElem?_append_left (List.getElem?_eq_some_iff.mp q).1]; exact q
  · rcases List.mem_append.mp m with m | m
    · exact .inl m
    · have : b = a := by simpa using m
      exact .inr (this ▸ n1)
  · rw [List.nodup_append]
    refine ⟨s.nd, by simp, fun b hb c hc q => ?_⟩
    have : c = a := by simpa using hc
    rw [this] at q
    exact n3 (q ▸ hb)
  · by_cases hj : j < L.length
    · rw [List.getElem?_append_left hj] at q
      obtain ⟨b, q1, q2⟩ := s.obj j o' q
      refine ⟨b, by rw [List.getElem?_append_left (by rw [s.len]; exact hj)]; exact q1, q2.mono ⟨fun i c z => by rw [List.getElem?_append_left (List.getElem?_eq_some_iff.mp z).1]; exact z, fun c m => ?_, fun c u z _ => sm c u z⟩ fun u z => sm b u z⟩
      rcases List.mem_append.mp m with m | m
      · exact .inl m
      · have : c = a := by simpa using m
        exact .inr (this ▸ n1)
    · rw [List.getElem?_append_right (by omega)] at q
      have hj' : j = L.length := by
        have := (List.getElem?_eq_some_iff.mp q).1
        simp at this; omega
      subst hj'
      simp at q
      subst q
      refine ⟨a, by rw [List.getElem?_append_right (by rw [s.len]; exact Nat.le_refl _)]; simp [s.len], ?_⟩
      refine OR.move (fun b z n => ⟨fun q => z (.inl q), fun q => ?_⟩) (fun b xs hk h q => ?_) p (s1.at_ e ea)
      · rcases List.mem_append.mp q with q | q
        · exact z (.inr q)
        · have : b = a := by simpa using q
          exact n (this ▸ ha)
      · rcases List.mem_append.mp q with q | q
        · exact s'.notup hk h q
        · have : b = a := by simpa using q
          subst this
          obtain ⟨u, e1, k1⟩ := s1.kind ha
          rw [h] at e1; cases e1
          cases xs <;> first | (cases hk; done) | (cases k1; done)

/-! ### a callee in our store -/
theorem take_getElem? {α : Type} {l : List α} {n k : Nat} (h : k < n) : (l.take n)[k]? = l[k]? := List.getElem?_take_of_lt h
theorem back_full (s : SO C Z ι H L) (x : Ex ι H ι1 H1) (s1 : SO C Z ι1 H1 L1) (p : storeP (L1.take L.length) = true) : Ex ι H ι H1 ∧ SO C Z ι H1 (L1.take L.length) := by
  have pre : ∀ k, k < ι.length → ι1[k]? = ι[k]? := fun k hk => by
    rw [List.getElem?_eq_getElem hk]; exact x.pre k _ (List.getElem?_eq_getElem hk)
  have sub : ∀ a, a ∈ ι → a ∈ ι1 := fun a m => by
    obtain ⟨k, hk, e⟩ := List.getElem_of_mem m
    exact List.mem_of_getElem? (x.pre k a (by rw [List.getElem?_eq_getElem hk, e]))
  have le : L.length ≤ L1.length := by
    rw [← s.len, ← s1.len]
    by_cases h0 : ι.length = 0
    · omega
    · have := pre (ι.length - 1) (by omega)
      rw [List.getElem?_eq_getElem (show ι.length - 1 < ι.length by omega)] at this
      have := (List.getElem?_eq_some_iff.mp this).1
      omega
  refine ⟨⟨fun k a h => h, fun a m => .inl m, x.old⟩, ⟨by rw [List.length_take, Nat.min_eq_left le]; exact s.len, s.nd, fun k o e => ?_, fun a z => s1.zh a z⟩⟩
  have hk : k < L.length := by
    have := (List.getElem?_eq_some_iff.mp e).1
    rw [List.length_take] at this
    omega
  rw [take_getElem? hk] at e
  obtain ⟨a, q, r⟩ := s1.obj k o e
  rw [pre k (by rw [s.len]; exact hk)] at q
  have po : o.pure = true := by
    unfold storeP at p
    exact List.all_eq_true.mp p o (List.mem_of_getElem? (show (L1.take L.length)[k]? = some o by rw [take_getElem? hk]; exact e))
  exact ⟨a, q, OR.move (fun b z n => ⟨z, fun m => n (sub b m)⟩) (fun b xs k h m => s1.notup k h (sub b m)) po r⟩
theorem frozen_full (s : SO C Z ι H L) (x : Ex ι H ι1 H1) (s1 : SO C Z ι1 H1 L1) {d d' : D} {v : L2.V} (f : frozen L.length d L1 = some d') (r : RV C Z ι1 H1 d v) : RV C Z ι H1 d' v := by
  have pre : ∀ k, k < ι.length → ι1[k]? = ι[k]? := fun k hk => by
    rw [List.getElem?_eq_getElem hk]; exact x.pre k _ (List.getElem?_eq_getElem hk)
  have sub : ∀ a, a ∈ ι → a ∈ ι1 := fun a m => by
    obtain ⟨k, hk, e⟩ := List.getElem_of_mem m
    exact List.mem_of_getElem? (x.pre k a (by rw [List.getElem?_eq_getElem hk, e]))
  have mv : ∀ (a : Addr), ¬ Z a → a ∉ ι1 → ¬ Z a ∧ a ∉ ι := fun b z n => ⟨z, fun m => n (sub b m)⟩
  have mt : ∀ (a : Addr) o, frzO o = true → H1 a = some o → a ∉ ι := fun b o k h m => s1.notup k h (sub b m)
  by_cases hk : ∃ k, d = .obj k
  · obtain ⟨k, rfl⟩ := hk
    unfold RV at r
    obtain ⟨a, ea, ev⟩ := r
    simp only [frozen] at f
    split at f
    · rename_i hlt
      cases f
      unfold RV
      exact ⟨a, by rw [← pre k (by rw [s.len]; exact hlt)]; exact ea, ev⟩
    · rename_i hge
      cases e : L1[k]? with
      | none => rw [e] at f; cases f
      | some o =>
        rw [e] at f
        cases o with
        | dK _ => cases f
        | dT _ => cases f
        | lst ds =>
          simp only at f
          split at f
          · rename_i p
            cases f
            obtain ⟨xs, q1, q2⟩ := s1.at_ e ea
            have na : a ∉ ι := fun m => by
              obtain ⟨j, hj, ej⟩ := List.getElem_of_mem m
              have z := x.pre j a (by rw [List.getElem?_eq_getElem hj, ej])
              have := L2.nd_ix s1.nd ea z
              rw [s.len] at hj
              omega
            have hn : H a = none := (x.new a (List.mem_of_getElem? ea)).resolve_left na
            unfold RV
            exact ⟨a, xs, ev, .inl q1, s.notz hn, na, RVs.move mv mt ds xs p q2⟩
          · cases f
  · have f' : (if d.pure then some d else none) = some d' := by
      cases d <;> first | exact f | exact absurd ⟨_, rfl⟩ hk
    split at f'
    · rename_i p
      cases f'
      exact RV.move mv mt _ _ p r
    · cases f'
end

/-- what a def promises: the evaluator's word -/
def spF (C : Cfg) (cf : Nat → List D → M D) (f : Nat) : L2.Sp := fun vs H Q E => ∃ Z ι L ds, SO C Z ι H L ∧ RVs C Z ι H ds vs ∧ match cf f ds L with
  | .ok d L' => ∀ v ι' H', Ex ι H ι' H' → SO C Z ι' H' L' → RV C Z ι' H' d v → Q v H'
  | .exc c d L' => ∀ v ι' H' dx, Ex ι H ι' H' → SO C Z ι' H' L' → RV C Z ι' H' d v → H' dx = some (.xd [(C.fld c, v)]) → E (.ref (C.cls c)) (some dx) H'
  | .bad => False
section
variable {C : Cfg} {Z : Addr → Prop} {W : L2.WX} {σ : L2.St} {ι : List Addr} {H : L2.Hp} {L : Store} {cf : Nat → List D → M D}
theorem callF_sp {f : Nat} {ds : List D} {vs : List L2.V} {Q : L2.VK} (S : SO C Z ι H L) (r : RVs C Z ι H ds vs) (h : Aft C Z W σ ι H (callF cf f ds L) fun d L' ι' H' => ∀ v, RV C Z ι' H' d v → Q v H') :
    spF C cf f vs H Q (fun cls d H' => W cls d σ H') := by
  unfold callF at h
  split at h
  · rename_i p
    refine ⟨zOf Z ι, [], [], ds, S.alone, r.alone p, ?_⟩
    cases e : cf f ds [] with
    | bad => rw [e] at h; exact h
    | exc c d L1 =>
      rw [e] at h
      simp only at h
      split at h
      · rename_i pd
        intro v ι1 H1 dx x s1 rv hd
        obtain ⟨sm, s', ex⟩ := back_alone S x
        exact h v ι H1 dx ex s' (RV.back s' pd rv) hd
      · exact False.elim h
    | ok d L1 =>
      rw [e] at h
      simp only at h
      cases fz : frozen 0 d L1 with
      | none => rw [fz] at h; exact False.elim h
      | some d' =>
        rw [fz] at h
        intro v ι1 H1 x s1 rv
        obtain ⟨sm, s', ex⟩ := back_alone S x
        exact h ι H1 ex s' v (frozen_alone S x s1 fz rv)
  · refine ⟨Z, ι, L, ds, S, r, ?_⟩
    cases e : cf f ds L with
    | bad => rw [e] at h; exact h
    | exc c d L1 =>
      rw [e] at h
      simp only at h
      split at h
      · rename_i pd
        rw [Bool.and_eq_true] at pd
        intro v ι1 H1 dx x s1 rv hd
        obtain ⟨ex, s'⟩ := back_full S x s1 pd.2
        have fz : frozen L.length d L1 = some d := by
          cases d <;> first | (simp only [frozen]; rw [if_pos pd.1]) | (simp [D.pure] at pd)
        exact h v ι H1 dx ex s' (frozen_full S x s1 fz rv) hd
      · exact False.elim h
    | ok d L1 =>
      rw [e] at h
      simp only at h
      split at h
      · rename_i ps
        cases fz : frozen L.length d L1 with
        | none => rw [fz] at h; exact False.elim h
        | some d' =>
          rw [fz] at h
          intro v ι1 H1 x s1 rv
          obtain ⟨ex, s'⟩ := back_full S x s1 ps
          exact h ι H1 ex s' v (frozen_full S x s1 fz rv)
      · exact False.elim h
theorem callK_sp {f : Nat} {ds : List D} {vs : List L2.V} {Q : L2.VK} (S : SO C Z ι H L) (r : RVs C Z ι H ds vs) (h : Aft C Z W σ ι H (callK cf f ds L) fun d L' ι' H' => ∀ v, RV C Z ι' H' d v → Q v H') :
    spF C cf f vs H Q (fun cls d H' => W cls d σ H') := by
  unfold callK at h
  split at h
  · rename_i p
    refine ⟨zOf Z ι, [], [], ds, S.alone, r.alone p, ?_⟩
    cases e : cf f ds [] with
    | bad => rw [e] at h; exact h
    | exc c d L1 =>
      rw [e] at h
      simp only at h
      split at h
      · rename_i pd
        intro v ι1 H1 dx x s1 rv hd
        obtain ⟨sm, s', ex⟩ := back_alone S x
        exact h v ι H1 dx ex s' (RV.back s' pd rv) hd
      · exact False.elim h
    | ok d L1 =>
      rw [e] at h
      cases d with
      | obj k =>
        simp only at h
        cases e2 : L1[k]? with
        | none => rw [e2] at h; exact False.elim h
        | some o =>
          rw [e2] at h
          simp only at h
          split at h
          · rename_i po
            intro v ι1 H1 x s1 rv
            unfold RV at rv
            obtain ⟨a, ea, ev⟩ := rv
            obtain ⟨ex, s'⟩ := kept_alone S x s1 e2 ea po
            refine h (ι ++ [a]) H1 ex s' v ?_
            unfold RV
            exact ⟨a, by rw [List.getElem?_append_right (by rw [S.len]; exact Nat.le_refl _)]; simp [S.len], ev⟩
          · exact False.elim h
      | _ => exact False.elim h
  · exact False.elim h
end
end EV
end

section
set_option autoImplicit false
/-! The evaluator's word about expressions, construct by construct. -/
namespace EV
open PySem PySem.Spec PyProof.Rows

theorem pe_imp {X : L2.Cx} {e : Expr} {t t' : L2.TE} (h : L2.PE X e t) (k : ∀ σ H Q, t' σ H Q → t σ H Q) : L2.PE X e t' := ⟨fun pins s σ H Q I w => h.run pins s σ H Q I (k σ H Q w)⟩
theorem pt_imp {X : L2.Cx} {e : Expr} {t t' : L2.TT} (h : L2.PT X e t) (k : ∀ σ H Q, t' σ H Q → t σ H Q) : L2.PT X e t' := ⟨fun pins s σ H Q I w => h.run pins s σ H Q I (k σ H Q w)⟩
theorem pw_imp {X : L2.Cx} {e : Expr} {t t' : L2.TT} (h : L2.PW X e t) (k : ∀ σ H Q, t' σ H Q → t σ H Q) : L2.PW X e t' := ⟨fun wh pins s σ H Q I w => h.run wh pins s σ H Q I (k σ H Q w)⟩
theorem pa_imp {X : L2.Cx} {e : List Expr} {t t' : L2.TA} (h : L2.PA X e t) (k : ∀ σ H Q, t' σ H Q → t σ H Q) : L2.PA X e t' := ⟨fun pos pins s σ H Q I w => h.run pos pins s σ H Q I (k σ H Q w)⟩

section
variable {C : Cfg} {Z : Addr → Prop} {W : L2.WX} {σ : L2.St} {ι ι' : List Addr} {H H' : L2.Hp} {L : Store} {ρ : Env}
/-- first m, then f -/
theorem seqG {α β γ : Type} {rel : (Addr → Prop) → List Addr → L2.Hp → α → γ → Prop} {m : Env → M α} {f : α → M β} {P : β → Store → List Addr → L2.Hp → Prop} {Q : γ → L2.Hp → Prop} (S : SO C Z ι H L) (E : ER C Z ι H ρ σ) (h : Aft C Z W σ ι H ((m ρ L).bind f) P)
    (k : ∀ x L1 ι1 H1 v, SO C Z ι1 H1 L1 → ER C Z ι1 H1 ρ σ → Ex ι H ι1 H1 → rel Z ι1 H1 x v → Aft C Z W σ ι1 H1 (f x L1) P → Q v H1) : rG C W m rel σ H Q :=
  ⟨Z, ι, L, ρ, S, E, h.bind.mono fun x L1 ι1 H1 ex s1 a v r => k x L1 ι1 H1 v s1 (E.mono ex) ex r a⟩
/-- m alone -/
theorem oneG {α γ : Type} {rel : (Addr → Prop) → List Addr → L2.Hp → α → γ → Prop} {m : Env → M α} {Q : γ → L2.Hp → Prop} (S : SO C Z ι H L) (E : ER C Z ι H ρ σ) (h : Aft C Z W σ ι H (m ρ L) fun a L' ι' H' => ∀ b, rel Z ι' H' a b → Q b H') : rG C W m rel σ H Q :=
  ⟨Z, ι, L, ρ, S, E, h⟩
theorem Aft.look2 {α : Type} {f : Store → Option α} {P : α → Store → List Addr → L2.Hp → Prop} (h : Aft C Z W σ ι H (EV.look f L) P) : ∃ a, f L = some a ∧ ∀ ι' H', Ex ι H ι' H' → SO C Z ι' H' L → P a L ι' H' := by
  unfold EV.look at h
  cases e : f L with
  | none => rw [e] at h; exact False.elim h
  | some a => rw [e] at h; exact ⟨a, rfl, h⟩
theorem Aft.okk {α : Type} {a : α} {P : α → Store → List Addr → L2.Hp → Prop} (h : Aft C Z W σ ι H (.ok a L) P) : ∀ ι' H', Ex ι H ι' H' → SO C Z ι' H' L → P a L ι' H' := h
end

section
variable {X : L2.Cx} {C : Cfg} {cf : Nat → List D → M D} {W : L2.WX} {pos : Pos}
/-! ### names and constants -/
theorem s_slot {i : Nat} {x : Str} (hN : X.N[i]? = some x) (hv : L2.Vis X.env.scope x) (hd : (x == ("__debug__" : Str)) = false) (hcd : (x == ("__classdict__" : Str)) = false) : L2.PE X (.Name x pos) (rE C W (evE cf (.slot i))) := by
  refine pe_imp (L2.pe_var (i := i) hN hv hd hcd) fun σ H Q ⟨Z, ι, L, ρ, S, E, h⟩ => ?_
  simp only [evE] at h
  split at h
  · rename_i d e
    obtain ⟨v, e', r⟩ := E.get i d e
    exact ⟨v, e', h.ok S v r⟩
  · exact False.elim h
/-- a constant's value -/
def cstV : D → Const → Bool
  | .non, .none => true
  | .bl a, .bool b => a == b
  | .int i, .int j => decide (i = j)
  | .str x, .str y => decide (SX.S x = y) && x.all (· < 128)
  | _, _ => false
theorem asc_of {x : List Nat} (h : x.all (· < 128) = true) : asc x := fun c m => by
  have := List.all_eq_true.mp h c m
  simpa using this
theorem rE_cst {d : D} {v : L2.V} {σ : L2.St} {H : L2.Hp} {Q : L2.VK} (h : rE C W (fun _ L => .ok d L) σ H Q) (r : ∀ Z ι H, RV C Z ι H d v) : Q v H := by
  obtain ⟨Z, ι, L, ρ, S, E, h⟩ := h
  exact Aft.ok h S v (r _ _ _)
theorem s_cst {d : D} {c : Const} {j : Nat} (h : cstV d c = true) : L2.PE X (.Constant c j pos) (rE C W (evE cf (.cst d))) := by
  have e0 : evE cf (.cst d) = fun _ L => .ok d L := by funext ρ L; simp only [evE]
  rw [e0]
  cases d <;> cases c <;> simp only [cstV] at h <;> try cases h
  · exact pe_imp L2.pe_non fun σ H Q q => rE_cst q fun _ _ _ => rv_non
  · rename_i a b
    have e : a = b := by simpa using h
    subst e
    exact pe_imp L2.pe_bl fun σ H Q q => rE_cst q fun _ _ _ => rv_bl
  · rename_i a b
    have e : a = b := by simpa using h
    subst e
    exact pe_imp L2.pe_int fun σ H Q q => rE_cst q fun _ _ _ => rv_int
  · rename_i a b
    rw [Bool.and_eq_true] at h
    have e : SX.S a = b := by simpa using h.1
    subst e
    exact pe_imp L2.pe_str fun σ H Q q => rE_cst q fun _ _ _ => rv_str (asc_of h.2)
/-- a module's constant -/
theorem s_glob {d : D} {x : Str} {u : Value} {v : L2.V} (hg : L2.Gl X x) (hm : X.mg x = some u) (r : L2.RelV v u) (hd : (x == ("__debug__" : Str)) = false) (rv : ∀ Z ι H, RV C Z ι H d v) : L2.PE X (.Name x pos) (rE C W (evE cf (.glob d))) := by
  have e0 : evE cf (.glob d) = fun _ L => .ok d L := by funext ρ L; simp only [evE]
  rw [e0]
  exact pe_imp (L2.pe_glob hg hm r hd) fun σ H Q q => rE_cst q rv
theorem s_fnv {f : Nat} {x : Str} (hg : L2.Gl X x) (hm : X.mg x = some (.ref (C.adr f))) (hd : (x == ("__debug__" : Str)) = false) : L2.PE X (.Name x pos) (rE C W (evE cf (.fnv f))) := by
  have e0 : evE cf (.fnv f) = fun _ L => .ok (.fn f) L := by funext ρ L; simp only [evE]
  rw [e0]
  exact pe_imp (L2.pe_glob (v := .ref (C.adr f)) hg hm rfl hd) fun σ H Q q => rE_cst q fun _ _ _ => by unfold RV; rfl

/-! ### operators -/
section
variable {a b c : Expr} {ca cb cc : E}
def rBin (C : Cfg) (f : Store → D → D → Option D) : L2.R2 := fun v w H Q => ∃ Z ι L x y d, SO C Z ι H L ∧ RV C Z ι H x v ∧ RV C Z ι H y w ∧ f L x y = some d ∧ ∀ v' H', L2.Same H H' → RV C Z ι H' d v' → Q v' H'
theorem r2_of {ma mb : Env → M D} {f : Store → D → D → Option D} {σ : L2.St} {H : L2.Hp} {Q : L2.VK}
    (h : rE C W (fun ρ L => (ma ρ L).bind fun x L1 => (mb ρ L1).bind fun y L2 => look (fun L => f L x y) L2) σ H Q) : L2.tOp (rBin C f) (rE C W ma) (rE C W mb) σ H Q := by
  obtain ⟨Z, ι, L, ρ, S, E, h⟩ := h
  refine seqG S E h fun x L1 ι1 H1 v s1 e1 ex1 rx h1 => seqG s1 e1 h1 fun y L2 ι2 H2 w s2 e2 ex2 ry h2 => ?_
  obtain ⟨d, hd, q⟩ := h2.look2
  exact ⟨Z, ι2, L2, x, y, d, s2, RV.mono ex2 _ _ rx, ry, hd, fun v' H' sm r => q ι2 H' (ex_same sm) (s2.same sm) v' r⟩
theorem s_bin {o : Bin} {op : Operator} (hK : X.K = C.K) (ho : op = opB o) (ha : L2.PE X a (rE C W (evE cf ca))) (hb : L2.PE X b (rE C W (evE cf cb))) : L2.PE X (.BinOp a op b pos) (rE C W (evE cf (.bin o ca cb))) := by
  subst ho
  refine pe_imp (L2.pe_op (r := rBin C fun L x y => binV L o x y) (fun pins s σ H v w u u' Q I r1 r2 ⟨Z, ι, L, x, y, d, S, rx, ry, hd, q⟩ => bin_sound hK I S hd rx ry r1 r2 q) ha hb) fun σ H Q h => r2_of ?_
  have e0 : evE cf (.bin o ca cb) = fun ρ L => (evE cf ca ρ L).bind fun x L1 => (evE cf cb ρ L1).bind fun y L2 => look (fun L => binV L o x y) L2 := by funext ρ L; simp only [evE]
  rw [e0] at h
  exact h
theorem s_neg (ha : L2.PE X a (rE C W (evE cf ca))) : L2.PE X (.UnaryOp .USub a pos) (rE C W (evE cf (.neg ca))) := by
  refine pe_imp (L2.pe_un L2.un_neg ha) fun σ H Q ⟨Z, ι, L, ρ, S, E, h⟩ => ?_
  simp only [evE] at h
  refine seqG S E h fun x L1 ι1 H1 v s1 e1 ex1 rx h1 => ?_
  split at h1
  · exact ⟨_, rv_unInt rx, h1.ok s1 _ rv_int⟩
  · exact False.elim h1
def rCmp (C : Cfg) (o : Cmp) : L2.R2 := fun v w H Q => ∃ Z ι L x y d, SO C Z ι H L ∧ RV C Z ι H x v ∧ RV C Z ι H y w ∧ cmpV L o x y = some d ∧ Q (.bl d) H
theorem op_rCmp (hK : X.K = C.K) (hu : X.A.units + 65 < cLine) (o : Cmp) : L2.OpR X (compareOp (opC o)) (rCmp C o) :=
  fun pins s σ H v w u u' Q I r1 r2 ⟨Z, ι, L, x, y, d, S, rx, ry, hd, q⟩ => cmp_sound hK hu I S hd rx ry r1 r2 q
theorem cmp_of {o : Cmp} {σ : L2.St} {H : L2.Hp} {Q : L2.VK} (h : rE C W (evE cf (.cmp o ca cb)) σ H Q) : L2.tOp (rCmp C o) (rE C W (evE cf ca)) (rE C W (evE cf cb)) σ H Q := by
  obtain ⟨Z, ι, L, ρ, S, E, h⟩ := h
  simp only [evE] at h
  refine seqG S E h fun x L1 ι1 H1 v s1 e1 ex1 rx h1 => seqG s1 e1 h1 fun y L2 ι2 H2 w s2 e2 ex2 ry h2 => ?_
  obtain ⟨d, hd, q⟩ := h2.bind.look s2
  exact ⟨Z, ι2, L2, x, y, d, s2, RV.mono ex2 _ _ rx, ry, hd, q.ok s2 _ rv_bl⟩
theorem s_cmp {o : Cmp} {op : CmpOp} (hK : X.K = C.K) (hu : X.A.units + 65 < cLine) (ho : op = opC o) (hm : behindInMarks op b = false) (ha : L2.PE X a (rE C W (evE cf ca))) (hb : L2.PE X b (rE C W (evE cf cb))) : L2.PE X (.Compare a [op] [b] pos) (rE C W (evE cf (.cmp o ca cb))) := by
  subst ho
  exact pe_imp (L2.pe_cmpR (op_rCmp hK hu o) ha hb hm) fun σ H Q h => cmp_of h
/-- a value's test -/
theorem tB_of {m : Env → M D} {t : L2.TE} (k : ∀ σ H Q, rE C W m σ H Q → t σ H Q) : ∀ σ H Q, rT C W m σ H Q → L2.tTest t σ H Q := fun σ H Q ⟨Z, ι, L, ρ, S, E, h⟩ =>
  k _ _ _ (oneG S E (h.bind.mono fun d L' ι' H' ex s q v r => by
    split at q
    · exact ⟨_, rv_unBl r, q.ok s _ rfl⟩
    · exact False.elim q))
theorem tB_ok : L2.tB = L2.tTest := rfl
theorem st_cmp {o : Cmp} {op : CmpOp} (hK : X.K = C.K) (hu : X.A.units + 65 < cLine) (ho : op = opC o) (hm : behindInMarks op b = false) (ha : L2.PE X a (rE C W (evE cf ca))) (hb : L2.PE X b (rE C W (evE cf cb))) : L2.PT X (.Compare a [op] [b] pos) (rT C W (evE cf (.cmp o ca cb))) := by
  subst ho
  exact pt_imp (L2.pt_cmpR (op_rCmp hK hu o) ha hb hm) (tB_of fun σ H Q h => cmp_of h)
/-- any expression without a way of its own as a test -/
theorem st_val {e : Expr} {m : Env → M D} (h : L2.PE X e (rE C W m)) (he : ∀ whole, isTrue e X.env whole = (do let v ← whole; standAt e.pos; holding [v] (truthy v))) : L2.PT X e (rT C W m) :=
  pt_imp (L2.pt_val h he) (tB_of fun σ H Q h => h)
theorem chain_of {o1 o2 : Cmp} {σ : L2.St} {H : L2.Hp} {Q : L2.VK} (h : rE C W (evE cf (.chain o1 o2 ca cb cc)) σ H Q) : L2.tChain (rCmp C o1) (rCmp C o2) (rE C W (evE cf ca)) (rE C W (evE cf cb)) (rE C W (evE cf cc)) σ H Q := by
  obtain ⟨Z, ι, L, ρ, S, E, h⟩ := h
  simp only [evE] at h
  refine seqG S E h fun x L1 ι1 H1 v s1 e1 ex1 rx h1 => seqG s1 e1 h1 fun y L2 ι2 H2 w s2 e2 ex2 ry h2 => ?_
  obtain ⟨d, hd, q⟩ := h2.bind.look s2
  refine ⟨Z, ι2, L2, x, y, d, s2, RV.mono ex2 _ _ rx, ry, hd, d, rfl, ?_⟩
  cases d with
  | false =>
    rw [if_neg Bool.false_ne_true] at q ⊢
    exact q.ok s2 _ rv_bl
  | true =>
    rw [if_pos rfl] at q ⊢
    refine seqG s2 e2 q fun z L3 ι3 H3 w3 s3 e3 ex3 rz h3 => ?_
    obtain ⟨d2, hd2, q2⟩ := h3.bind.look s3
    exact ⟨Z, ι3, L3, y, z, d2, s3, RV.mono ex3 _ _ ry, rz, hd2, q2.ok s3 _ rv_bl⟩
theorem s_chain {o1 o2 : Cmp} {p1 p2 : CmpOp} (hK : X.K = C.K) (hu : X.A.units + 65 < cLine) (h1 : p1 = opC o1) (h2 : p2 = opC o2) (hm : lastMarks [p1, p2] [b, c] = false) (ha : L2.PE X a (rE C W (evE cf ca))) (hb : L2.PE X b (rE C W (evE cf cb))) (hc : L2.PE X c (rE C W (evE cf cc))) :
    L2.PE X (.Compare a [p1, p2] [b, c] pos) (rE C W (evE cf (.chain o1 o2 ca cb cc))) := by
  subst h1 h2
  exact pe_imp (L2.pe_chain (op_rCmp hK hu o1) (op_rCmp hK hu o2) ha hb hc hm) fun σ H Q h => chain_of h
theorem st_chain {o1 o2 : Cmp} {p1 p2 : CmpOp} (hK : X.K = C.K) (hu : X.A.units + 65 < cLine) (h1 : p1 = opC o1) (h2 : p2 = opC o2) (hm : lastMarks [p1, p2] [b, c] = false) (ha : L2.PE X a (rE C W (evE cf ca))) (hb : L2.PE X b (rE C W (evE cf cb))) (hc : L2.PE X c (rE C W (evE cf cc))) :
    L2.PT X (.Compare a [p1, p2] [b, c] pos) (rT C W (evE cf (.chain o1 o2 ca cb cc))) := by
  subst h1 h2
  exact pt_imp (L2.pt_chain (op_rCmp hK hu o1) (op_rCmp hK hu o2) ha hb hc hm) (tB_of fun σ H Q h => chain_of h)
theorem isN_of {σ : L2.St} {H : L2.Hp} {Q : L2.VK} (h : rE C W (evE cf (.isN ca)) σ H Q) : L2.tIsN (rE C W (evE cf ca)) σ H Q := by
  obtain ⟨Z, ι, L, ρ, S, E, h⟩ := h
  simp only [evE] at h
  refine seqG S E h fun x L1 ι1 H1 v s1 e1 ex1 rx h1 => h1.ok s1 _ ?_
  unfold RV
  cases x <;> unfold RV at rx <;> simp only at rx ⊢
  all_goals first
    | (subst rx; rfl)
    | (obtain ⟨rx, _⟩ := rx; subst rx; rfl)
    | (obtain ⟨_, _, rx, _⟩ := rx; subst rx; rfl)
    | (obtain ⟨_, _, rx⟩ := rx; subst rx; rfl)
    | (obtain ⟨_, _, _, rx, _⟩ := rx; subst rx; rfl)
    | (obtain ⟨_, ⟨_, _, _, rx, _⟩, _⟩ := rx; subst rx; rfl)
theorem notN_of {σ : L2.St} {H : L2.Hp} {Q : L2.VK} (h : rE C W (evE cf (.notN ca)) σ H Q) : L2.tNotN (rE C W (evE cf ca)) σ H Q := by
  obtain ⟨Z, ι, L, ρ, S, E, h⟩ := h
  simp only [evE] at h
  refine seqG S E h fun x L1 ι1 H1 v s1 e1 ex1 rx h1 => h1.ok s1 _ ?_
  unfold RV
  cases x <;> unfold RV at rx <;> simp only at rx ⊢
  all_goals first
    | (subst rx; rfl)
    | (obtain ⟨rx, _⟩ := rx; subst rx; rfl)
    | (obtain ⟨_, _, rx, _⟩ := rx; subst rx; rfl)
    | (obtain ⟨_, _, rx⟩ := rx; subst rx; rfl)
    | (obtain ⟨_, _, _, rx, _⟩ := rx; subst rx; rfl)
    | (obtain ⟨_, ⟨_, _, _, rx, _⟩, _⟩ := rx; subst rx; rfl)
theorem s_isN {j : Nat} {p2 : Pos} (ha : L2.PE X a (rE C W (evE cf ca))) : L2.PE X (.Compare a [.Is] [.Constant .none j p2] pos) (rE C W (evE cf (.isN ca))) := pe_imp (L2.pe_cmp (L2.pc_isN ha)) fun σ H Q h => isN_of h
theorem st_isN {j : Nat} {p2 : Pos} (ha : L2.PE X a (rE C W (evE cf ca))) : L2.PT X (.Compare a [.Is] [.Constant .none j p2] pos) (rT C W (evE cf (.isN ca))) := pt_imp (L2.pt_cmp (L2.pc_isN ha)) (tB_of fun σ H Q h => isN_of h)
theorem s_notN {j : Nat} {p2 : Pos} (ha : L2.PE X a (rE C W (evE cf ca))) : L2.PE X (.Compare a [.IsNot] [.Constant .none j p2] pos) (rE C W (evE cf (.notN ca))) := pe_imp (L2.pe_cmp (L2.pc_notN ha)) fun σ H Q h => notN_of h
theorem st_notN {j : Nat} {p2 : Pos} (ha : L2.PE X a (rE C W (evE cf ca))) : L2.PT X (.Compare a [.IsNot] [.Constant .none j p2] pos) (rT C W (evE cf (.notN ca))) := pt_imp (L2.pt_cmp (L2.pc_notN ha)) (tB_of fun σ H Q h => notN_of h)
/-! ### not, and, or, if-else -/
theorem s_not (ha : L2.PE X a (rE C W (evE cf ca))) : L2.PE X (.UnaryOp .Not a pos) (rE C W (evE cf (.not ca))) := by
  refine pe_imp (L2.pe_not ha) fun σ H Q ⟨Z, ι, L, ρ, S, E, h⟩ => ?_
  simp only [evE] at h
  refine seqG S E h fun x L1 ι1 H1 v s1 e1 ex1 rx h1 => ?_
  split at h1
  · exact ⟨_, rv_unBl rx, h1.ok s1 _ rv_bl⟩
  · exact False.elim h1
theorem st_not (ha : L2.PT X a (rT C W (evE cf ca))) : L2.PT X (.UnaryOp .Not a pos) (rT C W (evE cf (.not ca))) := by
  refine pt_imp (L2.pt_not ha) fun σ H Q ⟨Z, ι, L, ρ, S, E, h⟩ => ?_
  refine ⟨Z, ι, L, ρ, S, E, ?_⟩
  unfold boolM at h ⊢
  simp only [evE] at h
  cases e : evE cf ca ρ L with
  | bad => rw [e] at h; exact h
  | exc c d L1 => rw [e] at h; exact h
  | ok d L1 =>
    rw [e] at h
    cases d with
    | bl b => exact fun ι' H' x s c e => h ι' H' x s _ (by rw [← e])
    | _ => exact h
theorem and_bool {ρ : Env} {L : Store} : boolM (evE cf (.and ca cb)) ρ L = (boolM (evE cf ca) ρ L).bind fun b L1 => if b = true then boolM (evE cf cb) ρ L1 else .ok false L1 := by
  unfold boolM
  simp only [evE]
  cases evE cf ca ρ L with
  | bad => rfl
  | exc c d L1 => rfl
  | ok d L1 =>
    cases d with
    | bl b =>
      cases b with
      | false => rfl
      | true =>
        simp only [R.bind, if_true]
        cases evE cf cb ρ L1 with
        | bad => rfl
        | exc c d L1 => rfl
        | ok d L1 => cases d <;> rfl
    | _ => rfl
theorem or_bool {ρ : Env} {L : Store} : boolM (evE cf (.or ca cb)) ρ L = (boolM (evE cf ca) ρ L).bind fun b L1 => if b = true then .ok true L1 else boolM (evE cf cb) ρ L1 := by
  unfold boolM
  simp only [evE]
  cases evE cf ca ρ L with
  | bad => rfl
  | exc c d L1 => rfl
  | ok d L1 =>
    cases d with
    | bl b =>
      cases b with
      | true => rfl
      | false =>
        simp only [R.bind, Bool.false_eq_true, if_false]
        cases evE cf cb ρ L1 with
        | bad => rfl
        | exc c d L1 => rfl
        | ok d L1 => cases d <;> rfl
    | _ => rfl
theorem tAnd_of {ta : L2.TT} {tb : L2.TT} {σ : L2.St} {H : L2.Hp} {Q : Bool → L2.Hp → Prop} (ka : ta = rT C W (evE cf ca)) (kb : tb = rT C W (evE cf cb)) (h : rT C W (evE cf (.and ca cb)) σ H Q) : L2.tAnd ta tb σ H Q := by
  subst ka kb
  obtain ⟨Z, ι, L, ρ, S, E, h⟩ := h
  rw [and_bool] at h
  refine seqG S E h fun x L1 ι1 H1 v s1 e1 ex1 rx h1 => ?_
  subst rx
  cases x with
  | true => exact oneG s1 e1 h1
  | false => exact h1.ok s1 _ rfl
theorem tOr_of {ta : L2.TT} {tb : L2.TT} {σ : L2.St} {H : L2.Hp} {Q : Bool → L2.Hp → Prop} (ka : ta = rT C W (evE cf ca)) (kb : tb = rT C W (evE cf cb)) (h : rT C W (evE cf (.or ca cb)) σ H Q) : L2.tOr ta tb σ H Q := by
  subst ka kb
  obtain ⟨Z, ι, L, ρ, S, E, h⟩ := h
  rw [or_bool] at h
  refine seqG S E h fun x L1 ι1 H1 v s1 e1 ex1 rx h1 => ?_
  subst rx
  cases x with
  | true => exact h1.ok s1 _ rfl
  | false => exact oneG s1 e1 h1
/-- a row of and: the core is nested to the right -/
theorem sw_and1 (ha : L2.PT X a (rT C W (evE cf ca))) : L2.PW X (.BoolOp .And [a] pos) (rT C W (evE cf ca)) := L2.pw_and1 ha
theorem sw_or1 (ha : L2.PT X a (rT C W (evE cf ca))) : L2.PW X (.BoolOp .Or [a] pos) (rT C W (evE cf ca)) := L2.pw_or1 ha
theorem sw_and {rest : List Expr} (ha : L2.PT X a (rT C W (evE cf ca))) (hb : L2.PW X (.BoolOp .And (b :: rest) pos) (rT C W (evE cf cb))) : L2.PW X (.BoolOp .And (a :: b :: rest) pos) (rT C W (evE cf (.and ca cb))) :=
  pw_imp (L2.pw_and ha hb) fun σ H Q h => tAnd_of rfl rfl h
theorem sw_or {rest : List Expr} (ha : L2.PT X a (rT C W (evE cf ca))) (hb : L2.PW X (.BoolOp .Or (b :: rest) pos) (rT C W (evE cf cb))) : L2.PW X (.BoolOp .Or (a :: b :: rest) pos) (rT C W (evE cf (.or ca cb))) :=
  pw_imp (L2.pw_or ha hb) fun σ H Q h => tOr_of rfl rfl h
theorem s_one {op : BoolOp} (ha : L2.PE X a (rE C W (evE cf ca))) : L2.PE X (.BoolOp op [a] pos) (rE C W (evE cf ca)) := L2.pe_one ha
theorem s_and {rest : List Expr} (ha : L2.PE X a (rE C W (evE cf ca))) (hb : L2.PE X (.BoolOp .And (b :: rest) pos) (rE C W (evE cf cb))) : L2.PE X (.BoolOp .And (a :: b :: rest) pos) (rE C W (evE cf (.and ca cb))) := by
  refine pe_imp (L2.pe_and ha hb) fun σ H Q ⟨Z, ι, L, ρ, S, E, h⟩ => ?_
  simp only [evE] at h
  refine seqG S E h fun x L1 ι1 H1 v s1 e1 ex1 rx h1 => ?_
  split at h1
  · refine ⟨_, rv_unBl rx, ?_⟩
    rw [if_pos rfl]
    refine oneG s1 e1 (h1.bind.mono fun d L2 ι2 H2 ex2 s2 q w rw => ?_)
    split at q
    · rw [rv_unBl rw]; exact q.ok s2 _ rv_bl
    · exact False.elim q
  · refine ⟨_, rv_unBl rx, ?_⟩
    rw [if_neg Bool.false_ne_true]
    exact h1.ok s1 _ rv_bl
  · exact False.elim h1
theorem s_or {rest : List Expr} (ha : L2.PE X a (rE C W (evE cf ca))) (hb : L2.PE X (.BoolOp .Or (b :: rest) pos) (rE C W (evE cf cb))) : L2.PE X (.BoolOp .Or (a :: b :: rest) pos) (rE C W (evE cf (.or ca cb))) := by
  refine pe_imp (L2.pe_or ha hb) fun σ H Q ⟨Z, ι, L, ρ, S, E, h⟩ => ?_
  simp only [evE] at h
  refine seqG S E h fun x L1 ι1 H1 v s1 e1 ex1 rx h1 => ?_
  split at h1
  · refine ⟨_, rv_unBl rx, ?_⟩
    rw [if_pos rfl]
    exact h1.ok s1 _ rv_bl
  · refine ⟨_, rv_unBl rx, ?_⟩
    rw [if_neg Bool.false_ne_true]
    refine oneG s1 e1 (h1.bind.mono fun d L2 ι2 H2 ex2 s2 q w rw => ?_)
    split at q
    · rw [rv_unBl rw]; exact q.ok s2 _ rv_bl
    · exact False.elim q
  · exact False.elim h1
theorem s_ife (hc : L2.PT X c (rT C W (evE cf cc))) (ha : L2.PE X a (rE C W (evE cf ca))) (hb : L2.PE X b (rE C W (evE cf cb))) : L2.PE X (.IfExp c a b pos) (rE C W (evE cf (.ife cc ca cb))) := by
  refine pe_imp (L2.pe_ifExp hc ha hb) fun σ H Q ⟨Z, ι, L, ρ, S, E, h⟩ => ?_
  have e0 : evE cf (.ife cc ca cb) ρ L = (boolM (evE cf cc) ρ L).bind fun b L1 => if b = true then evE cf ca ρ L1 else evE cf cb ρ L1 := by
    unfold boolM
    simp only [evE]
    cases evE cf cc ρ L with
    | bad => rfl
    | exc c d L1 => rfl
    | ok d L1 => cases d with
      | bl b => cases b <;> rfl
      | _ => rfl
  rw [e0] at h
  refine seqG S E h fun x L1 ι1 H1 v s1 e1 ex1 rx h1 => ?_
  subst rx
  cases x with
  | true => exact oneG s1 e1 h1
  | false => exact oneG s1 e1 h1
end
end
end EV
end

section
set_option autoImplicit false
/-! The evaluator's word: argument lists, tuples, new lists, built-ins, methods, subscripts, dicts. -/
namespace EV
open PySem PySem.Spec PyProof.Rows

section
variable {X : L2.Cx} {C : Cfg} {cf : Nat → List D → M D} {W : L2.WX} {pos : Pos}
/-! ### argument lists -/
theorem s_nil : L2.PA X [] (rA C W (evEs cf .nil)) := pa_imp L2.pa_nil fun σ H Q ⟨Z, ι, L, ρ, S, E, h⟩ => by
  simp only [evEs] at h
  exact h.ok S _ .nil
theorem s_cons {e : Expr} {es : List Expr} {ce : E} {ces : Es} (hs : starEach (e :: es) X.env = (false, eval e X.env) :: starEach es X.env) (he : L2.PE X e (rE C W (evE cf ce))) (hes : L2.PA X es (rA C W (evEs cf ces))) :
    L2.PA X (e :: es) (rA C W (evEs cf (.cons ce ces))) := pa_imp (L2.pa_cons he hes hs) fun σ H Q ⟨Z, ι, L, ρ, S, E, h⟩ => by
  simp only [evEs] at h
  refine seqG S E h fun x L1 ι1 H1 v s1 e1 ex1 rx h1 => seqG s1 e1 h1 fun xs L2 ι2 H2 vs s2 e2 ex2 rs h2 => h2.ok s2 _ (.cons (RV.mono ex2 _ _ rx) rs)
theorem s_tup {es : List Expr} {ces : Es} {k : Nat} (h : L2.PA X es (rA C W (evEs cf ces))) : L2.PE X (.Tuple es k pos) (rE C W (evE cf (.tup ces))) := pe_imp (L2.pe_tup h) fun σ H Q ⟨Z, ι, L, ρ, S, E, h⟩ => by
  simp only [evE] at h
  refine seqG S E h fun xs L1 ι1 H1 vs s1 e1 ex1 rs h1 => ?_
  split at h1
  · rename_i hz
    exact ⟨by rw [← rs.length, ← big_eq]; exact hz, fun p hp => h1 ι1 _ (ex_upd hp) (s1.upd hp) _ (rv_tupNew s1 hp rs)⟩
  · exact False.elim h1

/-! ### new lists -/
def AftF (C : Cfg) (Z : Addr → Prop) (W : L2.WX) (σ : L2.St) (ι : List Addr) (H : L2.Hp) (r : R (List D)) (Q : L2.VK) : Prop := match r with
  | .ok ds L' => ∀ p xs ι' H', Ex ι H ι' H' → H p = none → SO C (zAdd Z p) ι' H' L' → H' p = some (.lst xs) → p ∉ ι' → RVs C (zAdd Z p) ι' H' ds xs → Q (.ref p) H'
  | .exc c d L' => ∀ v ι' H' dx, Ex ι H ι' H' → SO C Z ι' H' L' → RV C Z ι' H' d v → H' dx = some (.xd [(C.fld c, v)]) → W (.ref (C.cls c)) (some dx) σ H'
  | .bad => False
section
variable {Z : Addr → Prop} {σ : L2.St} {ι ι' : List Addr} {H H' : L2.Hp} {L L1 : Store} {ρ : Env} {Q : L2.VK}
theorem AftF.ext {r : R (List D)} (h : AftF C Z W σ ι H r Q) (x : Ex ι H ι' H') (S : SO C Z ι' H' L1) : AftF C Z W σ ι' H' r Q := by
  cases r with
  | ok a L => exact fun p xs ι2 H2 y hp s e n rv => h p xs ι2 H2 (x.trans y) (x.fresh S hp) s e n rv
  | exc c d L => exact fun v ι2 H2 dx y s rv e => h v ι2 H2 dx (x.trans y) s rv e
  | bad => exact h
theorem AftF.bind {α : Type} {r : R α} {f : α → M (List D)} (h : AftF C Z W σ ι H (r.bind f) Q) : Aft C Z W σ ι H r fun a L1 ι1 H1 => SO C Z ι1 H1 L1 → AftF C Z W σ ι1 H1 (f a L1) Q := by
  cases r with
  | ok a L => exact fun ι1 H1 x s s' => h.ext x s'
  | exc c d L => exact h
  | bad => exact h
theorem seqF {α γ : Type} {rel : (Addr → Prop) → List Addr → L2.Hp → α → γ → Prop} {m : Env → M α} {f : α → M (List D)} {Q' : γ → L2.Hp → Prop} (S : SO C Z ι H L) (E : ER C Z ι H ρ σ) (h : AftF C Z W σ ι H ((m ρ L).bind f) Q)
    (k : ∀ x L1 ι1 H1 v, SO C Z ι1 H1 L1 → ER C Z ι1 H1 ρ σ → Ex ι H ι1 H1 → rel Z ι1 H1 x v → AftF C Z W σ ι1 H1 (f x L1) Q → Q' v H1) : rG C W m rel σ H Q' :=
  ⟨Z, ι, L, ρ, S, E, h.bind.mono fun x L1 ι1 H1 ex s1 a v r => k x L1 ι1 H1 v s1 (E.mono ex) ex r (a s1)⟩
theorem AftF.new {ds : List D} {xs : List L2.V} (h : AftF C Z W σ ι H (.ok ds L) Q) (S : SO C Z ι H L) (r : RVs C Z ι H ds xs) : ∀ p, H p = none → Q (.ref p) (L2.upd H p (.lst xs)) := fun p hp =>
  h p xs ι _ (ex_upd hp) hp (S.add hp) L2.upd_same (S.fresh hp) (RVs.mono (ex_upd hp) _ _ (RVs.add hp _ _ r))
theorem rF_of {m : Env → M (List D)} (S : SO C Z ι H L) (E : ER C Z ι H ρ σ) (h : AftF C Z W σ ι H (m ρ L) Q) : rF C W m σ H Q := ⟨Z, ι, L, ρ, S, E, by
  unfold AftF at h
  exact h⟩
theorem rF_un {m : Env → M (List D)} (h : rF C W m σ H Q) : ∃ Z ι L ρ, SO C Z ι H L ∧ ER C Z ι H ρ σ ∧ AftF C Z W σ ι H (m ρ L) Q := by
  obtain ⟨Z, ι, L, ρ, S, E, h⟩ := h
  exact ⟨Z, ι, L, ρ, S, E, by unfold AftF; exact h⟩
end
theorem frz_of {cf : Nat → List D → M D} {f : F} {σ : L2.St} {H : L2.Hp} {Q : L2.VK} (h : rE C W (evE cf (.frz f)) σ H Q) : rF C W (evF cf f) σ H Q := by
  obtain ⟨Z, ι, L, ρ, S, E, h⟩ := h
  refine rF_of S E ?_
  simp only [evE] at h
  cases e : evF cf f ρ L with
  | bad => rw [e] at h; exact h
  | exc c d L1 => rw [e] at h; exact h
  | ok ds L1 =>
    rw [e] at h
    intro p xs ι' H' x hp s' hp' pn rv
    refine h ι' H' x (s'.weak zle) _ ?_
    unfold RV
    exact ⟨p, xs, rfl, .inl hp', S.notz hp, pn, RVs.weak zle _ _ rv⟩
theorem mut_of {cf : Nat → List D → M D} {f : F} {σ : L2.St} {H : L2.Hp} {Q : L2.VK} (h : rE C W (evE cf (.mut f)) σ H Q) : rF C W (evF cf f) σ H Q := by
  obtain ⟨Z, ι, L, ρ, S, E, h⟩ := h
  refine rF_of S E ?_
  simp only [evE] at h
  cases e : evF cf f ρ L with
  | bad => rw [e] at h; exact h
  | exc c d L1 => rw [e] at h; exact h
  | ok ds L1 =>
    rw [e] at h
    intro p xs ι' H' x hp s' hp' pn rv
    have s2 := s'.adopt hp' pn rv
    refine h (ι' ++ [p]) H' ⟨fun k a e => ?_, fun a m => ?_, x.old⟩ s2 _ ?_
    · have := x.pre k a e
      rw [List.getElem?_append_left (List.getElem?_eq_some_iff.mp this).1]; exact this
    · rcases List.mem_append.mp m with m | m
      · exact x.new a m
      · have : a = p := by simpa using m
        exact .inr (this ▸ hp)
    · unfold RV
      exact ⟨p, by rw [← s'.len, List.getElem?_append_right (Nat.le_refl _)]; simp, rfl⟩
theorem s_frz {e : Expr} {f : F} (h : L2.PE X e (rF C W (evF cf f))) : L2.PE X e (rE C W (evE cf (.frz f))) := pe_imp h fun σ H Q h => frz_of h
theorem s_mut {e : Expr} {f : F} (h : L2.PE X e (rF C W (evF cf f))) : L2.PE X e (rE C W (evE cf (.mut f))) := pe_imp h fun σ H Q h => mut_of h
theorem f_disp {es : List Expr} {ces : Es} (h : L2.PA X es (rA C W (evEs cf ces))) : L2.PE X (.List es pos) (rF C W (evF cf (.disp ces))) := pe_imp (L2.pe_lst h) fun σ H Q h => by
  obtain ⟨Z, ι, L, ρ, S, E, h⟩ := rF_un h
  simp only [evF] at h
  refine seqF S E h fun xs L1 ι1 H1 vs s1 e1 ex1 rs h1 => ?_
  split at h1
  · rename_i hz
    exact ⟨by rw [← rs.length, ← big_eq]; exact hz, h1.new s1 rs⟩
  · exact False.elim h1
/-! slices -/
theorem s_onone : L2.PO X none (rO C W (evO cf .none)) := ⟨fun pins s σ H Q I ⟨Z, ι, L, ρ, S, E, h⟩ => by
  simp only [evO] at h
  exact L2.po_none.run pins s σ H Q I (h.ok S none rfl)⟩
theorem s_osome {e : Expr} {ce : E} (he : L2.PE X e (rE C W (evE cf ce))) : L2.PO X (some e) (rO C W (evO cf (.some ce))) := ⟨fun pins s σ H Q I ⟨Z, ι, L, ρ, S, E, h⟩ => by
  refine (L2.po_some he).run pins s σ H Q I ?_
  simp only [evO] at h
  refine seqG S E h fun x L1 ι1 H1 v s1 e1 ex1 rx h1 => ?_
  split at h1
  · exact ⟨_, rv_unInt rx, h1.ok s1 _ rfl⟩
  · exact False.elim h1⟩
theorem s_sl {e : Expr} {lo hi : Option Expr} {ce : E} {clo chi : Oe} {p2 : Pos} (hK : X.K = C.K) (he : L2.PE X e (rE C W (evE cf ce))) (hl : L2.PO X lo (rO C W (evO cf clo))) (hh : L2.PO X hi (rO C W (evO cf chi))) :
    L2.PE X (.Subscript e (.Slice lo hi none p2) pos) (rE C W (evE cf (.sl ce clo chi))) := pe_imp (L2.pe_slice sl_txt2 he hl hh) fun σ H Q ⟨Z, ι, L, ρ, S, E, h⟩ => by
  simp only [evE] at h
  refine seqG S E h fun x L1 ι1 H1 v s1 e1 ex1 rx h1 => seqG s1 e1 h1 fun l L2 ι2 H2 l' s2 e2 ex2 rl h2 => seqG s2 e2 h2 fun u L3 ι3 H3 u' s3 e3 ex3 ru h3 => ?_
  subst rl ru
  obtain ⟨d, hd, q⟩ := h3.look2
  exact sl_sound hK s3 hd (RV.mono ex3 _ _ (RV.mono ex2 _ _ rx)) fun v' H' sm r => q ι3 H' (ex_same sm) (s3.same sm) v' r
theorem f_sl {e : Expr} {lo hi : Option Expr} {ce : E} {clo chi : Oe} {p2 : Pos} (he : L2.PE X e (rE C W (evE cf ce))) (hl : L2.PO X lo (rO C W (evO cf clo))) (hh : L2.PO X hi (rO C W (evO cf chi))) :
    L2.PE X (.Subscript e (.Slice lo hi none p2) pos) (rF C W (evF cf (.sl ce clo chi))) := pe_imp (L2.pe_slice L2.sl_list he hl hh) fun σ H Q h => by
  obtain ⟨Z, ι, L, ρ, S, E, h⟩ := rF_un h
  simp only [evF] at h
  refine seqF S E h fun x L1 ι1 H1 v s1 e1 ex1 rx h1 => seqF s1 e1 h1 fun l L2 ι2 H2 l' s2 e2 ex2 rl h2 => seqF s2 e2 h2 fun u L3 ι3 H3 u' s3 e3 ex3 ru h3 => ?_
  subst rl ru
  cases e : listOf L3 x with
  | none => rw [e] at h3; exact False.elim h3
  | some ds =>
    rw [e] at h3
    obtain ⟨a, xs, rfl, rd, rs⟩ := listOf_rv s3 e (RV.mono ex3 _ _ (RV.mono ex2 _ _ rx))
    exact ⟨a, xs, rfl, sql_of rd, h3.new s3 (rvs_cut rs l u)⟩
theorem f_cat {a b : Expr} {ca cb : E} (ha : L2.PE X a (rE C W (evE cf ca))) (hb : L2.PE X b (rE C W (evE cf cb))) : L2.PE X (.BinOp a .Add b pos) (rF C W (evF cf (.cat ca cb))) := pe_imp (L2.pe_op op_catR ha hb) fun σ H Q h => by
  obtain ⟨Z, ι, L, ρ, S, E, h⟩ := rF_un h
  simp only [evF] at h
  refine seqF S E h fun x L1 ι1 H1 v s1 e1 ex1 rx h1 => seqF s1 e1 h1 fun y L2 ι2 H2 w s2 e2 ex2 ry h2 => ?_
  cases e1 : listOf L2 x with
  | none => rw [e1] at h2; exact False.elim h2
  | some ds =>
    cases e2 : listOf L2 y with
    | none => rw [e1, e2] at h2; exact False.elim h2
    | some es =>
      rw [e1, e2] at h2
      simp only at h2
      split at h2
      · rename_i hz
        obtain ⟨a, xs, rfl, rd, rs⟩ := listOf_rv s2 e1 (RV.mono ex2 _ _ rx)
        obtain ⟨b, ys, rfl, rd2, rs2⟩ := listOf_rv s2 e2 ry
        exact ⟨a, b, xs, ys, rfl, rfl, rd, rd2, by rw [← rs.length, ← rs2.length, ← big_eq]; exact hz, h2.new s2 (rs.append rs2)⟩
      · exact False.elim h2

/-! ### built-ins by name -/
section
variable {e : Expr} {es : List Expr} {ce : E} {ces : Es} {p : Pos}
def rBi (C : Cfg) (b : Bi) : List L2.V → L2.Hp → L2.VK → Prop := fun vs H Q => ∃ Z ι L xs d, SO C Z ι H L ∧ RVs C Z ι H xs vs ∧ biV L b xs = some d ∧ ∀ v' H', L2.Same H H' → RV C Z ι H' d v' → Q v' H'
theorem cr_bi (hK : X.K = C.K) (hc : X.calm = true) (b : Bi) : L2.CallR X (biF b) (rBi C b) := fun pins s σ H vs us Q I r1 ⟨Z, ι, L, xs, d, S, rx, hd, q⟩ => bi_sound hK hc I S hd rx r1 q
theorem bi_of {b : Bi} {σ : L2.St} {H : L2.Hp} {Q : L2.VK} (h : rE C W (evE cf (.bi b ces)) σ H Q) : L2.tCB (rBi C b) (rA C W (evEs cf ces)) σ H Q := by
  obtain ⟨Z, ι, L, ρ, S, E, h⟩ := h
  simp only [evE] at h
  refine seqG S E h fun xs L1 ι1 H1 vs s1 e1 ex1 rs h1 => ?_
  obtain ⟨d, hd, q⟩ := h1.look2
  exact ⟨Z, ι1, L1, xs, d, s1, rs, hd, fun v' H' sm r => q ι1 H' (ex_same sm) (s1.same sm) v' r⟩
def biNm : Bi → Str
  | .len => "len"
  | .tuple => "tuple"
  | .all => "all"
  | .any => "any"
  | .sum => "sum"
  | .str => "str"
  | .int => "int"
theorem boot_any : bootBuiltins "any" = some (.builtin "any") := by decide +kernel
theorem boot_all : bootBuiltins "all" = some (.builtin "all") := by decide +kernel
theorem boot_len : bootBuiltins "len" = some (.builtin "len") := by decide +kernel
theorem boot_sum : bootBuiltins "sum" = some (.builtin "sum") := by decide +kernel
theorem boot_tuple : bootBuiltins "tuple" = some (.type "tuple") := by decide +kernel
theorem boot_str : bootBuiltins "str" = some (.type "str") := by decide +kernel
theorem boot_int : bootBuiltins "int" = some (.type "int") := by decide +kernel
theorem s_bi {b : Bi} {x : Str} (hx : x = biNm b) (hK : X.K = C.K) (hc : X.calm = true) (hg : L2.Gl X x) (hm : X.mg x = none) (ha : L2.PA X (e :: es) (rA C W (evEs cf ces)))
    (he : starEach (e :: es) X.env = (false, eval e X.env) :: starEach es X.env) (hpl : (backTo pos (starEach es X.env)).any (·.1) = false) : L2.PE X (.Call (.Name x p) (e :: es) [] pos) (rE C W (evE cf (.bi b ces))) := by
  subst hx
  refine pe_imp (t := L2.tCB (rBi C b) (rA C W (evEs cf ces))) ?_ fun σ H Q h => bi_of h
  have cr := cr_bi (X := X) hK hc b
  cases b with
  | len => exact L2.pe_callB cr hg hm boot_len ha (by decide) (by decide) he hpl
  | tuple => exact L2.pe_callTy cr hg hm boot_tuple ha (by decide) (by decide) he hpl
  | all => exact L2.pe_callB cr hg hm boot_all ha (by decide) (by decide) he hpl
  | any => exact L2.pe_callB cr hg hm boot_any ha (by decide) (by decide) he hpl
  | sum => exact L2.pe_callB cr hg hm boot_sum ha (by decide) (by decide) he hpl
  | str => exact L2.pe_callTy cr hg hm boot_str ha (by decide) (by decide) he hpl
  | int => exact L2.pe_callTy cr hg hm boot_int ha (by decide) (by decide) he hpl
/-- isinstance(x, T) -/
def tyNm : Ty → Str
  | .int => "int"
  | .str => "str"
  | .bool => "bool"
  | .tuple => "tuple"
  | .list => "list"
theorem boot_isi : bootBuiltins "isinstance" = some (.builtin "isinstance") := by decide +kernel
theorem boot_ty (t : Ty) : bootBuiltins (tyNm t) = some (.type (tyN t)) := by cases t <;> decide +kernel
theorem tyNm_ok (t : Ty) : tyNm t ≠ "__name__" ∧ (tyNm t == ("__debug__" : Str)) = false := by cases t <;> decide
theorem s_isi {t : Ty} {y : Str} {py : Pos} (hy : y = tyNm t) (hK : X.K = C.K) (hg : L2.Gl X "isinstance") (hm : X.mg "isinstance" = none) (hgy : L2.Gl X y) (hmy : X.mg y = none) (ha : L2.PE X e (rE C W (evE cf ce)))
    (h1 : starEach [e, .Name y py] X.env = (false, eval e X.env) :: starEach [.Name y py] X.env) : L2.PE X (.Call (.Name "isinstance" p) [e, .Name y py] [] pos) (rE C W (evE cf (.isi ce t))) := by
  subst hy
  have hT : L2.PE X (.Name (tyNm t) py) (L2.tC (.ty (tyN t))) := L2.pe_bltn hgy hmy (boot_ty t) rfl (tyNm_ok t).1 (tyNm_ok t).2
  refine pe_imp (L2.pe_callB L2.call_isi hg hm boot_isi (L2.pa_cons ha (L2.pa_cons hT L2.pa_nil rfl) h1) (by decide) (by decide) h1 rfl) fun σ H Q ⟨Z, ι, L, ρ, S, E, h⟩ => ?_
  simp only [evE] at h
  refine seqG S E h fun x L1 ι1 H1 v s1 e1 ex1 rx h1 => ?_
  obtain ⟨b, hb, q⟩ := h1.bind.look s1
  exact isi_sound hK s1 hb rx (q.ok s1 _ rv_bl)
/-- tuple(range(n)) -/
theorem upto_rg (a : Int) : ∀ n : Nat, ∀ {Z : Addr → Prop} {ι : List Addr} {H : L2.Hp}, RVs C Z ι H (upto a n) ((List.range n).map fun i => L2.V.int (a + (i : Nat))) := fun n {Z ι H} => by
  have key : ∀ (n : Nat) (a : Int) (f : Nat → L2.V), (∀ i, f i = .int (a + (i : Nat))) → RVs C Z ι H (upto a n) ((List.range n).map f) := by
    intro n
    induction n with
    | zero => intro a f hf; exact .nil
    | succ n ih =>
      intro a f hf
      rw [List.range_succ_eq_map, List.map_cons, List.map_map]
      refine .cons ?_ (ih (a + 1) (f ∘ Nat.succ) fun i => ?_)
      · rw [hf 0]
        have : a + ((0 : Nat) : Int) = a := by omega
        rw [this]
        exact rv_int
      · show f (i + 1) = _
        rw [hf]
        congr 1
        push_cast
        omega
  exact key n a _ fun i => rfl
theorem s_tupr {p2 pos2 : Pos} (hc : X.calm = true) (hg : L2.Gl X "tuple") (hm : X.mg "tuple" = none) (hg2 : L2.Gl X "range") (hm2 : X.mg "range" = none) (ha : L2.PE X e (rE C W (evE cf ce))) (na : starEach [e] X.env = (false, eval e X.env) :: starEach [] X.env) :
    L2.PE X (.Call (.Name "tuple" p) [.Call (.Name "range" p2) [e] [] pos2] [] pos) (rE C W (evE cf (.tupr ce))) := by
  refine pe_imp (L2.pe_tupRg hc hg hm (L2.prg_1 hg2 hm2 ha na) rfl) fun σ H Q ⟨Z, ι, L, ρ, S, E, h⟩ => ?_
  simp only [evE] at h
  refine seqG S E h fun x L1 ι1 H1 v s1 e1 ex1 rx h1 => ?_
  split at h1
  · rename_i n
    split at h1
    · rename_i hn
      refine ⟨n, rv_unInt rx, ⟨by omega, by omega, by omega, by omega, by omega⟩, fun q hq => h1 ι1 _ (ex_upd hq) (s1.upd hq) _ ?_⟩
      have e0 : (n - 0).toNat = n.toNat := by congr 1; omega
      unfold L2.rgV
      rw [e0]
      exact rv_tupNew s1 hq (upto_rg 0 n.toNat)
    · exact False.elim h1
  · exact False.elim h1
theorem f_lis {x : Str} (hx : x = "list") (hK : X.K = C.K) (hg : L2.Gl X x) (hm : X.mg x = none) (ha : L2.PE X e (rE C W (evE cf ce))) (he : starEach [e] X.env = (false, eval e X.env) :: starEach [] X.env) :
    L2.PE X (.Call (.Name x p) [e] [] pos) (rF C W (evF cf (.lis ce))) := by
  subst hx
  refine pe_imp (L2.pe_callTy L2.call_list_of hg hm (by decide +kernel) (L2.pa_cons ha L2.pa_nil he) (by decide) (by decide) he rfl) fun σ H Q h => ?_
  obtain ⟨Z, ι, L, ρ, S, E, h⟩ := rF_un h
  simp only [evF] at h
  refine seqF S E h fun x L1 ι1 H1 v s1 e1 ex1 rx h1 => ?_
  cases e : seqOf L1 x with
  | none => rw [e] at h1; exact False.elim h1
  | some ds =>
    rw [e] at h1
    obtain ⟨a, xs, rfl, rd, rs⟩ := seqOf_rv s1 e rx
    exact ⟨a, xs, rfl, by rw [hK]; exact rd, h1.new s1 rs⟩
end

/-! ### subscripts -/
section
variable {a b : Expr} {ca cb : E}
def rIxC (C : Cfg) : L2.R2 := fun v w H Q => ∃ Z ι L x y d, SO C Z ι H L ∧ RV C Z ι H x v ∧ RV C Z ι H y w ∧ ixV L x y = some d ∧ ∀ v', RV C Z ι H d v' → Q v' H
theorem ixr_C (hK : X.K = C.K) : L2.IxR X (rIxC C) := fun value slice pins s σ H v w u u' Q I r1 r2 ⟨Z, ι, L, x, y, d, S, rx, ry, hd, q⟩ hs => L2.ix_seq value slice pins s σ H v w u u' Q I r1 r2 (ix_sound hK I S hd rx ry q) hs
theorem s_ix (hK : X.K = C.K) (hs : L2.PlainIx b) (ha : L2.PE X a (rE C W (evE cf ca))) (hb : L2.PE X b (rE C W (evE cf cb))) : L2.PE X (.Subscript a b pos) (rE C W (evE cf (.ix ca cb))) :=
  pe_imp (L2.pe_ix (ixr_C hK) ha hb hs) fun σ H Q ⟨Z, ι, L, ρ, S, E, h⟩ => by
    simp only [evE] at h
    refine seqG S E h fun x L1 ι1 H1 v s1 e1 ex1 rx h1 => seqG s1 e1 h1 fun y L2 ι2 H2 w s2 e2 ex2 ry h2 => ?_
    obtain ⟨d, hd, q⟩ := h2.look s2
    exact ⟨Z, ι2, L2, x, y, d, s2, RV.mono ex2 _ _ rx, ry, hd, q⟩
theorem s_dget (hu : X.A.units + 65 < cLine) (hs : L2.NoSl b) (ha : L2.PE X a (rE C W (evE cf ca))) (hb : L2.PE X b (rE C W (evE cf cb))) : L2.PE X (.Subscript a b pos) (rE C W (evE cf (.dget ca cb))) :=
  pe_imp (L2.pe_dget (by omega) ha hb hs) fun σ H Q ⟨Z, ι, L, ρ, S, E, h⟩ => by
    simp only [evE] at h
    refine seqG S E h fun x L1 ι1 H1 v s1 e1 ex1 rx h1 => seqG s1 e1 h1 fun y L2 ι2 H2 w s2 e2 ex2 ry h2 => ?_
    obtain ⟨d, hd, q⟩ := h2.look s2
    cases e : dictGet L2 x y with
    | none => rw [e] at hd; cases hd
    | some o =>
      rw [e] at hd
      have : o = some d := hd
      subst this
      obtain ⟨a, r, rfl, g, o2⟩ := dictGet_rv s2 e (RV.mono ex2 _ _ rx) ry
      cases r with
      | none => exact False.elim o2
      | some v' => exact ⟨a, v', rfl, g, q v' o2⟩
end

/-! ### methods -/
section
variable {o e : Expr} {es : List Expr} {co : E} {ces : Es} {apos : Pos}
def meNm : Me → Str
  | .split => "split"
  | .join => "join"
  | .index => "index"
  | .append => "append"
  | .count => "count"
  | .startswith => "startswith"
  | .endswith => "endswith"
def meTy : Me → String
  | .append => "list"
  | _ => "str"
def rMe (C : Cfg) (m : Me) : L2.V → List L2.V → L2.Hp → L2.VK → Prop := fun v vs H Q => ∃ Z ι L x xs d, SO C Z ι H L ∧ RV C Z ι H x v ∧ RVs C Z ι H xs vs ∧ meV L m x xs = some d ∧ ∀ v' H', L2.Same H H' → RV C Z ι H' d v' → Q v' H'
theorem mt_me (hK : X.K = C.K) (m : Me) : L2.MtR X (meId m) (rMe C m) := fun pins s σ H v vs u us Q I r0 r1 ⟨Z, ι, L, x, xs, d, S, rx, rs, hd, q⟩ => me_sound hK I S hd rx rs r0 r1 q
theorem recv_ty {Z : Addr → Prop} {ι : List Addr} {H : L2.Hp} {L : Store} {m : Me} {x : D} {v : L2.V} (S : SO C Z ι H L) (h : recv m x L = true) (r : RV C Z ι H x v) : L2.tyV C.K (meTy m) v H := by
  unfold recv at h
  split at h
  · rename_i k
    split at h
    · rename_i ds e
      unfold RV at r
      obtain ⟨a, ea, rfl⟩ := r
      obtain ⟨xs, q, _⟩ := S.at_ e ea
      unfold L2.tyV meTy
      exact .inl ⟨rfl, xs, .inl (.inl q)⟩
    · cases h
  · cases h
  · rename_i m' x' _ hm
    obtain ⟨rfl, _⟩ := rv_unStr r
    cases m <;> first | rfl | exact absurd rfl hm
  · cases h
theorem plain_meTy : ∀ m : Me, PlainAttrs (meTy m)
  | .append => F.plainAttrs_list
  | .split => F.plainAttrs_str
  | .join => F.plainAttrs_str
  | .index => F.plainAttrs_str
  | .count => F.plainAttrs_str
  | .startswith => F.plainAttrs_str
  | .endswith => F.plainAttrs_str
theorem slot_me : ∀ m : Me, Slot (meTy m) (meNm m) (meId m)
  | .append => F.slot_list_append
  | .split => F.slot_str_split
  | .join => F.slot_str_join
  | .index => F.slot_str_index
  | .count => F.slot_str_count
  | .startswith => F.slot_str_startswith
  | .endswith => F.slot_str_endswith
theorem type_me : ∀ m : Me, typeOf (.builtin (meId m)) = pure (.type "method_descriptor")
  | .append => F.type_list_append
  | .split => F.type_str_split
  | .join => F.type_str_join
  | .index => F.type_str_index
  | .count => F.type_str_count
  | .startswith => F.type_str_startswith
  | .endswith => F.type_str_endswith
theorem s_meth {m : Me} {x : Str} (hx : x = meNm m) (hm : m ≠ .append) (hK : X.K = C.K) (ho : L2.PE X o (rE C W (evE cf co))) (ha : L2.PA X (e :: es) (rA C W (evEs cf ces)))
    (hbase : attributeBase o x X.env (eval o X.env) = eval o X.env)
    (hfew : ((backTo pos (starEach (e :: es) X.env)).all (fun x => !x.1) && (backToKw pos (keywordEach [] X.env)).all (fun x => x.1.isSome)
      && decide ((e :: es).length + ([] : List Keyword).length + (if ([] : List Keyword).isEmpty then 0 else 1) < 30)) = true)
    (hline : (apos.endLine == pos.line) = true) (hs : starEach (e :: es) X.env = (false, eval e X.env) :: starEach es X.env) (hplain : (backTo pos (starEach es X.env)).any (·.1) = false) :
    L2.PE X (.Call (.Attribute o x apos) (e :: es) [] pos) (rE C W (evE cf (.meth m co ces))) := by
  subst hx
  refine pe_imp (L2.pe_bm (plain_meTy m) (slot_me m) (type_me m) (mt_me hK m) ho ha hbase hfew hline hs hplain) fun σ H Q ⟨Z, ι, L, ρ, S, E, h⟩ => ?_
  simp only [evE] at h
  refine seqG S E h fun x L1 ι1 H1 v s1 e1 ex1 rx h1 => ?_
  split at h1
  · rename_i hr
    refine ⟨by rw [hK]; exact recv_ty s1 hr rx, seqG s1 e1 h1 fun xs L2 ι2 H2 vs s2 e2 ex2 rs h2 => ?_⟩
    split at h2
    · exact absurd rfl hm
    · obtain ⟨d, hd, q⟩ := h2.look2
      exact ⟨Z, ι2, L2, x, xs, d, s2, RV.mono ex2 _ _ rx, rs, hd, fun v' H' sm r => q ι2 H' (ex_same sm) (s2.same sm) v' r⟩
  · exact False.elim h1
/-- o.append(e) -/
theorem s_append {x : Str} (hx : x = "append") (hK : X.K = C.K) (ho : L2.PE X o (rE C W (evE cf co))) (ha : L2.PA X [e] (rA C W (evEs cf ces)))
    (hbase : attributeBase o x X.env (eval o X.env) = eval o X.env)
    (hfew : ((backTo pos (starEach [e] X.env)).all (fun x => !x.1) && (backToKw pos (keywordEach [] X.env)).all (fun x => x.1.isSome)
      && decide (([e] : List Expr).length + ([] : List Keyword).length + (if ([] : List Keyword).isEmpty then 0 else 1) < 30)) = true)
    (hline : (apos.endLine == pos.line) = true) (hs : starEach [e] X.env = (false, eval e X.env) :: starEach [] X.env) :
    L2.PE X (.Call (.Attribute o x apos) [e] [] pos) (rE C W (evE cf (.meth .append co ces))) := by
  subst hx
  refine pe_imp (L2.pe_bm F.plainAttrs_list F.slot_list_append F.type_list_append L2.mt_append ho ha hbase hfew hline hs rfl) fun σ H Q ⟨Z, ι, L, ρ, S, E, h⟩ => ?_
  simp only [evE] at h
  refine seqG S E h fun x L1 ι1 H1 v s1 e1 ex1 rx h1 => ?_
  split at h1
  · rename_i hr
    refine ⟨by rw [hK]; exact recv_ty (m := .append) s1 hr rx, seqG s1 e1 h1 fun xs L2 ι2 H2 vs s2 e2 ex2 rs h2 => ?_⟩
    have rx2 := RV.mono ex2 _ _ rx
    split at h2
    · rename_i k y hz
      cases e : L2[k]? with
      | none => rw [e] at h2; exact False.elim h2
      | some o =>
        rw [e] at h2
        cases o with
        | dK _ => exact False.elim h2
        | dT _ => exact False.elim h2
        | lst ds =>
          simp only at h2
          split at h2
          · rename_i hlt
            unfold RV at rx2
            obtain ⟨a, ea, rfl⟩ := rx2
            obtain ⟨ys, hq, rq⟩ := s2.at_ e ea
            obtain ⟨w, r, rfl, r1, r2⟩ := rs.uncons
            have er : r = [] := by unfold RVs at r2; exact r2
            subst er
            have xx := ex_set (H := H2) (u := .lst (ys ++ [w])) (List.mem_of_getElem? ea)
            refine ⟨a, ys, w, rfl, rfl, hq, by rw [← rq.length, ← big_eq]; exact hlt, h2 ι2 _ xx (s2.set ea ⟨ys ++ [w], _root_.L2.upd_same, RVs.mono xx _ _ (rq.append (.cons r1 .nil))⟩) _ rv_non⟩
          · exact False.elim h2
    · obtain ⟨d, hd, _⟩ := h2.look2
      simp [meV] at hd
  · exact False.elim h1
end
end
end EV
end

section
set_option autoImplicit false
/-! The evaluator's word: what is walked, targets, comprehensions. -/
namespace EV
open PySem PySem.Spec PyProof.Rows

section
variable {C : Cfg} {Z Z' : Addr → Prop} {ι ι' : List Addr} {H H' : L2.Hp} {L L' : Store}
def ZOk (Z : Addr → Prop) (H : L2.Hp) (Z' : Addr → Prop) : Prop := ∀ a, Z' a → Z a ∨ H a = none
mutual
theorem RV.addz (hz : ZOk Z H Z') : ∀ (d : D) (v : L2.V), RV C Z ι H d v → RV C Z' ι H d v
  | .non, _, r => by simpa [RV] using r
  | .bl _, _, r => by simpa [RV] using r
  | .int _, _, r => by simpa [RV] using r
  | .str _, _, r => by simpa [RV] using r
  | .fn _, _, r => by simpa [RV] using r
  | .obj _, _, r => by simpa [RV] using r
  | .tup ds, v, r => by
    unfold RV at r ⊢
    obtain ⟨a, xs, e, t, n, q⟩ := r
    exact ⟨a, xs, e, t, n, RVs.addz hz ds xs q⟩
  | .ktup ds, v, r => by
    unfold RV at r ⊢
    obtain ⟨a, xs, e, t, q⟩ := r
    exact ⟨a, xs, e, t, RVs.addz hz ds xs q⟩
  | .lst ds, v, r => by
    unfold RV at r ⊢
    obtain ⟨a, xs, e, t, z, n, q⟩ := r
    refine ⟨a, xs, e, t, fun y => ?_, n, RVs.addz hz ds xs q⟩
    rcases hz a y with y | y
    · exact z y
    · rcases t with t | ⟨o, t⟩ <;> (rw [y] at t; cases t)
  | .exn c d, v, r => by
    unfold RV at r ⊢
    obtain ⟨a, dx, y, e, q, hd, n, r⟩ := r
    exact ⟨a, dx, y, e, q, hd, n, RV.addz hz d y r⟩
  | .exv c f m d, v, r => by
    unfold RV at r ⊢
    obtain ⟨y, q, k, r⟩ := r
    exact ⟨y, q, k, RV.addz hz d y r⟩
theorem RVs.addz (hz : ZOk Z H Z') : ∀ (ds : List D) (vs : List L2.V), RVs C Z ι H ds vs → RVs C Z' ι H ds vs
  | [], _, r => by simpa [RVs] using r
  | d :: ds, vs, r => by
    obtain ⟨v, w, rfl, r1, r2⟩ := r.uncons
    exact .cons (RV.addz hz d v r1) (RVs.addz hz ds w r2)
end
theorem ER.addz (hz : ZOk Z H Z') {ρ : Env} {σ : L2.St} (h : ER C Z ι H ρ σ) : ER C Z' ι H ρ σ :=
  ⟨h.len, fun i d e => let ⟨v, q, r⟩ := h.get i d e; ⟨v, q, RV.addz hz _ _ r⟩⟩
mutual
/-- what stands at an address that must not be met is changed -/
theorem RV.updz {p : Addr} {xs : List L2.V} {u : L2.HO} (hp : Z p) (hx : H p = some (.lst xs)) : ∀ (d : D) (v : L2.V), RV C Z ι H d v → RV C Z ι (L2.upd H p u) d v
  | .non, _, r => by simpa [RV] using r
  | .bl _, _, r => by simpa [RV] using r
  | .int _, _, r => by simpa [RV] using r
  | .str _, _, r => by simpa [RV] using r
  | .fn _, _, r => by simpa [RV] using r
  | .obj _, _, r => by simpa [RV] using r
  | .tup ds, v, r => by
    unfold RV at r ⊢
    obtain ⟨a, ys, e, t, n, q⟩ := r
    have ne : a ≠ p := fun z => by rw [z, hx] at t; cases t
    exact ⟨a, ys, e, by rw [L2.upd_ne ne]; exact t, n, RVs.updz hp hx ds ys q⟩
  | .ktup ds, v, r => by
    unfold RV at r ⊢
    obtain ⟨a, ys, e, t, q⟩ := r
    exact ⟨a, ys, e, t, RVs.updz hp hx ds ys q⟩
  | .lst ds, v, r => by
    unfold RV at r ⊢
    obtain ⟨a, ys, e, t, z, n, q⟩ := r
    have ne : a ≠ p := fun y => z (y ▸ hp)
    refine ⟨a, ys, e, ?_, z, n, RVs.updz hp hx ds ys q⟩
    unfold L2.Rd
    rw [L2.upd_ne ne]
    exact t
  | .exn c d, v, r => by
    unfold RV at r ⊢
    obtain ⟨a, dx, y, e, q, hd, n, r⟩ := r
    have ne : dx ≠ p := fun z => by rw [z, hx] at hd; cases hd
    exact ⟨a, dx, y, e, q, by rw [L2.upd_ne ne]; exact hd, n, RV.updz hp hx d y r⟩
  | .exv c f m d, v, r => by
    unfold RV at r ⊢
    obtain ⟨y, q, k, r⟩ := r
    refine ⟨y, q.to fun a o ho n z => ⟨?_, n⟩, k, RV.updz hp hx d y r⟩
    have ne : a ≠ p := fun w => by rw [w, hx] at z; cases z; cases ho
    rw [L2.upd_ne ne]; exact z
theorem RVs.updz {p : Addr} {xs : List L2.V} {u : L2.HO} (hp : Z p) (hx : H p = some (.lst xs)) : ∀ (ds : List D) (vs : List L2.V), RVs C Z ι H ds vs → RVs C Z ι (L2.upd H p u) ds vs
  | [], _, r => by simpa [RVs] using r
  | d :: ds, vs, r => by
    obtain ⟨v, w, rfl, r1, r2⟩ := r.uncons
    exact .cons (RV.updz hp hx d v r1) (RVs.updz hp hx ds w r2)
end
theorem KR.updz {κ : Type} {p : Addr} {xs : List L2.V} {u : L2.HO} (hp : Z p) (hx : H p = some (.lst xs)) : ∀ {kvs : List (κ × D)} {kv : List (κ × L2.V)}, KR C Z ι H kvs kv → KR C Z ι (L2.upd H p u) kvs kv
  | [], _, r => r
  | q :: r, kv, x => by
    obtain ⟨q, s, e, k, h1, h2⟩ := x
    exact ⟨q, s, e, k, RV.updz hp hx _ _ h1, KR.updz hp hx h2⟩
theorem SO.updz (s : SO C Z ι H L) {p : Addr} {xs : List L2.V} {u : L2.HO} (hp : Z p) (hx : H p = some (.lst xs)) (hn : p ∉ ι) : SO C Z ι (L2.upd H p u) L :=
  ⟨s.len, s.nd, fun k o e => by
    obtain ⟨a, q, r⟩ := s.obj k o e
    have ne : a ≠ p := fun z => hn (z ▸ List.mem_of_getElem? q)
    refine ⟨a, q, ?_⟩
    cases o with
    | lst ds => obtain ⟨ys, q1, q2⟩ := r; exact ⟨ys, by rw [L2.upd_ne ne]; exact q1, RVs.updz hp hx _ _ q2⟩
    | dK ds => obtain ⟨ys, q1, q2⟩ := r; exact ⟨ys, by rw [L2.upd_ne ne]; exact q1, KR.updz hp hx q2⟩
    | dT ds => obtain ⟨ys, q1, q2⟩ := r; exact ⟨ys, by rw [L2.upd_ne ne]; exact q1, KR.updz hp hx q2⟩, fun a z q => by
    by_cases e : a = p
    · rw [e, L2.upd_same] at q; cases q
    · rw [L2.upd_ne e] at q; exact s.zh a z q⟩
theorem ex_updN {p : Addr} {u : L2.HO} (x : Ex ι H ι' H') (h : H p = none) : Ex ι H ι' (L2.upd H' p u) :=
  ⟨x.pre, x.new, fun a o e n => by rw [L2.upd_ne (L2.ne_of_none e h)]; exact x.old a o e n⟩

/-! ### what is walked -/
/-- J yields the items of w -/
def Wks (C : Cfg) (J : L2.It) (w : Wk) (Z : Addr → Prop) (ι : List Addr) (H : L2.Hp) : Prop :=
  ∀ (Z' : Addr → Prop) (i : Nat) (ι' : List Addr) (H' : L2.Hp) (L' : Store) (ds : List D), ZOk Z H Z' → Ex ι H ι' H' → SO C Z' ι' H' L' → items w L' = some ds →
    (∀ d, ds[i]? = some d → J.go i H' ∧ ∀ x H'', J.yld i H' x H'' → L2.Same H' H'' ∧ RV C Z' ι' H'' d x) ∧ (ds[i]? = none → J.stop i H')
theorem wks_list {a : Addr} {xs : List L2.V} {ds : List D} (h : L2.Rd H a (.lst xs)) (n : a ∉ ι) (r : RVs C Z ι H ds xs) : Wks C (L2.Itl C.K a) (.vals ds) Z ι H := fun Z' i ι' H' L' es hz x s e => by
  have e : ds = es := by simpa [items] using e
  subst e
  have hq := sql_of (K := C.K) (x.rd h n).1
  have r' := RVs.mono x _ _ (RVs.addz hz _ _ r)
  refine ⟨fun d hd => ?_, fun hd => ⟨xs, hq, ?_⟩⟩
  · obtain ⟨v, hv, rv⟩ := r'.get hd
    refine ⟨⟨xs, v, hq, hv⟩, fun y H'' ⟨e1, e2⟩ => ?_⟩
    subst e1
    have := e2 xs hq
    rw [hv] at this
    cases this
    exact ⟨L2.Same.refl _, rv⟩
  · have := List.getElem?_eq_none_iff.mp hd
    rw [← r.length]; exact this
theorem wks_tup {a : Addr} {xs : List L2.V} {ds : List D} (h : ∀ ι' H', Ex ι H ι' H' → L2.SqT C.K H' a xs) (r : RVs C Z ι H ds xs) : Wks C (L2.Itt C.K a) (.vals ds) Z ι H := fun Z' i ι' H' L' es hz x s e => by
  have e : ds = es := by simpa [items] using e
  subst e
  have hq := h ι' H' x
  have r' := RVs.mono x _ _ (RVs.addz hz _ _ r)
  refine ⟨fun d hd => ?_, fun hd => ⟨xs, hq, ?_⟩⟩
  · obtain ⟨v, hv, rv⟩ := r'.get hd
    refine ⟨⟨xs, v, hq, hv⟩, fun y H'' ⟨e1, e2⟩ => ?_⟩
    subst e1
    have := e2 xs hq
    rw [hv] at this
    cases this
    exact ⟨L2.Same.refl _, rv⟩
  · have := List.getElem?_eq_none_iff.mp hd
    rw [← r.length]; exact this
theorem wks_obj {a : Addr} {k : Nat} (h : ι[k]? = some a) : Wks C (L2.Itl C.K a) (.obj k) Z ι H := fun Z' i ι' H' L' es hz x s e => by
  have e : listOf L' (.obj k) = some es := e
  have h' := x.pre k a h
  obtain ⟨b, xs, eb, rd, r⟩ := listOf_rv s e (v := .ref a) (by unfold RV; exact ⟨a, h', rfl⟩)
  cases eb
  have hq := sql_of (K := C.K) rd
  refine ⟨fun d hd => ?_, fun hd => ⟨xs, hq, ?_⟩⟩
  · obtain ⟨v, hv, rv⟩ := r.get hd
    refine ⟨⟨xs, v, hq, hv⟩, fun y H'' ⟨e1, e2⟩ => ?_⟩
    subst e1
    have := e2 xs hq
    rw [hv] at this
    cases this
    exact ⟨L2.Same.refl _, rv⟩
  · have := List.getElem?_eq_none_iff.mp hd
    rw [← r.length]; exact this
theorem wks_str {x : List Nat} (h : asc x) : Wks C (L2.Its (SX.S x)) (.vals (signs x)) Z ι H := fun Z' i ι' H' L' es hz ex s e => by
  have e : signs x = es := by simpa [items] using e
  subst e
  have sz : (SX.S x).cps.size = x.length := by simp [SX.S]
  refine ⟨fun d hd => ?_, fun hd => ?_⟩
  · unfold signs at hd
    rw [List.getElem?_map] at hd
    cases q : x[i]? with
    | none => rw [q] at hd; cases hd
    | some c =>
      rw [q] at hd
      cases hd
      have lt := (List.getElem?_eq_some_iff.mp q).1
      refine ⟨by show i < _; rw [sz]; exact lt, fun y H'' ⟨e1, c', hc, e2⟩ => ?_⟩
      subst e1
      subst e2
      have hc' : x[i]? = some c' := by simpa [SX.S] using hc
      rw [q] at hc'
      cases hc'
      refine ⟨L2.Same.refl _, ?_⟩
      exact rv_str (x := [c]) fun b m => by
        have : b = c := by simpa using m
        subst this
        exact h b (List.mem_of_getElem? q)
  · show (SX.S x).cps.size ≤ i
    rw [sz]
    unfold signs at hd
    have := List.getElem?_eq_none_iff.mp hd
    simpa using this
theorem upto_get (lo : Int) : ∀ (n i : Nat), (upto lo n)[i]? = if i < n then some (.int (lo + (i : Nat))) else none := by
  intro n
  induction n generalizing lo with
  | zero => intro i; simp [upto]
  | succ n ih =>
    intro i
    cases i with
    | zero => simp [upto]
    | succ i =>
      show (upto (lo + 1) n)[i]? = _
      rw [ih]
      by_cases h : i < n
      · rw [if_pos h, if_pos (by omega)]
        congr 2
        push_cast
        omega
      · rw [if_neg h, if_neg (by omega)]
theorem wks_range {lo : Int} {n : Nat} : Wks C (L2.Itr lo n) (.vals (upto lo n)) Z ι H := fun Z' i ι' H' L' es hz x s e => by
  have e : upto lo n = es := by simpa [items] using e
  subst e
  rw [upto_get]
  refine ⟨fun d hd => ?_, fun hd => ?_⟩
  · split at hd
    · rename_i h
      cases hd
      refine ⟨h, fun y H'' ⟨e1, e2⟩ => ?_⟩
      subst e1
      subst e2
      exact ⟨L2.Same.refl _, rv_int⟩
    · cases hd
  · split at hd
    · cases hd
    · rename_i h
      exact Nat.le_of_not_lt h
theorem numbered_get (lo : Int) : ∀ (ds : List D) (i : Nat), (numbered lo ds)[i]? = (ds[i]?).map fun d => .tup [.int (lo + (i : Nat)), d] := by
  intro ds
  induction ds generalizing lo with
  | nil => intro i; simp [numbered]
  | cons d ds ih =>
    intro i
    cases i with
    | zero => simp [numbered]
    | succ i =>
      show (numbered (lo + 1) ds)[i]? = _
      rw [ih]
      show _ = (ds[i]?).map _
      congr 1
      funext d
      congr 3
      push_cast
      omega
theorem wks_enum {a : Addr} {xs : List L2.V} {ds : List D} (h : L2.Rd H a (.lst xs)) (n : a ∉ ι) (r : RVs C Z ι H ds xs) : Wks C (L2.Ite C.K a) (.vals (numbered 0 ds)) Z ι H := fun Z' i ι' H' L' es hz x s e => by
  have e : numbered 0 ds = es := by simpa [items] using e
  subst e
  have hq := sql_of (K := C.K) (x.rd h n).1
  have r' := RVs.mono x _ _ (RVs.addz hz _ _ r)
  rw [numbered_get]
  refine ⟨fun d hd => ?_, fun hd => ⟨xs, hq, ?_⟩⟩
  · cases q : ds[i]? with
    | none => rw [q] at hd; cases hd
    | some d0 =>
      rw [q] at hd
      cases hd
      obtain ⟨v, hv, rv⟩ := r'.get q
      refine ⟨⟨xs, v, hq, hv⟩, fun y H'' ⟨T, z, e1, hT, e2, e3⟩ => ?_⟩
      subst e1
      subst e2
      have := e3 xs hq
      rw [hv] at this
      cases this
      refine ⟨same_upd hT, rv_tupNew s hT ?_⟩
      have : (0 : Int) + (i : Nat) = (i : Nat) := by omega
      rw [this]
      exact .cons rv_int (.cons rv .nil)
  · cases q : ds[i]? with
    | none =>
      have := List.getElem?_eq_none_iff.mp q
      rw [← r.length]; exact this
    | some d0 => rw [q] at hd; cases hd
theorem zipD_get : ∀ (as bs : List D) (i : Nat), (zipD as bs)[i]? = match as[i]?, bs[i]? with
    | some a, some b => some (.tup [a, b])
    | _, _ => none := by
  intro as
  induction as with
  | nil => intro bs i; simp [zipD]
  | cons a as ih =>
    intro bs i
    cases bs with
    | nil => simp only [zipD]; cases (a :: as)[i]? <;> simp
    | cons b bs => cases i with
      | zero => simp [zipD]
      | succ i => simpa [zipD] using ih bs i
theorem wks_zip {a b : Addr} {xs ys : List L2.V} {ds es : List D} (h : L2.Rd H a (.lst xs)) (n : a ∉ ι) (r : RVs C Z ι H ds xs) (h2 : L2.Rd H b (.lst ys)) (n2 : b ∉ ι) (r2 : RVs C Z ι H es ys) :
    Wks C (L2.Itz C.K a b) (.vals (zipD ds es)) Z ι H := fun Z' i ι' H' L' fs hz x s e => by
  have e : zipD ds es = fs := by simpa [items] using e
  subst e
  have hq := sql_of (K := C.K) (x.rd h n).1
  have hq2 := sql_of (K := C.K) (x.rd h2 n2).1
  have r' := RVs.mono x _ _ (RVs.addz hz _ _ r)
  have r2' := RVs.mono x _ _ (RVs.addz hz _ _ r2)
  rw [zipD_get]
  refine ⟨fun d hd => ?_, fun hd => ⟨xs, ys, hq, hq2, ?_⟩⟩
  · cases q : ds[i]? with
    | none => rw [q] at hd; cases hd
    | some d0 => cases q2 : es[i]? with
      | none => rw [q, q2] at hd; cases hd
      | some d1 =>
        rw [q, q2] at hd
        cases hd
        obtain ⟨v, hv, rv⟩ := r'.get q
        obtain ⟨v2, hv2, rv2⟩ := r2'.get q2
        refine ⟨⟨xs, ys, v, v2, hq, hq2, hv, hv2⟩, fun y H'' ⟨T, z, z2, e1, hT, e2, e3, e4⟩ => ?_⟩
        subst e1
        subst e2
        have := e3 xs hq
        rw [hv] at this
        cases this
        have := e4 ys hq2
        rw [hv2] at this
        cases this
        exact ⟨same_upd hT, rv_tupNew s hT (.cons rv (.cons rv2 .nil))⟩
  · cases q : ds[i]? with
    | none => left; have := List.getElem?_eq_none_iff.mp q; rw [← r.length]; exact this
    | some d0 => cases q2 : es[i]? with
      | none => right; have := List.getElem?_eq_none_iff.mp q2; rw [← r2.length]; exact this
      | some d1 => rw [q, q2] at hd; cases hd
theorem wks_zipT {a b : Addr} {xs ys : List L2.V} {ds es : List D} (h : ∀ ι' H', Ex ι H ι' H' → L2.SqT C.K H' a xs) (r : RVs C Z ι H ds xs) (h2 : ∀ ι' H', Ex ι H ι' H' → L2.SqT C.K H' b ys) (r2 : RVs C Z ι H es ys) :
    Wks C (RZ.ItzT C.K a b) (.vals (zipD ds es)) Z ι H := fun Z' i ι' H' L' fs hz x s e => by
  have e : zipD ds es = fs := by simpa [items] using e
  subst e
  have hq := h ι' H' x
  have hq2 := h2 ι' H' x
  have r' := RVs.mono x _ _ (RVs.addz hz _ _ r)
  have r2' := RVs.mono x _ _ (RVs.addz hz _ _ r2)
  rw [zipD_get]
  refine ⟨fun d hd => ?_, fun hd => ⟨xs, ys, hq, hq2, ?_⟩⟩
  · cases q : ds[i]? with
    | none => rw [q] at hd; cases hd
    | some d0 => cases q2 : es[i]? with
      | none => rw [q, q2] at hd; cases hd
      | some d1 =>
        rw [q, q2] at hd
        cases hd
        obtain ⟨v, hv, rv⟩ := r'.get q
        obtain ⟨v2, hv2, rv2⟩ := r2'.get q2
        refine ⟨⟨xs, ys, v, v2, hq, hq2, hv, hv2⟩, fun y H'' ⟨T, z, z2, e1, hT, e2, e3, e4⟩ => ?_⟩
        subst e1
        subst e2
        have := e3 xs hq
        rw [hv] at this
        cases this
        have := e4 ys hq2
        rw [hv2] at this
        cases this
        exact ⟨same_upd hT, rv_tupNew s hT (.cons rv (.cons rv2 .nil))⟩
  · cases q : ds[i]? with
    | none => left; have := List.getElem?_eq_none_iff.mp q; rw [← r.length]; exact this
    | some d0 => cases q2 : es[i]? with
      | none => right; have := List.getElem?_eq_none_iff.mp q2; rw [← r2.length]; exact this
      | some d1 => rw [q, q2] at hd; cases hd
theorem tupOf_rv {x : D} {ds : List D} {v : L2.V} (h : tupOf x = some ds) (r : RV C Z ι H x v) : ∃ a xs, v = .ref a ∧ (∀ ι' H', Ex ι H ι' H' → L2.SqT C.K H' a xs) ∧ RVs C Z ι H ds xs := by
  cases x <;> simp only [tupOf] at h <;> try cases h
  · unfold RV at r
    obtain ⟨a, xs, e, t, n, q⟩ := r
    exact ⟨a, xs, e, fun ι' H' x => .inl (.inl (x.old _ _ t n)), q⟩
  · unfold RV at r
    obtain ⟨a, xs, e, t, q⟩ := r
    obtain ⟨o, its, n, h1, h2, h3, h4, h5⟩ := t
    exact ⟨a, xs, e, fun ι' H' x => .inr ⟨o, its, n, h1, h2, h3, h4, h5⟩, q⟩
end

def rI (C : Cfg) (W : L2.WX) (m : Env → M Wk) : L2.TI := fun σ H R => rG C W m (fun Z ι H w J => Wks C J w Z ι H) σ H R
section
variable {X : L2.Cx} {C : Cfg} {cf : Nat → List D → M D} {W : L2.WX} {pos : Pos} {tg : Expr}
theorem pi_imp {it : Expr} {t t' : L2.TI} (h : L2.PI X tg it t) (k : ∀ σ H R, t' σ H R → t σ H R) : L2.PI X tg it t' := ⟨fun pins s σ H R I w => h.run pins s σ H R I (k σ H R w)⟩
def iAny (K : PySem.W.Frag) (tl : L2.TE) : L2.TI := fun σ H R => tl σ H fun x H1 => (∃ a, x = .ref a ∧ (∃ xs, L2.SqL K H1 a xs) ∧ R (L2.Itl K a) H1) ∨ (∃ a, x = .ref a ∧ (∃ xs, L2.SqT K H1 a xs) ∧ R (L2.Itt K a) H1) ∨ ∃ z, x = .str z ∧ R (L2.Its z) H1
theorem pi_any {l : Expr} {tl : L2.TE} (hl : L2.PE X l tl) : L2.PI X tg l (iAny X.K tl) := by
  refine ⟨fun pins s σ H R I h => ?_⟩
  refine L2.thn (hl.run pins s σ H _ I h) fun v s1 ⟨x, H1, I1, r1, q1⟩ => ?_
  rcases q1 with ⟨a, e, ⟨xs, hq⟩, q⟩ | ⟨a, e, ⟨xs, hq⟩, q⟩ | ⟨z, e, q⟩
  · subst e
    cases r1
    obtain ⟨its, rv, p, hz⟩ := I1.list hq
    refine wpAny_pyIter_list p.isList ?_
    refine ⟨s1.heap.objs.size, [s1.heap.objs.size], _, _, H1, rfl, I1.kept (t' := s1.toks) fun b o e => Heap.get?_push_of_some _ e, L2.turn_list a _, ⟨_, Heap.get?_push_size _ rfl, rfl, rfl⟩, fun b hb => ?_, q⟩
    have e : b = s1.heap.objs.size := by simpa using hb
    subst e
    exact I1.fpOk (Nat.le_refl _) (I1.hok.fresh (Nat.le_refl _))
  · subst e
    cases r1
    obtain ⟨its, rv, p, hz⟩ := I1.tuple hq
    refine wpAny_pyIter_tuple (show s1.heap.IsTuple a its.toArray from p) ?_
    refine ⟨s1.heap.objs.size, [s1.heap.objs.size], _, _, H1, rfl, I1.kept (t' := s1.toks) fun b o e => Heap.get?_push_of_some _ e, L2.turn_tuple a _, ⟨_, Heap.get?_push_size _ rfl, rfl, rfl⟩, fun b hb => ?_, q⟩
    have e : b = s1.heap.objs.size := by simpa using hb
    subst e
    exact I1.fpOk (Nat.le_refl _) (I1.hok.fresh (Nat.le_refl _))
  · subst e
    obtain ⟨t, rfl⟩ := r1
    cases ha : z.cps.all (· < 128)
    · exact wpAny_pyIter_wide ha (L2.pi_one (tk := s1.toks) I1 _ (L2.turn_str _ z t "str_iterator" (.inr rfl)) ⟨_, Heap.get?_push_size _ rfl, rfl, rfl⟩ q)
    · exact wpAny_pyIter_ascii ha (L2.pi_one (tk := s1.toks) I1 _ (L2.turn_str _ z t "str_ascii_iterator" (.inl rfl)) ⟨_, Heap.get?_push_size _ rfl, rfl, rfl⟩ q)
theorem i_val {e : Expr} {ce : E} (hK : X.K = C.K) (h : L2.PE X e (rE C W (evE cf ce))) : L2.PI X tg e (rI C W (evI cf (.val ce))) := by
  refine pi_imp (pi_any h) fun σ H R ⟨Z, ι, L, ρ, S, E, h⟩ => ?_
  simp only [evI] at h
  rw [hK]
  refine seqG S E h fun x L1 ι1 H1 v s1 e1 ex1 rx h1 => ?_
  split at h1
  · unfold RV at rx
    obtain ⟨a, xs, e, t, z, n, q⟩ := rx
    exact .inl ⟨a, e, ⟨xs, sql_of t⟩, h1.ok s1 _ (wks_list t n q)⟩
  · obtain ⟨a, xs, e, t, q⟩ := tupOf_rv (ds := _) rfl rx
    exact .inr (.inl ⟨a, e, ⟨xs, t _ _ .refl⟩, h1.ok s1 _ (wks_tup t q)⟩)
  · obtain ⟨a, xs, e, t, q⟩ := tupOf_rv (ds := _) rfl rx
    exact .inr (.inl ⟨a, e, ⟨xs, t _ _ .refl⟩, h1.ok s1 _ (wks_tup t q)⟩)
  · obtain ⟨e, a⟩ := rv_unStr rx
    exact .inr (.inr ⟨_, e, h1.ok s1 _ (wks_str a)⟩)
  · rename_i k
    cases e : listOf L1 (.obj k) with
    | none => rw [e] at h1; exact False.elim h1
    | some ds =>
      rw [e] at h1
      obtain ⟨a, xs, ea, rd, r⟩ := listOf_rv s1 e rx
      unfold RV at rx
      obtain ⟨b, eb, ev⟩ := rx
      rw [ev] at ea
      cases ea
      exact .inl ⟨_, ev, ⟨xs, sql_of rd⟩, h1.ok s1 _ (wks_obj eb)⟩
  · exact False.elim h1
section
variable {a b : Expr} {ca cb : E} {p : Pos}
theorem i_range1 (hg : L2.Gl X "range") (hm : X.mg "range" = none) (hs : starEach [a] X.env = (false, eval a X.env) :: starEach [] X.env) (ha : L2.PE X a (rE C W (evE cf ca))) :
    L2.PI X tg (.Call (.Name "range" p) [a] [] pos) (rI C W (evI cf (.range1 ca))) := by
  refine pi_imp (L2.pi_range1 hg hm (L2.pa_cons ha L2.pa_nil hs) hs) fun σ H R ⟨Z, ι, L, ρ, S, E, h⟩ => ?_
  simp only [evI] at h
  refine seqG S E h fun x L1 ι1 H1 v s1 e1 ex1 rx h1 => ?_
  split at h1
  · rename_i n
    split at h1
    · rename_i hn
      exact ⟨n, by rw [rv_unInt rx], hn.2, hn.1, h1.ok s1 _ wks_range⟩
    · exact False.elim h1
  · exact False.elim h1
theorem i_range2 (hg : L2.Gl X "range") (hm : X.mg "range" = none) (hs : starEach [a, b] X.env = (false, eval a X.env) :: starEach [b] X.env) (hs2 : starEach [b] X.env = (false, eval b X.env) :: starEach [] X.env) (ha : L2.PE X a (rE C W (evE cf ca))) (hb : L2.PE X b (rE C W (evE cf cb))) :
    L2.PI X tg (.Call (.Name "range" p) [a, b] [] pos) (rI C W (evI cf (.range2 ca cb))) := by
  refine pi_imp (L2.pi_range2 hg hm (L2.pa_cons ha (L2.pa_cons hb L2.pa_nil hs2) hs) (by rw [hs, hs2]; rfl) hs2) fun σ H R ⟨Z, ι, L, ρ, S, E, h⟩ => ?_
  simp only [evI] at h
  refine seqG S E h fun x L1 ι1 H1 v s1 e1 ex1 rx h1 => seqG s1 e1 h1 fun y L2 ι2 H2 w s2 e2 ex2 ry h2 => ?_
  split at h2
  · rename_i m n
    split at h2
    · rename_i hn
      exact ⟨m, n, by rw [rv_unInt rx, rv_unInt ry], ⟨hn.2.2.2, hn.2.2.1, hn.2.1, hn.1⟩, h2.ok s2 _ wks_range⟩
    · exact False.elim h2
  · exact False.elim h2
theorem i_enum {elts : List Expr} {kk : Nat} {tpos : Pos} (hK : X.K = C.K) (hg : L2.Gl X "enumerate") (hm : X.mg "enumerate" = none) (hs : starEach [a] X.env = (false, eval a X.env) :: starEach [] X.env) (ha : L2.PE X a (rE C W (evE cf ca))) :
    L2.PI X (.Tuple elts kk tpos) (.Call (.Name "enumerate" p) [a] [] pos) (rI C W (evI cf (.enum ca))) := by
  refine pi_imp (L2.pi_enum hg hm (L2.pa_cons ha L2.pa_nil hs) hs) fun σ H R ⟨Z, ι, L, ρ, S, E, h⟩ => ?_
  simp only [evI] at h
  rw [hK]
  refine seqG S E h fun x L1 ι1 H1 v s1 e1 ex1 rx h1 => ?_
  split at h1
  · unfold RV at rx
    obtain ⟨a, xs, e, t, z, n, q⟩ := rx
    exact ⟨a, xs, by rw [e], sql_of t, h1.ok s1 _ (wks_enum t n q)⟩
  · exact False.elim h1
theorem i_zip {elts : List Expr} {kk : Nat} {tpos : Pos} (hK : X.K = C.K) (hg : L2.Gl X "zip") (hm : X.mg "zip" = none) (hs : starEach [a, b] X.env = (false, eval a X.env) :: starEach [b] X.env) (hs2 : starEach [b] X.env = (false, eval b X.env) :: starEach [] X.env) (ha : L2.PE X a (rE C W (evE cf ca))) (hb : L2.PE X b (rE C W (evE cf cb))) :
    L2.PI X (.Tuple elts kk tpos) (.Call (.Name "zip" p) [a, b] [] pos) (rI C W (evI cf (.zip ca cb))) := by
  refine pi_imp (RZ.pi_zipA hg hm (L2.pa_cons ha (L2.pa_cons hb L2.pa_nil hs2) hs) hs (by rw [hs2]; rfl)) fun σ H R ⟨Z, ι, L, ρ, S, E, h⟩ => ?_
  simp only [evI] at h
  rw [hK]
  refine seqG S E h fun x L1 ι1 H1 v s1 e1 ex1 rx h1 => seqG s1 e1 h1 fun y L2 ι2 H2 w s2 e2 ex2 ry h2 => ?_
  have rx2 := RV.mono ex2 _ _ rx
  split at h2
  · unfold RV at rx2 ry
    obtain ⟨a, xs, e, t, z, n, q⟩ := rx2
    obtain ⟨b, ys, e2, t2, z2, n2, q2⟩ := ry
    exact ⟨a, b, xs, ys, by rw [e, e2], .inl ⟨sql_of t, sql_of t2, h2.ok s2 _ (wks_zip t n q t2 n2 q2)⟩⟩
  · cases q1 : tupOf x with
    | none => rw [q1] at h2; exact False.elim h2
    | some ds => cases q2 : tupOf y with
      | none => rw [q1, q2] at h2; exact False.elim h2
      | some es =>
        rw [q1, q2] at h2
        obtain ⟨a, xs, e, t, r⟩ := tupOf_rv q1 rx2
        obtain ⟨b, ys, e2, t2, r2⟩ := tupOf_rv q2 ry
        exact ⟨a, b, xs, ys, by rw [e, e2], .inr ⟨t _ _ .refl, t2 _ _ .refl, h2.ok s2 _ (wks_zipT t r t2 r2)⟩⟩
end
end

/-! ### targets -/
/-- a target's reading -/
def rB (C : Cfg) (t : Tg) : L2.TG := fun v σ H Q => ∃ Z ι L ρ d ρ', SO C Z ι H L ∧ ER C Z ι H ρ σ ∧ RV C Z ι H d v ∧ bindT t d ρ = some ρ' ∧ ∀ σ', ER C Z ι H ρ' σ' → (∀ j, j ∉ tgIx t → σ'[j]? = σ[j]?) → Q σ' H
def rBs (C : Cfg) (t : Tgs) : L2.TGs := fun vs σ H Q => ∃ Z ι L ρ ds ρ', SO C Z ι H L ∧ ER C Z ι H ρ σ ∧ RVs C Z ι H ds vs ∧ bindTs t ds ρ = some ρ' ∧ ∀ σ', ER C Z ι H ρ' σ' → (∀ j, j ∉ tgsIx t → σ'[j]? = σ[j]?) → Q σ' H
section
variable {C : Cfg} {Z : Addr → Prop} {ι : List Addr} {H : L2.Hp} {ρ : Env} {σ : L2.St}
theorem ER.set (h : ER C Z ι H ρ σ) (i : Nat) {d : D} {v : L2.V} (r : RV C Z ι H d v) : ER C Z ι H (ρ.set i (some d)) (σ.set i (some v)) := by
  refine ⟨by rw [List.length_set, List.length_set]; exact h.len, fun j e hj => ?_⟩
  by_cases hij : i = j
  · subst hij
    have hl : i < ρ.length := by
      have := (List.getElem?_eq_some_iff.mp hj).1
      simpa using this
    rw [List.getElem?_set_self hl] at hj
    cases hj
    exact ⟨v, by rw [List.getElem?_set_self (by rw [← h.len]; exact hl)], r⟩
  · rw [List.getElem?_set_ne hij] at hj
    obtain ⟨w, q, r'⟩ := h.get j e hj
    exact ⟨w, by rw [List.getElem?_set_ne hij]; exact q, r'⟩
theorem ER.clear (h : ER C Z ι H ρ σ) (i : Nat) : ER C Z ι H (ρ.set i none) (σ.set i none) := by
  refine ⟨by rw [List.length_set, List.length_set]; exact h.len, fun j e hj => ?_⟩
  by_cases hij : i = j
  · subst hij
    have hl : i < ρ.length := by
      have := (List.getElem?_eq_some_iff.mp hj).1
      simpa using this
    rw [List.getElem?_set_self hl] at hj
    cases hj
  · rw [List.getElem?_set_ne hij] at hj
    obtain ⟨w, q, r'⟩ := h.get j e hj
    exact ⟨w, by rw [List.getElem?_set_ne hij]; exact q, r'⟩
theorem ER.wipe (h : ER C Z ι H ρ σ) : ∀ vs : List Nat, ER C Z ι H (wipeD ρ vs) (L2.wipe σ vs)
  | [] => h
  | v :: vs => (ER.wipe h vs).clear v
end
section
variable {X : L2.Cx} {C : Cfg} {pos : Pos}
theorem pg_imp {e : Expr} {t t' : L2.TG} (h : L2.PG X e t) (k : ∀ v σ H Q, t' v σ H Q → t v σ H Q) : L2.PG X e t' := ⟨fun pins s σ H v u Q I r w => h.run pins s σ H v u Q I r (k v σ H Q w)⟩
theorem pgs_imp {e : List Expr} {t t' : L2.TGs} (h : L2.PGs X e t) (k : ∀ v σ H Q, t' v σ H Q → t v σ H Q) : L2.PGs X e t' := ⟨fun pins s σ H v u Q I r w => h.run pins s σ H v u Q I r (k v σ H Q w)⟩
theorem g_name {i : Nat} {x : Str} (hN : X.N.Nodup) (hi : X.N[i]? = some x) (hx : L2.Loc X.env.scope x) (hf : X.fn x = true ∨ X.env.scope.names.lookup x = some .local) : L2.PG X (.Name x pos) (rB C (.name i)) :=
  pg_imp (L2.pg_name hN hi hx hf) fun v σ H Q ⟨Z, ι, L, ρ, d, ρ', S, E, r, hb, k⟩ => by
    simp only [bindT] at hb
    cases hb
    refine k _ (E.set i r) fun j hj => ?_
    have : i ≠ j := fun z => hj (by simp [tgIx, z])
    rw [List.getElem?_set_ne this]
theorem gs_nil : L2.PGs X [] (rBs C .nil) := pgs_imp L2.pgs_nil fun v σ H Q ⟨Z, ι, L, ρ, d, ρ', S, E, r, hb, k⟩ => by
  cases d with
  | nil =>
    simp only [bindTs] at hb
    cases hb
    unfold RVs at r
    exact ⟨r, k _ E fun j hj => rfl⟩
  | cons _ _ => simp [bindTs] at hb
theorem gs_cons {e : Expr} {es : List Expr} {t : Tg} {ts : Tgs} (hs : (assignEach (e :: es) X.env).map (·.2) = assign e X.env :: (assignEach es X.env).map (·.2)) (h1 : L2.PG X e (rB C t)) (h2 : L2.PGs X es (rBs C ts)) : L2.PGs X (e :: es) (rBs C (.cons t ts)) :=
  pgs_imp (L2.pgs_cons h1 h2 hs) fun v σ H Q ⟨Z, ι, L, ρ, ds, ρ', S, E, r, hb, k⟩ => by
  cases ds with
  | nil => simp [bindTs] at hb
  | cons d ds =>
    simp only [bindTs] at hb
    cases e : bindT t d ρ with
    | none => rw [e] at hb; cases hb
    | some ρ1 =>
      rw [e] at hb
      obtain ⟨w, vs, rfl, r1, r2⟩ := r.uncons
      refine ⟨w, vs, rfl, Z, ι, L, ρ, d, ρ1, S, E, r1, e, fun σ1 E1 f1 => ⟨Z, ι, L, ρ1, ds, ρ', S, E1, r2, hb, fun σ2 E2 f2 => k σ2 E2 fun j hj => ?_⟩⟩
      simp only [tgsIx, List.mem_append, not_or] at hj
      rw [f2 j hj.2, f1 j hj.1]
mutual
theorem bindT_len : ∀ {t : Tg} {d : D} {ρ ρ' : Env}, bindT t d ρ = some ρ' → ρ'.length = ρ.length
  | .name i, d, ρ, ρ', h => by
    simp only [bindT] at h
    cases h
    simp
  | .tup ts, d, ρ, ρ', h => by
    simp only [bindT] at h
    split at h
    · exact bindTs_ln h
    · cases h
theorem bindTs_ln : ∀ {t : Tgs} {d : List D} {ρ ρ' : Env}, bindTs t d ρ = some ρ' → ρ'.length = ρ.length
  | .nil, [], ρ, ρ', h => by
    simp only [bindTs] at h
    cases h
    rfl
  | .nil, _ :: _, ρ, ρ', h => by simp [bindTs] at h
  | .cons t r, [], ρ, ρ', h => by simp [bindTs] at h
  | .cons t r, d :: ds, ρ, ρ', h => by
    simp only [bindTs] at h
    split at h
    · rename_i e
      rw [bindTs_ln h, bindT_len e]
    · cases h
end
theorem bindTs_len : ∀ {ts : Tgs} {ds : List D} {ρ ρ' : Env} {n : Nat}, bindTs ts ds ρ = some ρ' → lenTs ts = n → ds.length = n
  | .nil, [], ρ, ρ', n, h, e => by simpa [lenTs] using e
  | .nil, _ :: _, ρ, ρ', n, h, e => by simp [bindTs] at h
  | .cons t r, [], ρ, ρ', n, h, e => by simp [bindTs] at h
  | .cons t r, d :: ds, ρ, ρ', n, h, e => by
    simp only [bindTs] at h
    cases q : bindT t d ρ with
    | none => rw [q] at h; cases h
    | some ρ1 =>
      rw [q] at h
      have := bindTs_len (n := lenTs r) h rfl
      rw [List.length_cons, this]
      simpa [lenTs] using e
theorem g_tup {es : List Expr} {ts : Tgs} {k : Nat} (hK : X.K = C.K) (hc : X.calm = true) (h : L2.PGs X es (rBs C ts)) (hn : (assignEach es X.env).length = lenTs ts) (hst : (assignEach es X.env).findIdx? (·.1) = none) : L2.PG X (.Tuple es k pos) (rB C (.tup ts)) :=
  pg_imp (L2.pg_tup hc h hn hst) fun v σ H Q ⟨Z, ι, L, ρ, d, ρ', S, E, r, hb, k⟩ => by
  simp only [bindT] at hb
  cases e : tupOf d with
  | none => rw [e] at hb; cases hb
  | some ds =>
    rw [e] at hb
    obtain ⟨a, xs, ev, q, rs⟩ := tupOf_rv e r
    refine ⟨a, xs, ev, by rw [hK]; exact q _ _ .refl, by rw [← rs.length]; exact bindTs_len hb rfl, Z, ι, L, ρ, ds, ρ', S, E, rs, hb, fun σ' E' f => k σ' E' fun j hj => f j (by simpa [tgIx] using hj)⟩
end
end EV
end

section
set_option autoImplicit false
/-! The evaluator's word: comprehensions, dicts, calls. -/
namespace EV
open PySem PySem.Spec PyProof.Rows

section
variable {C : Cfg} {W : L2.WX}
def turnOf (cf : Nat → List D → M D) (n : Bool) (elt : E) (tg : Tg) (t : Oe) (own : List Nat) (ρ : Env) : D → M (Option D) := fun d L => match bindT tg d (wipeD ρ own) with
  | none => .bad
  | some ρ' => noX n ((evT cf t ρ' L).bind fun b L2 => if b then (evE cf elt ρ' L2).bind fun x L3 => .ok (some x) L3 else .ok none L2)
def Kont (C : Cfg) (Z : Addr → Prop) (W : L2.WX) (σ : L2.St) (ι : List Addr) (H : L2.Hp) (D : Addr) (Q : L2.VK) (acc : List EV.D) (r : R (List EV.D)) : Prop := match r with
  | .ok ys L' => ∀ xs ι' H', Ex ι H ι' H' → SO C (zAdd Z D) ι' H' L' → H' D = some (.lst xs) → D ∉ ι' → RVs C (zAdd Z D) ι' H' (acc ++ ys) xs → Q (.ref D) H'
  | .exc c d L' => ∀ v ι' H' dx, Ex ι H ι' H' → SO C (zAdd Z D) ι' H' L' → RV C (zAdd Z D) ι' H' d v → H' dx = some (.xd [(C.fld c, v)]) → W (.ref (C.cls c)) (some dx) σ H'
  | .bad => False
/-- the wish within a block -/
def wBlk (n : Bool) (W : L2.WX) (σ : L2.St) : L2.WX := fun cls d _ H' => if n then False else W cls d σ H'
theorem kont_aft {Z : Addr → Prop} {σ σ2 : L2.St} {ι ι' : List Addr} {H H' : L2.Hp} {D : Addr} {Q : L2.VK} {acc : List EV.D} {n : Bool} {α : Type} {r : R α} {g : α → M (List EV.D)} (h : Kont C Z W σ ι H D Q acc ((noX n r).bind g)) (x : Ex ι H ι' H') :
    Aft C (zAdd Z D) (wBlk n W σ) σ2 ι' H' r fun a L1 _ _ => Kont C Z W σ ι H D Q acc (g a L1) := by
  cases r with
  | ok a L => exact fun ι1 H1 _ _ => h
  | bad => exact h
  | exc c d L =>
    cases n with
    | true => exact False.elim h
    | false =>
      intro v ι1 H1 dx y s rv e
      unfold wBlk
      rw [if_neg Bool.false_ne_true]
      exact h v ι1 H1 dx (x.trans y) s rv e
/-- a comprehension's tests -/
def rTo (C : Cfg) (W : L2.WX) (m : Env → M Bool) : L2.TT := rG C W m (fun _ _ _ b c => b = c)
theorem wipe_eq {σ σ' : L2.St} {vs ix : List Nat} (hs : ∀ i ∈ ix, i ∈ vs) (hl : σ'.length = σ.length) (h : ∀ j, j ∉ ix → σ'[j]? = (L2.wipe σ vs)[j]?) : L2.wipe σ' vs = L2.wipe σ vs := by
  refine List.ext_getElem? fun j => ?_
  have wn : ∀ (σ : L2.St) (vs : List Nat) (j : Nat), j ∈ vs → j < σ.length → (L2.wipe σ vs)[j]? = some none := by
    intro σ vs
    induction vs with
    | nil => intro j h; cases h
    | cons v vs ih =>
      intro j h hl
      unfold L2.wipe
      by_cases e : v = j
      · subst e; rw [List.getElem?_set_self (by rw [L2.wipe_length]; exact hl)]
      · rw [List.getElem?_set_ne e]
        exact ih j (by cases h with
          | head => exact absurd rfl e
          | tail _ h => exact h) hl
  by_cases hj : j ∈ vs
  · by_cases hlt : j < σ.length
    · rw [wn σ vs j hj hlt, wn σ' vs j hj (by rw [hl]; exact hlt)]
    · rw [List.getElem?_eq_none (by rw [L2.wipe_length]; omega), List.getElem?_eq_none (by rw [L2.wipe_length]; omega)]
  · rw [L2.wipe_out hj, h j (fun m => hj (hs j m))]
def bndW (w : Wk) (i m : Nat) : Prop := match w with
  | .vals ds => ds.length ≤ big
  | .obj _ => i + m ≤ big
theorem lc_read {cf : Nat → List D → M D} {n : Bool} {celt : E} {ctg : Tg} {cit : It} {ct : Oe} {own : List Nat} (hown : ∀ i ∈ tgIx ctg, i ∈ own) {σ : L2.St} {H : L2.Hp} {Q : L2.VK} (h : rF C W (evF cf (.lc n celt ctg cit ct own)) σ H Q) :
    L2.tLc (rI C W (evI cf cit)) (rB C ctg) (rTo C (wBlk n W σ) (evT cf ct)) (rE C (wBlk n W σ) (evE cf celt)) own σ H Q := by
  obtain ⟨Z, ι, L, ρ, S, E, h⟩ := rF_un h
  simp only [evF] at h
  refine seqF S E h fun w L1 ι1 H1 J s1 e1 ex1 wk h1 D hD => ?_
  have h1' : AftF C Z W σ ι1 H1 (compW (turnOf cf n celt ctg ct own ρ) w L1) Q := h1
  unfold compW at h1'
  split at h1'
  · rename_i hsm
    have z0 : ZOk Z H1 (zAdd Z D) := fun a z => z.elim .inl fun e => .inr (e ▸ hD)
    have K0 : Kont C Z W σ ι1 H1 D Q [] (compG (turnOf cf n celt ctg ct own ρ) w (fuelW w) 0 L1) := by
      revert h1'
      cases compG (turnOf cf n celt ctg ct own ρ) w (fuelW w) 0 L1 with
      | bad => exact fun h => h
      | ok ys L2 => exact fun h xs ι' H' x s e n r => h D xs ι' H' x hD s e n r
      | exc c d L2 => exact fun h v ι' H' dx x s r e => h v ι' H' dx x (s.weak zle) (RV.weak zle _ _ r) e
    refine ⟨fun i m H' => ∃ ι' L' acc xs, Ex ι1 H1 ι' H' ∧ SO C (zAdd Z D) ι' H' L' ∧ D ∉ ι' ∧ H' D = some (.lst xs) ∧ RVs C (zAdd Z D) ι' H' acc xs ∧ acc.length ≤ i ∧
      bndW w i m ∧ Kont C Z W σ ι1 H1 D Q acc (compG (turnOf cf n celt ctg ct own ρ) w m i L'), ⟨fuelW w, ι1, L1, [], [], ex_updN .refl hD, s1.add hD, s1.fresh hD, L2.upd_same, .nil, Nat.le_refl _, ?_, K0⟩, ?_⟩
    · cases w with
      | vals ds => exact (of_decide_eq_true hsm : ds.length ≤ big)
      | obj k => show 0 + big ≤ big; omega
    · rintro i m H' ⟨ι', L', acc, xs, ex, s', nD, hDx, ra, hal, hbig, K⟩
      cases m with
      | zero => exact False.elim K
      | succ m =>
        unfold compG at K
        cases hi : items w L' with
        | none => rw [hi] at K; exact False.elim K
        | some ds =>
          rw [hi] at K
          simp only at K
          obtain ⟨wgo, wstop⟩ := wk (zAdd Z D) i ι' H' L' ds z0 ex s' hi
          cases hd : ds[i]? with
          | none =>
            rw [hd] at K
            exact .inl ⟨wstop hd, K xs ι' H' ex s' hDx nD (by rw [List.append_nil]; exact ra)⟩
          | some d =>
            rw [hd] at K
            obtain ⟨go, yl⟩ := wgo d hd
            refine .inr ⟨go, fun H'' => ∃ ι' L' acc xs, Ex ι1 H1 ι' H'' ∧ SO C (zAdd Z D) ι' H'' L' ∧ D ∉ ι' ∧ H'' D = some (.lst xs) ∧ RVs C (zAdd Z D) ι' H'' acc xs ∧ acc.length ≤ i + 1 ∧
              bndW w (i + 1) m ∧ Kont C Z W σ ι1 H1 D Q acc (compG (turnOf cf n celt ctg ct own ρ) w m (i + 1) L'), fun H'' q => ⟨m, Nat.lt_succ_self m, q⟩, fun x H'' hy => ?_⟩
            obtain ⟨sm, rx⟩ := yl x H'' hy
            have s2 := s'.same sm
            have ex2 := ex_same (ι := ι') sm
            have hDx2 := sm D _ hDx
            have ilt : i < big := by
              cases w with
              | vals es =>
                have : es = ds := by simpa [items] using hi
                subst this
                have := (List.getElem?_eq_some_iff.mp hd).1
                exact Nat.lt_of_lt_of_le this hbig
              | obj k =>
                have : i + (m + 1) ≤ big := hbig
                omega
            have hbig2 : bndW w (i + 1) m := by
              cases w with
              | vals es => exact hbig
              | obj k =>
                have : i + (m + 1) ≤ big := hbig
                show (i + 1) + m ≤ big
                omega
            have K : Kont C Z W σ ι1 H1 D Q acc ((turnOf cf n celt ctg ct own ρ d L').bind fun o L1 => (compG (turnOf cf n celt ctg ct own ρ) w m (i + 1) L1).bind fun r L2 => .ok (match o with
              | some x => x :: r
              | none => r) L2) := K
            cases hb : bindT ctg d (wipeD ρ own) with
            | none =>
              have et : turnOf cf n celt ctg ct own ρ d L' = .bad := by unfold turnOf; rw [hb]
              rw [et] at K
              exact False.elim K
            | some ρ' =>
              have et : turnOf cf n celt ctg ct own ρ d L' = noX n ((evT cf ct ρ' L').bind fun b L2 => if b then (evE cf celt ρ' L2).bind fun x L3 => .ok (some x) L3 else .ok none L2) := by unfold turnOf; rw [hb]
              rw [et] at K
              have eρ : ER C (zAdd Z D) ι' H'' (wipeD ρ own) (L2.wipe σ own) := (((e1.addz z0).mono ex).mono ex2).wipe own
              refine ⟨zAdd Z D, ι', L', wipeD ρ own, d, ρ', s2, eρ, rx, hb, fun σ2 E2 fr => ⟨?_, ?_⟩⟩
              · refine wipe_eq hown ?_ fr
                rw [← E2.len]
                have := eρ.len
                rw [L2.wipe_length] at this
                rw [← this]
                exact bindT_len hb
              · refine seqG s2 E2 (kont_aft (σ2 := σ2) K (ex.trans ex2)) fun b L3 ι3 H3 c s3 e3 ex3 hbc K2 => ?_
                subst hbc
                cases b with
                | false =>
                  rw [if_neg Bool.false_ne_true] at K2 ⊢
                  have K3 := K2.ok s3
                  simp only [R.bind] at K3
                  refine ⟨ι3, L3, acc, xs, (ex.trans ex2).trans ex3, s3, ex3.notin hDx2 nD, ex3.old _ _ hDx2 nD, RVs.mono (ex2.trans ex3) _ _ ra, by omega, hbig2, ?_⟩
                  show Kont C Z W σ ι1 H1 D Q acc (compG (turnOf cf n celt ctg ct own ρ) w m (i + 1) L3)
                  revert K3
                  show Kont C Z W σ ι1 H1 D Q acc ((compG (turnOf cf n celt ctg ct own ρ) w m (i + 1) L3).bind fun r L2 => .ok r L2) → _
                  cases compG (turnOf cf n celt ctg ct own ρ) w m (i + 1) L3 <;> exact fun h => h
                | true =>
                  rw [if_pos rfl] at K2 ⊢
                  refine seqG s3 e3 K2 fun y L4 ι4 H4 v s4 e4 ex4 ry K4 => ?_
                  have K5 := K4.ok s4
                  simp only [R.bind] at K5
                  have x24 := ex2.trans (ex3.trans ex4)
                  have nD4 := x24.notin hDx nD
                  have hD4 := x24.old _ _ hDx nD
                  have zD : zAdd Z D D := .inr rfl
                  refine ⟨xs, hD4, by rw [← ra.length, ← big_eq]; omega, ι4, L4, acc ++ [y], xs ++ [v], ex_updN (ex.trans x24) hD, s4.updz zD hD4 nD4, nD4, L2.upd_same, RVs.updz zD hD4 _ _ ((RVs.mono x24 _ _ ra).append (.cons ry .nil)), by simp; omega, hbig2, ?_⟩
                  show Kont C Z W σ ι1 H1 D Q (acc ++ [y]) (compG (turnOf cf n celt ctg ct own ρ) w m (i + 1) L4)
                  revert K5
                  show Kont C Z W σ ι1 H1 D Q acc ((compG (turnOf cf n celt ctg ct own ρ) w m (i + 1) L4).bind fun r L2 => .ok (y :: r) L2) → _
                  cases compG (turnOf cf n celt ctg ct own ρ) w m (i + 1) L4 with
                  | bad => exact fun h => h
                  | exc c d L => exact fun h => h
                  | ok ys L => exact fun h xs ι' H' x s e n r => h xs ι' H' x s e n (by simpa using r)
  · exact False.elim h1'
end
section
variable {X : L2.Cx} {C : Cfg} {cf : Nat → List D → M D} {W : L2.WX} {pos : Pos}
theorem pe_imp2 {e : Expr} {t' : L2.TE} (k : ∀ σ H Q, t' σ H Q → ∃ t, L2.PE X e t ∧ t σ H Q) : L2.PE X e t' := ⟨fun pins s σ H Q I w => let ⟨t, h, q⟩ := k σ H Q w; h.run pins s σ H Q I q⟩
/-- [elt for tg in it if t], in a block or where a turn raises nothing -/
theorem f_lcn {elt tg iter : Expr} {ifs : List Expr} {scope : Scope} {own : List (Str × Nat)} {celt : E} {ctg : Tg} {cit : It} {ct : Oe} (hc : X.calm = true) (hN : X.N.Nodup) (hown : ∀ i ∈ tgIx ctg, i ∈ own.map (·.2))
    (hi : L2.PI X tg iter (rI C W (evI cf cit))) (ok : L2.BlkOk X.N X.env.scope scope own)
    (hg : ∀ (s : Shared) (H : L2.Hp) (C' : Addr) (cl : List (Str × Addr)) (fp : List Addr) (xe : Value → Shared → Prop), L2.PG (blkX X s H scope (compEnvC scope cl C' X.env) fp xe) tg (rB C ctg))
    (ht : ∀ (s : Shared) (H : L2.Hp) (C' : Addr) (cl : List (Str × Addr)) (fp : List Addr) (xe : Value → Shared → Prop) (W' : L2.WX), Takes2 (blkX X s H scope (compEnvC scope cl C' X.env) fp xe) W' → L2.PTs (blkX X s H scope (compEnvC scope cl C' X.env) fp xe) ifs (rTo C W' (evT cf ct)))
    (he : ∀ (s : Shared) (H : L2.Hp) (C' : Addr) (cl : List (Str × Addr)) (fp : List Addr) (xe : Value → Shared → Prop) (W' : L2.WX), Takes2 (blkX X s H scope (compEnvC scope cl C' X.env) fp xe) W' → L2.PE (blkX X s H scope (compEnvC scope cl C' X.env) fp xe) elt (rE C W' (evE cf celt)))
    (hs : ∀ x, foldedSetIterable iter X.env x = pure x) : L2.PE X (.ListComp elt [⟨tg, iter, ifs, 0⟩] scope pos) (rF C W (evF cf (.lc true celt ctg cit ct (own.map (·.2))))) := by
  have e : ∀ σ, wBlk true W σ = fun _ _ _ _ => False := fun σ => by
    funext a b c d
    unfold wBlk
    rw [if_pos rfl]
  exact pe_imp (L2.pe_lc hc hN hi ok (fun s H C' cl fp => hg s H C' cl fp _) (fun s H C' cl fp => ht s H C' cl fp _ (fun _ _ _ _ => False) takes2_none) (fun s H C' cl fp => he s H C' cl fp _ (fun _ _ _ _ => False) takes2_none) hs) fun σ H Q h => by
    have q := lc_read hown h
    rw [e] at q
    exact q
/-- in a def's own body -/
theorem f_lc {elt tg iter : Expr} {ifs : List Expr} {scope : Scope} {own : List (Str × Nat)} {celt : E} {ctg : Tg} {cit : It} {ct : Oe} (hs0 : X.stack = X.env :: X.outer) (hf : X.env.frame = some X.env.locals) (tk : L2.Takes X W) (hc : X.calm = true) (hN : X.N.Nodup) (hown : ∀ i ∈ tgIx ctg, i ∈ own.map (·.2))
    (hi : L2.PI X tg iter (rI C W (evI cf cit))) (ok : L2.BlkOk X.N X.env.scope scope own)
    (hg : ∀ (s : Shared) (H : L2.Hp) (C' : Addr) (cl : List (Str × Addr)) (fp : List Addr) (xe : Value → Shared → Prop), L2.PG (blkX X s H scope (compEnvC scope cl C' X.env) fp xe) tg (rB C ctg))
    (ht : ∀ (s : Shared) (H : L2.Hp) (C' : Addr) (cl : List (Str × Addr)) (fp : List Addr) (xe : Value → Shared → Prop) (W' : L2.WX), Takes2 (blkX X s H scope (compEnvC scope cl C' X.env) fp xe) W' → L2.PTs (blkX X s H scope (compEnvC scope cl C' X.env) fp xe) ifs (rTo C W' (evT cf ct)))
    (he : ∀ (s : Shared) (H : L2.Hp) (C' : Addr) (cl : List (Str × Addr)) (fp : List Addr) (xe : Value → Shared → Prop) (W' : L2.WX), Takes2 (blkX X s H scope (compEnvC scope cl C' X.env) fp xe) W' → L2.PE (blkX X s H scope (compEnvC scope cl C' X.env) fp xe) elt (rE C W' (evE cf celt)))
    (hs : ∀ x, foldedSetIterable iter X.env x = pure x) : L2.PE X (.ListComp elt [⟨tg, iter, ifs, 0⟩] scope pos) (rF C W (evF cf (.lc false celt ctg cit ct (own.map (·.2))))) := by
  refine ⟨fun pins s σ H Q I h => ?_⟩
  have q := lc_read hown h
  have e : wBlk false W σ = fun cls d _ H' => W cls d σ H' := by
    funext a b c d
    unfold wBlk
    rw [if_neg Bool.false_ne_true]
  rw [e] at q
  rw [eval_ListComp]
  refine lc_coreX (wi := rI C W (evI cf cit)) (tt := fun W' => rTo C W' (evT cf ct)) (te := fun W' => rE C W' (evE cf celt)) (use := none) (Qf := L2.EP X pins σ Q) hs0 hf tk hc hN I hi ok hg ht he hs q fun D L ce s' m H' eL I' q hn f => ?_
  obtain ⟨f0, f1, f2, f3, f4, f5⟩ := f
  exact ⟨m, by rw [eL]; exact hn, fun h'' sb => ⟨.ref D, H', I'.turned (t' := s'.toks) (fun b o hb e => (sb.2 b (by rw [eL]; exact hb)).trans e) f0 f1 f3 f4 f5, rfl, q⟩⟩
/-- name = [..] on one line, the name a local -/
theorem f_setLc {i : Nat} {y : Str} {py : Pos} {elt tg iter : Expr} {ifs : List Expr} {scope : Scope} {own : List (Str × Nat)} {celt : E} {ctg : Tg} {cit : It} {ct : Oe} {spos : Pos} {t : L2.TE} (hs0 : X.stack = X.env :: X.outer) (hf : X.env.frame = some X.env.locals) (tk : L2.Takes X W) (hc : X.calm = true) (hN : X.N.Nodup)
    (hy : X.N[i]? = some y) (hyl : X.env.scope.names.lookup y = some .local) (hsw : swapsWith (.ListComp elt [⟨tg, iter, ifs, 0⟩] scope pos) (some (.Name y py)) spos.line X.env = pure true) (hown : ∀ i ∈ tgIx ctg, i ∈ own.map (·.2))
    (hi : L2.PI X tg iter (rI C W (evI cf cit))) (ok : L2.BlkOk X.N X.env.scope scope own)
    (hg : ∀ (s : Shared) (H : L2.Hp) (C' : Addr) (cl : List (Str × Addr)) (fp : List Addr) (xe : Value → Shared → Prop), L2.PG (blkX X s H scope (compEnvC scope cl C' X.env) fp xe) tg (rB C ctg))
    (ht : ∀ (s : Shared) (H : L2.Hp) (C' : Addr) (cl : List (Str × Addr)) (fp : List Addr) (xe : Value → Shared → Prop) (W' : L2.WX), Takes2 (blkX X s H scope (compEnvC scope cl C' X.env) fp xe) W' → L2.PTs (blkX X s H scope (compEnvC scope cl C' X.env) fp xe) ifs (rTo C W' (evT cf ct)))
    (he : ∀ (s : Shared) (H : L2.Hp) (C' : Addr) (cl : List (Str × Addr)) (fp : List Addr) (xe : Value → Shared → Prop) (W' : L2.WX), Takes2 (blkX X s H scope (compEnvC scope cl C' X.env) fp xe) W' → L2.PE (blkX X s H scope (compEnvC scope cl C' X.env) fp xe) elt (rE C W' (evE cf celt)))
    (hs : ∀ x, foldedSetIterable iter X.env x = pure x) (k : ∀ σ H Q, t σ H Q → rF C W (evF cf (.lc false celt ctg cit ct (own.map (·.2)))) σ H Q) : L2.PS X (.Assign [.Name y py] (.ListComp elt [⟨tg, iter, ifs, 0⟩] scope pos) spos) (L2.tAsg t (L2.gName i)) := by
  refine ⟨fun pins s σ H D I h => ?_⟩
  rw [exec_Assign_Name_used _ _ _ _ hsw]
  refine wpAny_bind (wpAny_standAt (wpAny_bind ?_))
  show wpAny _ X.A (do let _ ← comprehension (.ListComp elt [⟨tg, iter, ifs, 0⟩] scope pos) scope X.env (firstIterPos [⟨tg, iter, ifs, 0⟩] pos) (newList []) false (eval iter X.env) (some (assign (.Name y py) X.env))) _ _ s
  have q := lc_read hown (k σ H _ h)
  have e : wBlk false W σ = fun cls d _ H' => W cls d σ H' := by
    funext a b c d
    unfold wBlk
    rw [if_neg Bool.false_ne_true]
  rw [e] at q
  refine wpAny_bind (L2.thn (lc_coreX (wi := rI C W (evI cf cit)) (tt := fun W' => rTo C W' (evT cf ct)) (te := fun W' => rE C W' (evE cf celt)) (Qf := fun _ s' => L2.SP X pins D .next s') hs0 hf tk hc hN I hi ok hg ht he hs q fun L C' ce s' m H' eL I' q hn f => ?_) fun _ s' hq => wpAny_pure (wpAny_pure hq))
  show wpAny _ _ (assign (.Name y py) X.env (.ref L)) _ _ _
  refine wpAny_assign_Name (L2.store_ok2 (v := L2.V.ref L) I' hN hy (.inl hyl) rfl (fun s2 I2 ⟨a, sb, ha⟩ => ?_) (.inr hyl))
  obtain ⟨f0, f1, f2, f3, f4, f5⟩ := f
  have haC : C' ≠ a := by
    rcases ha with z | z
    · rw [z]; exact f1
    · exact fun e => f4 y a z e.symm
  refine ⟨m, by rw [eL]; exact hn.sameBut sb haC, fun h3 sb3 => ?_⟩
  exact ⟨_, H', I2.turned (t' := s2.toks) (fun b o hb e => (sb3.2 b (by rw [eL]; exact hb)).trans e) f0 f1 f3 f4 f5, q⟩
/-! tests of a comprehension -/
theorem ts_nil : L2.PTs X [] (rTo C W (evT cf .none)) := ⟨fun pins s σ H Q I ⟨Z, ι, L, ρ, S, E, h⟩ => by
  simp only [evT] at h
  exact L2.pts_nil.run pins s σ H Q I (h.ok S _ rfl)⟩
theorem ts_one {c : Expr} {cc : E} (h : L2.PT X c (rT C W (evE cf cc))) : L2.PTs X [c] (rTo C W (evT cf (.some cc))) := ⟨fun pins s σ H Q I q => by
  refine (L2.pts_one h).run pins s σ H Q I ?_
  obtain ⟨Z, ι, L, ρ, S, E, q⟩ := q
  refine ⟨Z, ι, L, ρ, S, E, ?_⟩
  simp only [evT] at q
  exact q⟩

/-! ### calls -/
/-- a callee's promise -/
structure Cal (X : L2.Cx) (C : Cfg) (cf : Nat → List D → M D) (f : Nat) : Prop where
  ex : ∃ (k : Nat) (fd : FuncData) (ps : List Str), L2.FnOk X.prog X.w X.K X.mg X.base (L2.CX X.prog X.w) k (C.adr f) fd ps (spF C cf f) ∧ L2.Room k X.A ∧ L2.Binds X.K fd ps []
  keep : PySem.W.keepIn X.K (.ref (C.adr f)) = true
theorem run_cal {pins : List (Addr × Obj)} {σ : L2.St} {H : L2.Hp} {s : Shared} {Q : L2.VK} {us : List Value} {vs : List L2.V} {f : Nat} (c : Cal X C cf f) (tk : Takes2 X W) (I : L2.Inv X pins σ H s) (r : L2.Vals vs us)
    (h : spF C cf f vs H Q (fun cls d H' => W cls d σ H')) : wpAny (model X.prog X.w) X.A (call (.ref (C.adr f)) us) (L2.EP X pins σ Q) X.xe s := by
  obtain ⟨k, fd, ps, F, hr, hb⟩ := c.ex
  exact L2.run_fnSD (dvs := []) (ds := []) (E := fun σ cls d H' => W cls d σ H') F hr hb .nil (fun pins H s e s' I cx => passes_at tk pins σ H s e s' I cx) I r (by rw [List.append_nil]; exact h)
section
variable {f : Nat} {x : Str} {p : Pos} {e : Expr} {es : List Expr} {ces : Es}
theorem pe_cal {t : L2.TE} (c : Cal X C cf f) (tk : Takes2 X W) (hg : L2.Gl X x) (hm : X.mg x = some (.ref (C.adr f))) (hdb : (x == ("__debug__" : Str)) = false) (ha : L2.PA X (e :: es) (rA C W (evEs cf ces)))
    (h1 : starEach (e :: es) X.env = (false, eval e X.env) :: starEach es X.env) (h2 : (backTo pos (starEach es X.env)).any (·.1) = false)
    (h : ∀ σ H Q, t σ H Q → rA C W (evEs cf ces) σ H fun vs H1 => spF C cf f vs H1 Q (fun cls d H' => W cls d σ H')) : L2.PE X (.Call (.Name x p) (e :: es) [] pos) t := by
  refine ⟨fun pins s σ H Q I q => ?_⟩
  have q := h σ H Q q
  refine wpAny_Call_Name_kw (L2.ld_glob I hg hm ?_ hdb)
  refine PySem.W.callWith_K (h₀ := X.base) I.ok.mod.kin c.keep (L2.thn (ha.run pos pins s σ H _ I q) fun us s1 ⟨vs, H1, I1, r, q⟩ => ⟨I1.kIn, ?_⟩) h1 h2
  exact run_cal c tk I1 r q
theorem pe_cal0 {t : L2.TE} (c : Cal X C cf f) (tk : Takes2 X W) (hg : L2.Gl X x) (hm : X.mg x = some (.ref (C.adr f))) (hdb : (x == ("__debug__" : Str)) = false)
    (h : ∀ σ H Q, t σ H Q → spF C cf f [] H Q (fun cls d H' => W cls d σ H')) : L2.PE X (.Call (.Name x p) [] [] pos) t := by
  refine ⟨fun pins s σ H Q I q => ?_⟩
  refine wpAny_Call_Name_kw (L2.ld_glob I hg hm ?_ hdb)
  exact PySem.W.callWith_K0 I.kIn c.keep (run_cal (us := []) c tk I .nil (h σ H Q q))
theorem call_of {σ : L2.St} {H : L2.Hp} {Q : L2.VK} (h : rE C W (evE cf (.call f ces)) σ H Q) : rA C W (evEs cf ces) σ H fun vs H1 => spF C cf f vs H1 Q (fun cls d H' => W cls d σ H') := by
  obtain ⟨Z, ι, L, ρ, S, E, h⟩ := h
  simp only [evE] at h
  exact seqG S E h fun x L1 ι1 H1 v s1 e1 ex1 rx h1 => callF_sp s1 rx h1
theorem callk_of {σ : L2.St} {H : L2.Hp} {Q : L2.VK} (h : rE C W (evE cf (.callk f ces)) σ H Q) : rA C W (evEs cf ces) σ H fun vs H1 => spF C cf f vs H1 Q (fun cls d H' => W cls d σ H') := by
  obtain ⟨Z, ι, L, ρ, S, E, h⟩ := h
  simp only [evE] at h
  exact seqG S E h fun x L1 ι1 H1 v s1 e1 ex1 rx h1 => callK_sp s1 rx h1
theorem nil_of {σ : L2.St} {H : L2.Hp} {P : List L2.V → L2.Hp → Prop} (h : rA C W (evEs cf .nil) σ H P) : P [] H := by
  obtain ⟨Z, ι, L, ρ, S, E, h⟩ := h
  simp only [evEs] at h
  exact h.ok S _ .nil
theorem s_call (c : Cal X C cf f) (tk : Takes2 X W) (hg : L2.Gl X x) (hm : X.mg x = some (.ref (C.adr f))) (hdb : (x == ("__debug__" : Str)) = false) (ha : L2.PA X (e :: es) (rA C W (evEs cf ces)))
    (h1 : starEach (e :: es) X.env = (false, eval e X.env) :: starEach es X.env) (h2 : (backTo pos (starEach es X.env)).any (·.1) = false) : L2.PE X (.Call (.Name x p) (e :: es) [] pos) (rE C W (evE cf (.call f ces))) :=
  pe_cal c tk hg hm hdb ha h1 h2 fun σ H Q h => call_of h
theorem s_call0 (c : Cal X C cf f) (tk : Takes2 X W) (hg : L2.Gl X x) (hm : X.mg x = some (.ref (C.adr f))) (hdb : (x == ("__debug__" : Str)) = false) : L2.PE X (.Call (.Name x p) [] [] pos) (rE C W (evE cf (.call f .nil))) :=
  pe_cal0 c tk hg hm hdb fun σ H Q h => nil_of (call_of h)
theorem s_callk (c : Cal X C cf f) (tk : Takes2 X W) (hg : L2.Gl X x) (hm : X.mg x = some (.ref (C.adr f))) (hdb : (x == ("__debug__" : Str)) = false) (ha : L2.PA X (e :: es) (rA C W (evEs cf ces)))
    (h1 : starEach (e :: es) X.env = (false, eval e X.env) :: starEach es X.env) (h2 : (backTo pos (starEach es X.env)).any (·.1) = false) : L2.PE X (.Call (.Name x p) (e :: es) [] pos) (rE C W (evE cf (.callk f ces))) :=
  pe_cal c tk hg hm hdb ha h1 h2 fun σ H Q h => callk_of h
theorem s_callk0 (c : Cal X C cf f) (tk : Takes2 X W) (hg : L2.Gl X x) (hm : X.mg x = some (.ref (C.adr f))) (hdb : (x == ("__debug__" : Str)) = false) : L2.PE X (.Call (.Name x p) [] [] pos) (rE C W (evE cf (.callk f .nil))) :=
  pe_cal0 c tk hg hm hdb fun σ H Q h => nil_of (callk_of h)
/-- a local name that holds a def -/
theorem callv_of {i n : Nat} {σ : L2.St} {H : L2.Hp} {Q : L2.VK} (h : rE C W (evE cf (.callv i n ces)) σ H Q) : ∃ f, f < n ∧ σ[i]? = some (some (.ref (C.adr f))) ∧ rA C W (evEs cf ces) σ H fun vs H1 => spF C cf f vs H1 Q (fun cls d H' => W cls d σ H') := by
  obtain ⟨Z, ι, L, ρ, S, E, h⟩ := h
  simp only [evE] at h
  split at h
  · rename_i f hf
    split at h
    · rename_i hn
      obtain ⟨v, hv, r⟩ := E.get i _ hf
      unfold RV at r
      subst r
      exact ⟨f, hn, hv, seqG S E h fun x L1 ι1 H1 v s1 e1 ex1 rx h1 => callF_sp s1 rx h1⟩
    · exact False.elim h
  · exact False.elim h
theorem s_callv {i n : Nat} (c : ∀ f, f < n → Cal X C cf f) (tk : Takes2 X W) (hN : X.N[i]? = some x) (hv : L2.Vis X.env.scope x) (hdb : (x == ("__debug__" : Str)) = false) (hcd : (x == ("__classdict__" : Str)) = false) (ha : L2.PA X (e :: es) (rA C W (evEs cf ces)))
    (h1 : starEach (e :: es) X.env = (false, eval e X.env) :: starEach es X.env) (h2 : (backTo pos (starEach es X.env)).any (·.1) = false) : L2.PE X (.Call (.Name x p) (e :: es) [] pos) (rE C W (evE cf (.callv i n ces))) := by
  refine ⟨fun pins s σ H Q I h => ?_⟩
  obtain ⟨f, hf, hs, ht⟩ := callv_of h
  refine wpAny_Call_Name_kw (L2.thn ((L2.pe_var (pos := p) hN hv hdb hcd).run pins s σ H (fun v H1 => v = .ref (C.adr f) ∧ H1 = H) I ⟨.ref (C.adr f), hs, rfl, rfl⟩) fun u s1 ⟨v, H1, I1, r1, q1⟩ => ?_)
  obtain ⟨rfl, rfl⟩ := q1
  cases r1
  refine PySem.W.callWith_K (h₀ := X.base) I.ok.mod.kin (c f hf).keep (L2.thn (ha.run pos pins s1 σ _ _ I1 ht) fun us s2 ⟨vs, H2, I2, r, q⟩ => ⟨I2.kIn, ?_⟩) h1 h2
  exact run_cal (c f hf) tk I2 r q
theorem s_callv0 {i n : Nat} (c : ∀ f, f < n → Cal X C cf f) (tk : Takes2 X W) (hN : X.N[i]? = some x) (hv : L2.Vis X.env.scope x) (hdb : (x == ("__debug__" : Str)) = false) (hcd : (x == ("__classdict__" : Str)) = false) :
    L2.PE X (.Call (.Name x p) [] [] pos) (rE C W (evE cf (.callv i n .nil))) := by
  refine ⟨fun pins s σ H Q I h => ?_⟩
  obtain ⟨f, hf, hs, ht⟩ := callv_of h
  refine wpAny_Call_Name_kw (L2.thn ((L2.pe_var (pos := p) hN hv hdb hcd).run pins s σ H (fun v H1 => v = .ref (C.adr f) ∧ H1 = H) I ⟨.ref (C.adr f), hs, rfl, rfl⟩) fun u s1 ⟨v, H1, I1, r1, q1⟩ => ?_)
  obtain ⟨rfl, rfl⟩ := q1
  cases r1
  exact PySem.W.callWith_K0 I1.kIn (c f hf).keep (run_cal (us := []) (c f hf) tk I1 .nil (nil_of ht))
end

/-! ### dicts -/
section
variable {Z : Addr → Prop} {ι ι' : List Addr} {H H' : L2.Hp} {L : Store} {σ : L2.St} {ρ : Env}
/-- the new thing, an empty dict, becomes an object -/
theorem OR.adopt {p : Addr} (ht : ∀ o, frzO o = true → H p ≠ some o) (hx : ∀ fs, H p ≠ some (.xd fs)) {o : O} {a : Addr} (h : OR C (zAdd Z p) ι H o a) : OR C Z (ι ++ [p]) H o a := by
  cases o with
  | lst ds => obtain ⟨xs, q1, q2⟩ := h; exact ⟨xs, q1, RVs.adopt ht hx _ _ q2⟩
  | dK ds => obtain ⟨xs, q1, q2⟩ := h; exact ⟨xs, q1, KR.adopt ht hx q2⟩
  | dT ds => obtain ⟨xs, q1, q2⟩ := h; exact ⟨xs, q1, KR.adopt ht hx q2⟩
theorem SO.adoptO {p : Addr} {u : L2.HO} {o : O} (s : SO C (zAdd Z p) ι H L) (hp : H p = some u) (hu : isOb u = true) (hn : p ∉ ι) (r : OR C (zAdd Z p) ι H o p) : SO C Z (ι ++ [p]) H (L ++ [o]) := by
  have ht : ∀ o, frzO o = true → H p ≠ some o := fun ys k q => by
    rw [hp] at q; cases q
    cases u <;> first | (cases k; done) | (cases hu; done)
  have hx : ∀ fs, H p ≠ some (.xd fs) := fun ys q => by rw [hp] at q; cases q; cases hu
  refine ⟨by simp [s.len], ?_, fun k o' e => ?_, fun a z => s.zh a (.inl z)⟩
  · rw [List.nodup_append]
    refine ⟨s.nd, by simp, fun a ha b hb e => ?_⟩
    have : b = p := by simpa using hb
    rw [this] at e
    exact hn (e ▸ ha)
  · by_cases hk : k < L.length
    · rw [List.getElem?_append_left hk] at e
      obtain ⟨a, q, r'⟩ := s.obj k o' e
      exact ⟨a, by rw [List.getElem?_append_left (by rw [s.len]; exact hk)]; exact q, r'.adopt ht hx⟩
    · rw [List.getElem?_append_right (by omega)] at e
      have hk' : k = L.length := by
        have := (List.getElem?_eq_some_iff.mp e).1
        simp at this; omega
      subst hk'
      simp at e
      subst e
      exact ⟨p, by rw [List.getElem?_append_right (by rw [s.len]; exact Nat.le_refl _)]; simp [s.len], r.adopt ht hx⟩
theorem ex_adopt {p : Addr} (x : Ex ι H ι' H') (hp : H p = none) : Ex ι H (ι' ++ [p]) H' :=
  ⟨fun k a e => by
    have := x.pre k a e
    rw [List.getElem?_append_left (List.getElem?_eq_some_iff.mp this).1]; exact this, fun a m => by
    rcases List.mem_append.mp m with m | m
    · exact x.new a m
    · have : a = p := by simpa using m
      exact .inr (this ▸ hp), x.old⟩
theorem rv_last {p : Addr} (s : ι.length = L.length) : RV C Z (ι ++ [p]) H (.obj L.length) (.ref p) := by
  unfold RV
  exact ⟨p, by rw [← s, List.getElem?_append_right (Nat.le_refl _)]; simp, rfl⟩
theorem s_dnewT {co : Bool} : L2.PE X (.Dict [] [] pos) (rE C W (evE cf (.dnew co .nil))) := by
  cases co with
  | true =>
    refine pe_imp L2.pe_dnewT fun σ H Q ⟨Z, ι, L, ρ, S, E, h⟩ p hp => ?_
    simp only [evE, evK, R.bind, if_true] at h
    exact h _ _ (ex_push hp) (S.push hp ⟨[], L2.upd_same, rfl⟩) _ (rv_last S.len)
  | false =>
    refine pe_imp L2.pe_dnewK fun σ H Q ⟨Z, ι, L, ρ, S, E, h⟩ p hp => ?_
    simp only [evE, evK, R.bind] at h
    exact h _ _ (ex_push hp) (S.push hp ⟨[], L2.upd_same, rfl⟩) _ (rv_last S.len)
def trsOf (C : Cfg) (W : L2.WX) (cf : Nat → List D → M D) : Kvs → List (L2.TE × L2.TE)
  | .nil => []
  | .cons k v r => (rE C W (evE cf k), rE C W (evE cf v)) :: trsOf C W cf r
theorem pairs_of (Q' : List (L2.V × L2.V) → L2.Hp → Prop) : ∀ (kvs : Kvs) {ι : List Addr} {H : L2.Hp} {L : Store}, SO C Z ι H L → ER C Z ι H ρ σ →
    Aft C Z W σ ι H (evK cf kvs ρ L) (fun ps L' ι' H' => ∀ qs, KR C Z ι' H' ps qs → Q' (qs.map fun kv => (L2.kV kv.1, kv.2)) H') → L2.tPairs (trsOf C W cf kvs) σ H Q'
  | .nil, ι, H, L, S, E, h => by
    simp only [evK] at h
    exact h.ok S [] rfl
  | .cons k v r, ι, H, L, S, E, h => by
    simp only [evK] at h
    refine seqG S E h fun x L1 ι1 H1 kv s1 e1 ex1 rx h1 => seqG s1 e1 h1 fun y L2 ι2 H2 w s2 e2 ex2 ry h2 => ?_
    cases q : keyOf x with
    | none => rw [q] at h2; exact False.elim h2
    | some key =>
      rw [q] at h2
      refine pairs_of (fun ps H3 => Q' ((kv, w) :: ps) H3) r s2 e2 (h2.bind.mono fun ps L3 ι3 H3 ex3 s3 k3 qs kr => ?_)
      have := k3.ok s3 ((key, w) :: qs) ⟨(key, w), qs, rfl, rfl, RV.mono ex3 _ _ ry, kr⟩
      rw [List.map_cons, ← keyOf_kV q (RV.mono ex2 _ _ rx)] at this
      exact this
theorem KR.merge : ∀ {ps : List (L2.Key × D)} {qs : List (L2.Key × L2.V)} {as : List (L2.Key × D)} {bs : List (L2.Key × L2.V)}, KR C Z ι H ps qs → KR C Z ι H as bs → KR C Z ι H (ps.foldl (fun acc p => putK acc p.1 p.2) as) (L2.mergeK bs qs)
  | [], qs, as, bs, h, k => by
    have : qs = [] := h
    subst this
    exact k
  | p :: ps, qs, as, bs, h, k => by
    obtain ⟨q, s, rfl, e, r, t⟩ := h
    have := KR.merge t (k.put p.1 r)
    rw [e] at this
    rw [List.foldl_cons, e]
    exact this
theorem s_dnew {kvs : Kvs} {keys : List (Option Expr)} {values : List Expr} (h : L2.PPs X pos keys values (trsOf C W cf kvs)) (hall : keys.all (·.isSome) = true) (hl : keys.length = values.length) (h0 : keys ≠ []) (h15 : keys.length ≤ 15) :
    L2.PE X (.Dict keys values pos) (rE C W (evE cf (.dnew false kvs))) := by
  refine pe_imp (L2.pe_disp h hall hl h0 h15) fun σ H Q ⟨Z, ι, L, ρ, S, E, h⟩ p hp => ?_
  simp only [evE] at h
  have z0 : ZOk Z H (zAdd Z p) := fun a z => z.elim .inl fun e => .inr (e ▸ hp)
  have S' : SO C (zAdd Z p) ι (L2.upd H p (.dK [])) L := S.add hp
  have E' : ER C (zAdd Z p) ι (L2.upd H p (.dK [])) ρ σ := (E.addz z0).mono (ex_upd hp)
  have pn := S.fresh hp
  have x0 : Ex ι H ι (L2.upd H p (.dK [])) := ex_upd hp
  refine pairs_of (Z := zAdd Z p) (W := W) _ kvs S' E' ?_
  cases e : evK cf kvs ρ L with
  | bad => rw [e] at h; exact h
  | exc c d L1 =>
    rw [e] at h
    intro v ι' H' dx x s rv hd
    exact h v ι' H' dx (x0.trans x) (s.weak zle) (RV.weak zle _ _ rv) hd
  | ok ps L1 =>
    rw [e] at h
    simp only [R.bind, Bool.false_eq_true, if_false] at h
    intro ι' H' x s qs kr
    have hp' := x.old p _ L2.upd_same pn
    have pn' := x.notin L2.upd_same pn
    split at h
    · rename_i h15'
      refine ⟨hp', qs, rfl, by rw [← kr.length]; exact h15', ?_⟩
      have s2 := s.adoptO (o := .dK []) hp' rfl pn' ⟨[], hp', rfl⟩
      have x2 : Ex ι H (ι' ++ [p]) H' := ex_adopt (x0.trans x) hp
      have ht : ∀ o, frzO o = true → H' p ≠ some o := fun ys k q => by rw [hp'] at q; cases q; cases k
      have hx : ∀ fs, H' p ≠ some (.xd fs) := fun ys q => by rw [hp'] at q; cases q
      have ixp : (ι' ++ [p])[L1.length]? = some p := by rw [← s.len, List.getElem?_append_right (Nat.le_refl _)]; simp
      have xs3 : Ex (ι' ++ [p]) H' (ι' ++ [p]) (L2.upd H' p (.dK (L2.mergeK [] qs))) := ex_set (List.mem_of_getElem? ixp)
      have s3 := s2.set (o := .dK (ps.foldl (fun acc p => putK acc p.1 p.2) [])) (u := .dK (L2.mergeK [] qs)) ixp ⟨_, L2.upd_same, KR.mono xs3 (KR.merge (as := []) (bs := []) (KR.adopt ht hx kr) (show ([] : List (L2.Key × L2.V)) = [] from rfl))⟩
      have el : (L1 ++ [O.dK []]).set L1.length (.dK (ps.foldl (fun acc p => putK acc p.1 p.2) [])) = L1 ++ [.dK (ps.foldl (fun acc p => putK acc p.1 p.2) [])] := by
        rw [List.set_append_right _ _ (Nat.le_refl _)]
        simp
      rw [el] at s3
      exact h _ _ (x2.trans xs3) s3 _ (rv_last s.len)
    · exact False.elim h
theorem pps_nil' : L2.PPs X pos [] [] (trsOf C W cf .nil) := L2.pps_nil
theorem pps_cons' {k v : Expr} {ck cv : E} {r : Kvs} {ks : List (Option Expr)} {vs : List Expr} (hk : L2.PE X k (rE C W (evE cf ck))) (hv : L2.PE X v (rE C W (evE cf cv))) (hr : L2.PPs X pos ks vs (trsOf C W cf r)) :
    L2.PPs X pos (some k :: ks) (v :: vs) (trsOf C W cf (.cons ck cv r)) := L2.pps_cons hk hv hr
end
end
end EV
end

section
set_option autoImplicit false
/-! The evaluator's word about statements. -/
namespace EV
open PySem PySem.Spec PyProof.Rows

section
variable (C : Cfg) (Z : Addr → Prop) (W : L2.WX)
/-- behind a statement -/
def AftS (ι : List Addr) (H : L2.Hp) (r : SR) (D : L2.Ends) : Prop := match r with
  | .next ρ L' => ∀ σ' ι' H', Ex ι H ι' H' → SO C Z ι' H' L' → ER C Z ι' H' ρ σ' → D.nx σ' H'
  | .brk ρ L' => ∀ σ' ι' H', Ex ι H ι' H' → SO C Z ι' H' L' → ER C Z ι' H' ρ σ' → D.bk σ' H'
  | .cont ρ L' => ∀ σ' ι' H', Ex ι H ι' H' → SO C Z ι' H' L' → ER C Z ι' H' ρ σ' → D.ct σ' H'
  | .ret d L' => ∀ v ι' H', Ex ι H ι' H' → SO C Z ι' H' L' → RV C Z ι' H' d v → D.rt v H'
  | .exc c d ρ L' => ∀ v σ' ι' H' dx, Ex ι H ι' H' → SO C Z ι' H' L' → ER C Z ι' H' ρ σ' → RV C Z ι' H' d v → H' dx = some (.xd [(C.fld c, v)]) → W (.ref (C.cls c)) (some dx) σ' H'
  | .bad => False
end
def rS (C : Cfg) (W : L2.WX) (m : Env → Store → SR) : L2.TS := fun D σ H => ∃ Z ι L ρ, SO C Z ι H L ∧ ER C Z ι H ρ σ ∧ AftS C Z W ι H (m ρ L) D

section
variable {C : Cfg} {Z : Addr → Prop} {W : L2.WX} {σ : L2.St} {ι ι' : List Addr} {H H' : L2.Hp} {L : Store} {ρ : Env} {D : L2.Ends}
theorem AftS.ext {r : SR} (h : AftS C Z W ι H r D) (x : Ex ι H ι' H') : AftS C Z W ι' H' r D := by
  cases r with
  | next ρ L => exact fun σ' ι2 H2 y => h σ' ι2 H2 (x.trans y)
  | brk ρ L => exact fun σ' ι2 H2 y => h σ' ι2 H2 (x.trans y)
  | cont ρ L => exact fun σ' ι2 H2 y => h σ' ι2 H2 (x.trans y)
  | ret d L => exact fun v ι2 H2 y => h v ι2 H2 (x.trans y)
  | exc c d ρ L => exact fun v σ' ι2 H2 dx y => h v σ' ι2 H2 dx (x.trans y)
  | bad => exact h
theorem AftS.imp {r : SR} {D' : L2.Ends} (h : AftS C Z W ι H r D) (h1 : ∀ σ H, D.nx σ H → D'.nx σ H) (h2 : ∀ v H, D.rt v H → D'.rt v H) (h3 : ∀ σ H, D.bk σ H → D'.bk σ H) (h4 : ∀ σ H, D.ct σ H → D'.ct σ H) : AftS C Z W ι H r D' := by
  cases r with
  | next ρ L => exact fun σ' ι2 H2 y s e => h1 _ _ (h σ' ι2 H2 y s e)
  | brk ρ L => exact fun σ' ι2 H2 y s e => h3 _ _ (h σ' ι2 H2 y s e)
  | cont ρ L => exact fun σ' ι2 H2 y s e => h4 _ _ (h σ' ι2 H2 y s e)
  | ret d L => exact fun v ι2 H2 y s e => h2 _ _ (h v ι2 H2 y s e)
  | exc c d ρ L => exact h
  | bad => exact h
/-- first the expression m, then f -/
theorem thenG {α γ : Type} {rel : (Addr → Prop) → List Addr → L2.Hp → α → γ → Prop} {m : Env → M α} {f : α → Store → SR} {Q : γ → L2.Hp → Prop} (S : SO C Z ι H L) (E : ER C Z ι H ρ σ) (h : AftS C Z W ι H ((m ρ L).then ρ f) D)
    (k : ∀ x L1 ι1 H1 v, SO C Z ι1 H1 L1 → ER C Z ι1 H1 ρ σ → Ex ι H ι1 H1 → rel Z ι1 H1 x v → AftS C Z W ι1 H1 (f x L1) D → Q v H1) : rG C W m rel σ H Q := by
  refine ⟨Z, ι, L, ρ, S, E, ?_⟩
  cases e : m ρ L with
  | ok a L1 =>
    rw [e] at h
    exact fun ι1 H1 x s b r => k a L1 ι1 H1 b s (E.mono x) x r (h.ext x)
  | exc c d L1 =>
    rw [e] at h
    exact fun v ι1 H1 dx x s r hd => h v σ ι1 H1 dx x s (E.mono x) r hd
  | bad => rw [e] at h; exact h
theorem AftS.seq {r : SR} {f : Env → Store → SR} (h : AftS C Z W ι H (r.seq f) D) : AftS C Z W ι H r { D with nx := rS C W f D } := by
  cases r with
  | next ρ L => exact fun σ' ι' H' x s e => ⟨Z, ι', L, ρ, s, e, h.ext x⟩
  | brk ρ L => exact h
  | cont ρ L => exact h
  | ret d L => exact h
  | exc c d ρ L => exact h
  | bad => exact h
end
theorem ps_imp {X : L2.Cx} {st : Stmt} {t t' : L2.TS} (h : L2.PS X st t) (k : ∀ D σ H, t' D σ H → t D σ H) : L2.PS X st t' := ⟨fun pins s σ H D I w => h.run pins s σ H D I (k D σ H w)⟩
theorem pss_imp {X : L2.Cx} {st : List Stmt} {t t' : L2.TS} (h : L2.PSs X st t) (k : ∀ D σ H, t' D σ H → t D σ H) : L2.PSs X st t' := ⟨fun pins s σ H D I w => h.run pins s σ H D I (k D σ H w)⟩

section
variable {X : L2.Cx} {C : Cfg} {cf : Nat → List D → M D} {W : L2.WX} {pos : Pos}
/-! ### lists of statements -/
theorem z_nil : L2.PSs X [] (rS C W (evSs cf .nil)) := pss_imp L2.pss_nil fun D σ H ⟨Z, ι, L, ρ, S, E, h⟩ => by
  simp only [evSs] at h
  exact h σ ι H .refl S E
theorem z_cons {st : Stmt} {r : List Stmt} {c : EV.S} {cr : Ss} (h1 : L2.PS X st (rS C W (evS cf c))) (h2 : L2.PSs X r (rS C W (evSs cf cr))) : L2.PSs X (st :: r) (rS C W (evSs cf (.cons c cr))) := pss_imp (L2.pss_cons h1 h2) fun D σ H ⟨Z, ι, L, ρ, S, E, h⟩ => by
  simp only [evSs] at h
  exact ⟨Z, ι, L, ρ, S, E, h.seq⟩
/-- a docstring at the front -/
theorem z_doc {x : Str} {j : Nat} {p1 p2 : Pos} {r : List Stmt} {cr : Ss} (h2 : L2.PSs X r (rS C W (evSs cf cr))) : L2.PSs X (.Expr (.Constant (.str x) j p1) p2 :: r) (rS C W (evSs cf cr)) := pss_imp (L2.pss_cons L2.ps_doc h2) fun D σ H h => h

/-! ### stores -/
theorem z_set {i : Nat} {x : Str} {e : Expr} {ce : E} {p' : Pos} (hN : X.N.Nodup) (hi : X.N[i]? = some x) (hx : L2.Loc X.env.scope x) (hf : X.fn x = true ∨ X.env.scope.names.lookup x = some .local) (hs : swapsWith e (some (.Name x p')) pos.line X.env = pure false) (he : L2.PE X e (rE C W (evE cf ce))) :
    L2.PS X (.Assign [.Name x p'] e pos) (rS C W (evS cf (.set i ce))) := ps_imp (L2.ps_set hN hi hx he hs hf) fun D σ H ⟨Z, ι, L, ρ, S, E, h⟩ => by
  simp only [evS] at h
  refine thenG S E h fun x L1 ι1 H1 v s1 e1 ex1 rx h1 => h1 _ ι1 H1 .refl s1 (e1.set i rx)
/-- what ps_asg or f_setLc asks of name = value -/
theorem set_of {i : Nat} {ce : E} {D : L2.Ends} {σ : L2.St} {H : L2.Hp} (h : rS C W (evS cf (.set i ce)) D σ H) : L2.tAsg (rE C W (evE cf ce)) (L2.gName i) D σ H := by
  obtain ⟨Z, ι, L, ρ, S, E, h⟩ := h
  simp only [evS] at h
  exact thenG S E h fun x L1 ι1 H1 v s1 e1 ex1 rx h1 => h1 _ ι1 H1 .refl s1 (e1.set i rx)
theorem z_asg {tg e : Expr} {t : Tg} {ce : E} (he : L2.PE X e (rE C W (evE cf ce))) (hg : L2.PG X tg (rB C t)) (hs : swapsWithSole [tg] e pos.line X.env = pure false) (hw : swappedStores [tg] e X.env = pure none)
    (h1 : (assignEach [tg] X.env).map (·.2) = [assign tg X.env]) : L2.PS X (.Assign [tg] e pos) (rS C W (evS cf (.asg t ce))) := ps_imp (L2.ps_asg he hg hs hw h1) fun D σ H ⟨Z, ι, L, ρ, S, E, h⟩ => by
  simp only [evS] at h
  refine thenG S E h fun x L1 ι1 H1 v s1 e1 ex1 rx h1 => ?_
  split at h1
  · rename_i ρ' hb
    exact ⟨Z, ι1, L1, ρ, x, ρ', s1, e1, rx, hb, fun σ' E' _ => h1 σ' ι1 H1 .refl s1 E'⟩
  · exact False.elim h1
theorem ER.setAll {Z : Addr → Prop} {ι : List Addr} {H : L2.Hp} : ∀ {is : List Nat} {ds : List EV.D} {vs : List L2.V} {ρ : Env} {σ : L2.St}, ER C Z ι H ρ σ → RVs C Z ι H ds vs → ER C Z ι H (setAll is ds ρ) ((is.zip vs).foldl (fun σ p => σ.set p.1 (some p.2)) σ)
  | [], ds, vs, ρ, σ, h, r => by cases ds <;> exact h
  | i :: is, [], vs, ρ, σ, h, r => by
    unfold RVs at r
    subst r
    exact h
  | i :: is, d :: ds, vs, ρ, σ, h, r => by
    obtain ⟨v, w, rfl, r1, r2⟩ := r.uncons
    have := ER.setAll (is := is) (ds := ds) (vs := w) (h.set i r1) r2
    exact this
theorem z_par2 {i j : Nat} {x y : Str} {a b : Expr} {ces : Es} {px py pt pt2 : Pos} {kt k2 : Nat} (hc : X.calm = true) (hN : X.N.Nodup) (hi : X.N[i]? = some x) (hj : X.N[j]? = some y) (hij : i ≠ j)
    (hx : X.env.scope.names.lookup x = some .local) (hy : X.env.scope.names.lookup y = some .local) (ha : L2.PA X [a, b] (rA C W (evEs cf ces)))
    (hw : swappedStores [.Tuple [.Name x px, .Name y py] kt pt] (.Tuple [a, b] k2 pt2) X.env = pure (some [x, y])) :
    L2.PS X (.Assign [.Tuple [.Name x px, .Name y py] kt pt] (.Tuple [a, b] k2 pt2) pos) (rS C W (evS cf (.par [i, j] ces))) := ps_imp (L2.ps_par hc hN hi hj hij hx hy ha hw) fun D σ H ⟨Z, ι, L, ρ, S, E, h⟩ => by
  simp only [evS] at h
  refine thenG S E h fun xs L1 ι1 H1 vs s1 e1 ex1 rx h1 => ?_
  split at h1
  · rename_i hl
    have e2 : vs.length = 2 := by rw [← rx.length]; exact hl
    match vs, e2 with
    | [v, w], _ => exact ⟨v, w, rfl, h1 _ ι1 H1 .refl s1 (e1.setAll (is := [i, j]) rx)⟩
  · exact False.elim h1
theorem ps_par3 {i j k : Nat} {x y z : Str} {a b c : Expr} {ta : L2.TA} {px py pz pt pt2 : Pos} {kt k2 : Nat} (hc : X.calm = true) (hN : X.N.Nodup) (hi : X.N[i]? = some x) (hj : X.N[j]? = some y) (hk : X.N[k]? = some z) (hij : i ≠ j) (hik : i ≠ k) (hjk : j ≠ k)
    (hx : X.env.scope.names.lookup x = some .local) (hy : X.env.scope.names.lookup y = some .local) (hz : X.env.scope.names.lookup z = some .local) (ha : L2.PA X [a, b, c] ta)
    (hw : swappedStores [.Tuple [.Name x px, .Name y py, .Name z pz] kt pt] (.Tuple [a, b, c] k2 pt2) X.env = pure (some [x, y, z])) :
    L2.PS X (.Assign [.Tuple [.Name x px, .Name y py, .Name z pz] kt pt] (.Tuple [a, b, c] k2 pt2) pos) (fun D σ H => ta σ H fun vs H1 => ∃ u v w, vs = [u, v, w] ∧ D.nx (((σ.set i (some u)).set j (some v)).set k (some w)) H1) := by
  refine ⟨fun pins s σ H D I h => ?_⟩
  rw [exec_Assign_arm]
  refine wpAny_bind (wpAny_standAt ?_)
  rw [show swapsWithSole [.Tuple [.Name x px, .Name y py, .Name z pz] kt pt] (.Tuple [a, b, c] k2 pt2) pos.line X.env = pure false from rfl]
  refine wpAny_bind (wpAny_pure ?_)
  rw [if_neg (by decide)]
  refine wpAny_bind (Tuple_ (L2.thn (ha.run _ pins s σ H _ I h) fun us s1 ⟨vs, H1, I1, r1, q1⟩ => ?_))
  obtain ⟨u, v, w, e1, q1⟩ := q1
  subst e1
  obtain ⟨u1, u2, u3, rfl, ru, rv, rw'⟩ : ∃ u1 u2 u3, us = [u1, u2, u3] ∧ L2.RelV u u1 ∧ L2.RelV v u2 ∧ L2.RelV w u3 := by
    cases r1 with
    | cons p q => cases q with
      | cons p' q' => cases q' with
        | cons p2 q2 => cases q2; exact ⟨_, _, _, rfl, p, p', p2⟩
  refine wpAny_newObj_type ?_ (by show 3 ≤ sizeLine; decide)
  have I2 : L2.Inv X pins σ H1 { s1 with heap := s1.heap.push { cls := .type "tuple", data := .seq [u1, u2, u3].toArray } } := I1.kept (t' := s1.toks) fun b o e => Heap.get?_push_of_some _ e
  rw [hw]
  refine wpAny_bind (wpAny_pure ?_)
  show wpAny (model X.prog X.w) X.A (do rule "assign.swapped-stores"; let items ← unpackItems (.ref s1.heap.objs.size) 3 none; assignInOrder [fun v => bindName X.env z v, fun v => bindName X.env y v, fun v => bindName X.env x v] items.reverse; pure Flow.next) _ _ _
  refine wpAny_bind (wpAny_rule (wpAny_bind (unpackItems_tuple (items := #[u1, u2, u3]) (I.ok.hd hc) (IsTup.new s1.heap _) fun h' hx' => ?_)))
  have I3 := I2.kept (h' := h') (t' := s1.toks) fun b o e => hx' b o (Nat.ne_of_lt (Heap.lt_size e)) e
  show wpAny _ _ (assignInOrder [fun v => bindName X.env z v, fun v => bindName X.env y v, fun v => bindName X.env x v] [u3, u2, u1] >>= fun _ => pure Flow.next) _ _ _
  refine wpAny_bind (assignInOrder_cons (wpAny_bindName (L2.store_ok I3 hN hk (.inl hz) rw' (fun s2 I4 => ?_) (.inr hz))))
  refine assignInOrder_cons (wpAny_bindName (L2.store_ok I4 hN hj (.inl hy) rv (fun s3 I5 => ?_) (.inr hy)))
  refine assignInOrder_cons (wpAny_bindName (L2.store_ok I5 hN hi (.inl hx) ru (fun s3 I6 => assignInOrder_nil (wpAny_pure ?_)) (.inr hx)))
  have e : ((σ.set k (some w)).set j (some v)).set i (some u) = ((σ.set i (some u)).set j (some v)).set k (some w) := by
    rw [List.set_comm _ _ (Ne.symm hjk), List.set_comm _ _ (Ne.symm hik), List.set_comm _ _ (Ne.symm hij)]
  rw [e] at I6
  exact ⟨_, H1, I6, q1⟩
theorem z_par3 {i j k : Nat} {x y z : Str} {a b c : Expr} {ces : Es} {px py pz pt pt2 : Pos} {kt k2 : Nat} (hc : X.calm = true) (hN : X.N.Nodup) (hi : X.N[i]? = some x) (hj : X.N[j]? = some y) (hk : X.N[k]? = some z) (hij : i ≠ j) (hik : i ≠ k) (hjk : j ≠ k)
    (hx : X.env.scope.names.lookup x = some .local) (hy : X.env.scope.names.lookup y = some .local) (hz : X.env.scope.names.lookup z = some .local) (ha : L2.PA X [a, b, c] (rA C W (evEs cf ces)))
    (hw : swappedStores [.Tuple [.Name x px, .Name y py, .Name z pz] kt pt] (.Tuple [a, b, c] k2 pt2) X.env = pure (some [x, y, z])) :
    L2.PS X (.Assign [.Tuple [.Name x px, .Name y py, .Name z pz] kt pt] (.Tuple [a, b, c] k2 pt2) pos) (rS C W (evS cf (.par [i, j, k] ces))) := ps_imp (ps_par3 hc hN hi hj hk hij hik hjk hx hy hz ha hw) fun D σ H ⟨Z, ι, L, ρ, S, E, h⟩ => by
  simp only [evS] at h
  refine thenG S E h fun xs L1 ι1 H1 vs s1 e1 ex1 rx h1 => ?_
  split at h1
  · rename_i hl
    have e2 : vs.length = 3 := by rw [← rx.length]; exact hl
    match vs, e2 with
    | [u, v, w], _ => exact ⟨u, v, w, rfl, h1 _ ι1 H1 .refl s1 (e1.setAll (is := [i, j, k]) rx)⟩
  · exact False.elim h1
/-- o[i] = e of a list -/
theorem z_setIx {o i e : Expr} {co ci ce : E} {p' : Pos} (ho : L2.PE X o (rE C W (evE cf co))) (hi : L2.PE X i (rE C W (evE cf ci))) (he : L2.PE X e (rE C W (evE cf ce)))
    (ha : ∀ v, assign (.Subscript o i p') X.env v = (do
      let ov ← holding [v] (eval o X.env)
      let iv ← holding [v, ov] (eval i X.env)
      standAt p'
      holding [v, ov, iv] (setItem ov iv v)
      release [v, ov, iv] []))
    (hs : swapsWithSole [.Subscript o i p'] e pos.line X.env = pure false) (hw : swappedStores [.Subscript o i p'] e X.env = pure none) : L2.PS X (.Assign [.Subscript o i p'] e pos) (rS C W (evS cf (.setIx co ci ce))) :=
  ps_imp (L2.ps_asg he (L2.pg_sub ho hi L2.set_list ha) hs hw rfl) fun D σ H ⟨Z, ι, L, ρ, S, E, h⟩ => by
  simp only [evS] at h
  refine thenG S E h fun x L1 ι1 H1 v s1 e1 ex1 rx h1 => thenG s1 e1 h1 fun y L2 ι2 H2 w s2 e2 ex2 ry h2 => thenG s2 e2 h2 fun z L3 ι3 H3 u s3 e3 ex3 rz h3 => ?_
  split at h3
  · rename_i k n
    have ry3 := RV.mono ex3 _ _ ry
    unfold RV at ry3
    obtain ⟨a, ea, rfl⟩ := ry3
    cases q : L3[k]? with
    | none => rw [q] at h3; exact False.elim h3
    | some ob =>
      rw [q] at h3
      cases ob with
      | dK _ => exact False.elim h3
      | dT _ => exact False.elim h3
      | lst ds =>
        simp only at h3
        split at h3
        · rename_i j hj
          obtain ⟨xs, hq, rq⟩ := s3.at_ q ea
          have xx := ex_set (H := H3) (u := .lst (xs.set j v)) (List.mem_of_getElem? ea)
          have rx3 := RV.mono (ex2.trans ex3) _ _ rx
          exact ⟨a, xs, n, j, rfl, rv_unInt rz, hq, by rw [← rq.length]; exact hj, h3 _ ι3 _ xx (s3.set ea ⟨_, _root_.L2.upd_same, RVs.mono xx _ _ (rq.set j rx3)⟩) (e3.mono xx)⟩
        · exact False.elim h3
  · exact False.elim h3
/-- o[i] = e of a dict -/
theorem z_setK {o i e : Expr} {co ci ce : E} {p' : Pos} (hu : X.A.units + 65 < cLine) (ho : L2.PE X o (rE C W (evE cf co))) (hi : L2.PE X i (rE C W (evE cf ci))) (he : L2.PE X e (rE C W (evE cf ce)))
    (ha : ∀ v, assign (.Subscript o i p') X.env v = (do
      let ov ← holding [v] (eval o X.env)
      let iv ← holding [v, ov] (eval i X.env)
      standAt p'
      holding [v, ov, iv] (setItem ov iv v)
      release [v, ov, iv] []))
    (hs : swapsWithSole [.Subscript o i p'] e pos.line X.env = pure false) (hw : swappedStores [.Subscript o i p'] e X.env = pure none) : L2.PS X (.Assign [.Subscript o i p'] e pos) (rS C W (evS cf (.setK co ci ce))) :=
  ps_imp (L2.ps_asg he (L2.pg_sub ho hi (L2.set_dict (by omega)) ha) hs hw rfl) fun D σ H ⟨Z, ι, L, ρ, S, E, h⟩ => by
  simp only [evS] at h
  refine thenG S E h fun x L1 ι1 H1 v s1 e1 ex1 rx h1 => thenG s1 e1 h1 fun y L2 ι2 H2 w s2 e2 ex2 ry h2 => thenG s2 e2 h2 fun z L3 ι3 H3 u s3 e3 ex3 rz h3 => ?_
  have rx3 := RV.mono (ex2.trans ex3) _ _ rx
  split at h3
  · rename_i k
    have ry3 := RV.mono ex3 _ _ ry
    unfold RV at ry3
    obtain ⟨a, ea, rfl⟩ := ry3
    have am := List.mem_of_getElem? ea
    split at h3
    · rename_i zz _ _ kvs q
      cases e : keyOf zz with
      | none => rw [e] at h3; exact False.elim h3
      | some key =>
        rw [e] at h3
        simp only at h3
        split at h3
        · rename_i hl
          obtain ⟨kv, hq, rq⟩ := s3.at_ q ea
          have xx := ex_set (H := H3) (u := .dK (_root_.L2.putK kv key v)) am
          refine ⟨a, _, rfl, .inl ⟨kv, key, hq, keyOf_kV e rz, by rw [← rq.length, ← big_eq]; exact hl, rfl⟩, ?_⟩
          exact h3 _ ι3 _ xx (s3.set ea ⟨_, _root_.L2.upd_same, KR.mono xx (rq.put key rx3)⟩) (e3.mono xx)
        · exact False.elim h3
    · rename_i kvs ks q
      cases e : keysOf ks with
      | none => rw [e] at h3; exact False.elim h3
      | some key =>
        rw [e] at h3
        simp only at h3
        split at h3
        · rename_i hl
          obtain ⟨kv, hq, rq⟩ := s3.at_ q ea
          obtain ⟨b, ys, rfl, hb, nb, rs⟩ := rv_tupOf rz
          have ek := keysOf_kV e rs
          subst ek
          have xx := ex_set (H := H3) (u := .dT (_root_.L2.putK kv key v)) am
          refine ⟨a, _, rfl, .inr ⟨kv, key, b, hq, rfl, hb, by rw [← rq.length, ← big_eq]; exact hl, rfl⟩, ?_⟩
          exact h3 _ ι3 _ xx (s3.set ea ⟨_, _root_.L2.upd_same, KR.mono xx (rq.put key rx3)⟩) (e3.mono xx)
        · exact False.elim h3
    · exact False.elim h3
  · exact False.elim h3
end
end EV
end

section
set_option autoImplicit false
/-! The evaluator's word about statements: flow, loops. -/
namespace EV
open PySem PySem.Spec PyProof.Rows

section
variable {X : L2.Cx} {C : Cfg} {cf : Nat → List D → M D} {W : L2.WX} {pos : Pos}
theorem z_aug {i : Nat} {x : Str} {e : Expr} {ce : E} {o : Bin} {op : Operator} {p' : Pos} (ho : (o = .add ∧ op = .Add) ∨ (o = .sub ∧ op = .Sub)) (hN : X.N.Nodup) (hi : X.N[i]? = some x) (hx : L2.Loc X.env.scope x) (hf : X.fn x = true ∨ X.env.scope.names.lookup x = some .local) (he : L2.PE X e (rE C W (evE cf ce))) :
    L2.PS X (.AugAssign (.Name x p') op e pos) (rS C W (evS cf (.aug i o ce))) := by
  rcases ho with ⟨rfl, rfl⟩ | ⟨rfl, rfl⟩
  · refine ps_imp (L2.ps_aug hN hi hx he L2.iop_add hf) fun D σ H ⟨Z, ι, L, ρ, S, E, h⟩ => ?_
    simp only [evS] at h
    cases e : ρ[i]? with
    | none => rw [e] at h; exact False.elim h
    | some od => cases od with
      | none => rw [e] at h; exact False.elim h
      | some d =>
        rw [e] at h
        obtain ⟨v, hv, rv⟩ := E.get i d e
        refine ⟨v, hv, thenG S E h fun y L1 ι1 H1 w s1 e1 ex1 ry h1 => ?_⟩
        split at h1
        · exact ⟨_, _, rv_unInt rv, rv_unInt ry, h1 _ ι1 H1 .refl s1 (e1.set i rv_int)⟩
        · exact False.elim h1
  · refine ps_imp (L2.ps_aug hN hi hx he L2.iop_sub hf) fun D σ H ⟨Z, ι, L, ρ, S, E, h⟩ => ?_
    simp only [evS] at h
    cases e : ρ[i]? with
    | none => rw [e] at h; exact False.elim h
    | some od => cases od with
      | none => rw [e] at h; exact False.elim h
      | some d =>
        rw [e] at h
        obtain ⟨v, hv, rv⟩ := E.get i d e
        refine ⟨v, hv, thenG S E h fun y L1 ι1 H1 w s1 e1 ex1 ry h1 => ?_⟩
        split at h1
        · exact ⟨_, _, rv_unInt rv, rv_unInt ry, h1 _ ι1 H1 .refl s1 (e1.set i rv_int)⟩
        · exact False.elim h1
theorem z_ex {e : Expr} {ce : E} (hs : swapsWith e none pos.line X.env = pure false) (he : L2.PE X e (rE C W (evE cf ce))) : L2.PS X (.Expr e pos) (rS C W (evS cf (.ex ce))) := ps_imp (L2.ps_expr he hs) fun D σ H ⟨Z, ι, L, ρ, S, E, h⟩ => by
  simp only [evS] at h
  exact thenG S E h fun x L1 ι1 H1 v s1 e1 ex1 rx h1 => h1 _ ι1 H1 .refl s1 e1
theorem z_ret {e : Expr} {ce : E} (he : L2.PE X e (rE C W (evE cf ce))) : L2.PS X (.Return (some e) pos) (rS C W (evS cf (.ret ce))) := ps_imp (L2.ps_ret he) fun D σ H ⟨Z, ι, L, ρ, S, E, h⟩ => by
  simp only [evS] at h
  exact thenG S E h fun x L1 ι1 H1 v s1 e1 ex1 rx h1 => h1 v ι1 H1 .refl s1 rx
theorem z_retN : L2.PS X (.Return none pos) (rS C W (evS cf .retN)) := ps_imp L2.ps_retN fun D σ H ⟨Z, ι, L, ρ, S, E, h⟩ => by
  simp only [evS] at h
  exact h _ ι H .refl S rv_non
theorem z_pass : L2.PS X (.Pass pos) (rS C W (evS cf .pass)) := ps_imp L2.ps_pass fun D σ H ⟨Z, ι, L, ρ, S, E, h⟩ => by
  simp only [evS] at h
  exact h _ ι H .refl S E
theorem z_brk : L2.PS X (.Break pos) (rS C W (evS cf .brk)) := ps_imp L2.ps_break fun D σ H ⟨Z, ι, L, ρ, S, E, h⟩ => by
  simp only [evS] at h
  exact h _ ι H .refl S E
theorem z_cont : L2.PS X (.Continue pos) (rS C W (evS cf .cont)) := ps_imp L2.ps_continue fun D σ H ⟨Z, ι, L, ρ, S, E, h⟩ => by
  simp only [evS] at h
  exact h _ ι H .refl S E
theorem then_bool {ρ : Env} {L : Store} {m : Env → M D} {f : Bool → Store → SR} {r : SR} (h : ((m ρ L).then ρ fun x L1 => match x with
    | .bl true => f true L1
    | .bl false => f false L1
    | _ => .bad) = r) : ((boolM m ρ L).then ρ f) = r := by
  subst h
  unfold boolM
  cases m ρ L with
  | bad => rfl
  | exc c d L1 => rfl
  | ok d L1 => cases d with
    | bl b => cases b <;> rfl
    | _ => rfl
theorem z_ife {c : Expr} {a b : List Stmt} {cc : E} {ca cb : Ss} (hc : L2.PT X c (rT C W (evE cf cc))) (ha : L2.PSs X a (rS C W (evSs cf ca))) (hb : L2.PSs X b (rS C W (evSs cf cb))) : L2.PS X (.If c a b pos) (rS C W (evS cf (.ife cc ca cb))) := ps_imp (L2.ps_if hc ha hb) fun D σ H ⟨Z, ι, L, ρ, S, E, h⟩ => by
  simp only [evS] at h
  have h' : AftS C Z W ι H ((boolM (evE cf cc) ρ L).then ρ fun b L1 => if b = true then evSs cf ca ρ L1 else evSs cf cb ρ L1) D := by
    rw [then_bool rfl]
    exact h
  refine thenG S E h' fun x L1 ι1 H1 v s1 e1 ex1 rx h1 => ?_
  subst rx
  cases x with
  | true => exact ⟨Z, ι1, L1, ρ, s1, e1, h1⟩
  | false => exact ⟨Z, ι1, L1, ρ, s1, e1, h1⟩
/-! ### loops -/
theorem z_for {tg iter : Expr} {body : List Stmt} {ct : Tg} {ci : It} {cb : Ss} (hp : PassesOwn (model X.prog X.w) X.A X.env X.xe) (hc : X.calm = true) (hi : L2.PI X tg iter (rI C W (evI cf ci))) (hg : L2.PG X tg (rB C ct)) (hb : L2.PSs X body (rS C W (evSs cf cb)))
    (hs : ∀ x, foldedSetIterable iter X.env x = pure x) : L2.PS X (.For tg iter body [] pos) (rS C W (evS cf (.for_ ct ci cb))) := ps_imp (L2.ps_for hp hc hi hg hb hs) fun D σ H ⟨Z, ι, L, ρ, S, E, h⟩ => by
  simp only [evS] at h
  refine thenG S E h fun w L1 ι1 H1 J s1 e1 ex1 wk h1 => ?_
  unfold forW at h1
  generalize hbd : (fun (d : EV.D) (ρ : Env) (L : Store) => match bindT ct d ρ with
    | some ρ' => evSs cf cb ρ' L
    | none => SR.bad) = b at h1
  refine ⟨fun i m σ H => ∃ ι' L' ρ', Ex ι1 H1 ι' H ∧ SO C Z ι' H L' ∧ ER C Z ι' H ρ' σ ∧ AftS C Z W ι' H (forG b w m i ρ' L') D, ⟨fuelW w, ι1, L1, ρ, .refl, s1, e1, h1⟩, ?_⟩
  rintro i m σ' H' ⟨ι', L', ρ', ex, s', e', K⟩
  cases m with
  | zero => exact False.elim K
  | succ m =>
    unfold forG at K
    cases hi : items w L' with
    | none => rw [hi] at K; exact False.elim K
    | some ds =>
      rw [hi] at K
      simp only at K
      obtain ⟨wgo, wstop⟩ := wk Z i ι' H' L' ds (fun a z => .inl z) ex s' hi
      cases hd : ds[i]? with
      | none =>
        rw [hd] at K
        exact .inl ⟨wstop hd, K _ ι' H' .refl s' e'⟩
      | some d =>
        rw [hd] at K
        have K : AftS C Z W ι' H' (match b d ρ' L' with
          | .next ρ1 L1 => forG b w m (i + 1) ρ1 L1
          | .cont ρ1 L1 => forG b w m (i + 1) ρ1 L1
          | .brk ρ1 L1 => .next ρ1 L1
          | r => r) D := K
        obtain ⟨go, yl⟩ := wgo d hd
        refine .inr ⟨go, fun σ' H' => ∃ ι' L' ρ', Ex ι1 H1 ι' H' ∧ SO C Z ι' H' L' ∧ ER C Z ι' H' ρ' σ' ∧ AftS C Z W ι' H' (forG b w m (i + 1) ρ' L') D, fun σ' H' q => ⟨m, Nat.lt_succ_self m, q⟩, fun x H'' hy => ?_⟩
        obtain ⟨sm, rx⟩ := yl x H'' hy
        have s2 := s'.same sm
        have ex2 := ex_same (ι := ι') sm
        have K2 := K.ext ex2
        rw [← hbd] at K2
        simp only at K2
        cases hbt : bindT ct d ρ' with
        | none => rw [hbt] at K2; exact False.elim K2
        | some ρ2 =>
          rw [hbt] at K2
          simp only at K2
          rw [hbd] at K2
          refine ⟨Z, ι', L', ρ', d, ρ2, s2, e'.mono ex2, rx, hbt, fun σ2 E2 fr => ⟨Z, ι', L', ρ2, s2, E2, ?_⟩⟩
          cases hr : evSs cf cb ρ2 L' with
          | bad => rw [hr] at K2; exact K2
          | exc c d ρ L => rw [hr] at K2; exact K2
          | ret d L => rw [hr] at K2; exact K2
          | brk ρ3 L3 => rw [hr] at K2; exact fun σ3 ι3 H3 x s e => K2 σ3 ι3 H3 x s e
          | next ρ3 L3 => rw [hr] at K2; exact fun σ3 ι3 H3 x s e => ⟨ι3, L3, ρ3, (ex.trans ex2).trans x, s, e, K2.ext x⟩
          | cont ρ3 L3 => rw [hr] at K2; exact fun σ3 ι3 H3 x s e => ⟨ι3, L3, ρ3, (ex.trans ex2).trans x, s, e, K2.ext x⟩
theorem z_while {c : Expr} {body : List Stmt} {cc : E} {cb : Ss} (hp : PassesOwn (model X.prog X.w) X.A X.env X.xe) (hc : L2.PT X c (rT C W (evE cf cc))) (hb : L2.PSs X body (rS C W (evSs cf cb))) : L2.PS X (.While c body [] pos) (rS C W (evS cf (.while_ cc cb))) := ps_imp (L2.ps_while hp hc hb) fun D σ H ⟨Z, ι, L, ρ, S, E, h⟩ => by
  simp only [evS] at h
  have h' : AftS C Z W ι H (whileG (boolM (evE cf cc)) (fun ρ L => evSs cf cb ρ L) turns ρ L) D := h
  refine ⟨fun m σ' H' => ∃ ι' L' ρ', Ex ι H ι' H' ∧ SO C Z ι' H' L' ∧ ER C Z ι' H' ρ' σ' ∧ AftS C Z W ι' H' (whileG (boolM (evE cf cc)) (fun ρ L => evSs cf cb ρ L) m ρ' L') D, ⟨turns, ι, L, ρ, .refl, S, E, h'⟩, ?_⟩
  rintro m σ' H' ⟨ι', L', ρ', ex, s', e', K⟩
  cases m with
  | zero => exact False.elim K
  | succ m =>
    unfold whileG at K
    refine thenG s' e' K fun q L1 ι1 H1 v s1 e1 ex1 rx h1 => ?_
    subst rx
    cases q with
    | false =>
      simp only [Bool.false_eq_true, if_false] at h1 ⊢
      exact h1 _ ι1 H1 .refl s1 e1
    | true =>
      simp only [if_true] at h1 ⊢
      refine ⟨fun σ' H' => ∃ ι' L' ρ', Ex ι H ι' H' ∧ SO C Z ι' H' L' ∧ ER C Z ι' H' ρ' σ' ∧ AftS C Z W ι' H' (whileG (boolM (evE cf cc)) (fun ρ L => evSs cf cb ρ L) m ρ' L') D, fun σ' H' q => ⟨m, Nat.lt_succ_self m, q⟩, Z, ι1, L1, ρ', s1, e1, ?_⟩
      cases hr : evSs cf cb ρ' L1 with
      | bad => rw [hr] at h1; exact h1
      | exc c d ρ L => rw [hr] at h1; exact h1
      | ret d L => rw [hr] at h1; exact h1
      | brk ρ3 L3 => rw [hr] at h1; exact fun σ3 ι3 H3 x s e => h1 σ3 ι3 H3 x s e
      | next ρ3 L3 => rw [hr] at h1; exact fun σ3 ι3 H3 x s e => ⟨ι3, L3, ρ3, (ex.trans ex1).trans x, s, e, h1.ext x⟩
      | cont ρ3 L3 => rw [hr] at h1; exact fun σ3 ι3 H3 x s e => ⟨ι3, L3, ρ3, (ex.trans ex1).trans x, s, e, h1.ext x⟩
end
end EV
end

section
set_option autoImplicit false
/-! try with several clauses, named or not. -/
namespace EV
open PySem PySem.Spec PyProof.Rows L2

structure HSp where
  c : Value
  i : Option Nat
  ts : Addr → Value → Option Addr → TS
def clr (i : Option Nat) (σ : L2.St) : L2.St := match i with
  | none => σ
  | some j => σ.set j none
def put (i : Option Nat) (a : Addr) (σ : L2.St) : L2.St := match i with
  | none => σ
  | some j => σ.set j (some (.ref a))
/-- what the clauses wish of an exception of the body -/
def wHs (K : PySem.W.Frag) (Wout : WX) (D : Ends) : List HSp → WX
  | [] => Wout
  | h :: r => fun cls d σ H => ∃ b, PySem.W.exmOne K cls h.c = some b ∧
    (b = true → ∀ a, H a = none → h.ts a cls d { nx := fun σ' H' => D.nx (clr h.i σ') H', rt := D.rt, bk := fun σ' H' => D.bk (clr h.i σ') H', ct := fun σ' H' => D.ct (clr h.i σ') H' } (put h.i a σ) H) ∧ (b = false → wHs K Wout D r cls d σ H)
/-- a clause's name -/
def NmOk (X : Cx) (nm : Option Str) (i : Option Nat) : Prop := match nm, i with
  | none, none => True
  | some n, some j => X.N[j]? = some n ∧ X.env.kindOf n = some .local
  | _, _ => False
inductive HdsN (X : Cx) : List ExceptHandler → List HSp → Prop
  | nil : HdsN X [] []
  | cons {x : Str} {nm : Option Str} {h : HSp} {b₀ : Stmt} {suite : List Stmt} {np pos' : Pos} {hds : List ExceptHandler} {l : List HSp} (hn : NmOk X nm h.i) (hc : Names X x h.c)
      (hsu : ∀ (a : Addr) (oe : Obj) (cls : Value) (d : Option Addr) (pn : List (Addr × Obj)), Zc cls d oe → (∃ vs, oe.data = .fields vs) → PSs (X.suite a ((a, oe) :: pn)) (b₀ :: suite) (h.ts a cls d)) (r : HdsN X hds l) :
      HdsN X (.ExceptHandler (some (.Name x np)) nm (b₀ :: suite) pos' :: hds) (h :: l)
section
variable {X : Cx} {body : List Stmt} {h₀ : ExceptHandler} {hds : List ExceptHandler} {l : List HSp} {pos : Pos} {tb : WX → TS} {Wout : WX}
theorem ps_try_nm (hs : X.stack = X.env :: X.outer) (hf : X.env.frame = some X.env.locals) (hN : X.N.Nodup) (tk : L2.Takes X Wout)
    (hb : ∀ (W : WX) (pn : List (Addr × Obj)) (xe : Value → Shared → Prop), L2.Takes (X.tr pn xe) W → PassesOwn (model X.prog X.w) X.A X.env xe → PSs (X.tr pn xe) body (tb W))
    (hh : HdsN X (h₀ :: hds) l) : PS X (.Try body (h₀ :: hds) [] [] pos) (fun D σ H => tb (wHs X.K Wout D l) D σ H) := by
  refine ⟨fun pins s σ H D I h => ?_⟩
  have ok := I.ok
  have hfr : X.A.frames = some (X.env :: X.outer) := by rw [ok.frames, hs]
  refine wpAny_Try_except ?_
  refine wpAny_mono ((hb (wHs X.K Wout D l) (X.pn ++ pins) (fun e s₁ => wpAny (model X.prog X.w) X.A (noteFrame e X.env) (fun _ s₂ => wpAny (model X.prog X.w) X.A (setFlight e none) (fun _ s₃ =>
    wpAny (model X.prog X.w) X.A (handleBy e X.env (h₀ :: hds)) (SP X pins D) X.xe s₃) X.xe s₂) X.xe s₁) (fun u s' xx => ?_) PassesOwn.looking).run [] s σ H D (I.toTry _) h) (fun f s1 hsp => ?_) (fun e s1 he => he)
  · obtain ⟨a, B, sI, pins', σ', H', cls, d, rfl, J', nb, up, sky, na, os, ag, w⟩ := xx
    have J : Inv X pins σ' H' sI := J'.ofTry ok
    have sky' : Sky B (X.env :: X.outer) a (Zc cls d) X.env.locals s'.heap := by rw [← hs]; exact sky
    show wpAny (model X.prog X.w) X.A (noteFrame (.ref a) X.env) _ _ _
    refine Sky.land Zc.steady hfr hf sky' fun h3 fl3 up3 => ?_
    have J3 : Inv X pins σ' H' { s' with heap := h3 } := J.landed nb fl3.1 (up.trans up3) os ag
    obtain ⟨oe3, vs3, he3, hz3, hd3⟩ := fl3.there
    have notFr : ∀ {h : Heap} {o : Obj} {vs : Array Value}, h.FunFrames B (X.env :: X.outer) → h.get? a = some o → o.data = .fields vs → a ∉ frs (X.env :: X.outer) := fun {h o vs} ff e dd hm => by
      obtain ⟨_, o', e', hnf⟩ := ff.mem hm
      rw [e] at e'; cases e'
      exact hnf _ dd
    have nfr := notFr fl3.2.2.1 he3 hd3
    have nL : a ≠ X.env.locals := fun z => nfr (List.mem_filterMap.mpr ⟨X.env, List.mem_cons_self, by rw [hf, z]⟩)
    have nF : a ∉ X.fs := fun hm => by
      obtain ⟨e, he, q⟩ := List.mem_filterMap.mp hm
      exact nfr (List.mem_filterMap.mpr ⟨e, List.mem_cons_of_mem _ he, q⟩)
    have S3 := J3.suite he3 hd3 na nL nF
    have go : ∀ {hds' : List ExceptHandler} {l' : List HSp}, HdsN X hds' l' → wHs X.K Wout D l' cls d σ' H' →
        wpAny (model X.prog X.w) X.A (handleBy (.ref a) X.env hds') (SP X pins D) X.xe { s' with heap := h3 } := by
      intro hds' l' hk
      induction hk with
      | nil =>
        intro w
        refine wpAny_handleBy_nil ?_
        obtain ⟨k1, k2, k3, oe, vs, T, oT, ts', he, hz, hd, h1, hr⟩ := id fl3
        unfold PySem.passOn
        refine wpAny_bind (wpAny_field he hd h1 ?_)
        rw [if_neg (show ¬ ((Value.ref T == Value.none) = true) from by simp)]
        have fin : wpAny (model X.prog X.w) X.A (setFlight (.ref a) X.env.frame) (fun _ s4 => wpAny (model X.prog X.w) X.A (throw (.ref a) : Sem Flow) (SP X pins D) X.xe s4) X.xe { s' with heap := h3 } := by
          rw [hf]
          refine HandSPX.setFlight_upZ fl3 fun h4 hh4 up4 => wpAny_throw (tk _ _ ?_)
          exact ⟨a, B, sI, pins, σ', H', cls, d, rfl, J, nb, (up.trans up3).trans up4, .inr (.inr (by rw [hs]; exact hh4)), na, os, ag, w⟩
        first
          | exact wpAny_bind (wpAny_pure (wpAny_bind fin))
          | exact wpAny_bind fin
      | @cons x nm hsp b₀ suite np pos' hds2 l2 hn hc hsu r ih =>
        intro w
        obtain ⟨b, hb1, hyes, hno⟩ := w
        refine wpAny_handleBy_cons (codeAny_handlers_test ?_) (by intro q; cases q)
        have LT : PySem.W.Looks (model X.prog X.w) h3 (typeOf (.ref a)) cls := fun A Q E s k q => wpAny_typeOf_ref (k _ _ he3) (by rw [hz3.1]; exact q)
        have LM := PySem.W.exm_one (M := model X.prog X.w) (J3.kIn) LT hb1
        have test : ∀ {Q : Value → Shared → Prop} {E : Value → Shared → Prop}, Q hsp.c { s' with heap := h3 } → wpAny (model X.prog X.w) (X.A.mark (some (.ref a))) (eval (.Name x np) X.env) Q E { s' with heap := h3 } := fun {Q E} q => by
          obtain ⟨hg, hdbg, hm | ⟨hm, hv, hnn⟩⟩ := hc
          · exact ld_glob (X := X.suite a ((a, oe3) :: (X.pn ++ pins))) S3 hg hm q hdbg
          · exact ld_blt (X := X.suite a ((a, oe3) :: (X.pn ++ pins))) S3 hg hm hv q hnn hdbg
        refine test (LM.here ?_)
        cases b with
        | false =>
          show wpAny _ X.A (handleBy (.ref a) X.env hds2) _ _ _
          exact ih (hno rfl)
        | true =>
          obtain ⟨c, i, ts⟩ := hsp
          cases nm with
          | none =>
            cases i with
            | some j => exact hn.elim
            | none =>
              first
                | refine codeAny_handlers_suite ?_
                | skip
              refine HandSPX.lands_againZ fl3 fun h4 fl4 up4 => ?_
              have J4 : Inv X pins σ' H' { s' with heap := h4 } := J.landed nb fl4.1 ((up.trans up3).trans up4) os ag
              obtain ⟨oe4, vs4, he4, hz4, hd4⟩ := fl4.there
              have S4 := J4.suite he4 hd4 na nL nF
              refine wpAny_mono ((hsu a oe4 cls d (X.pn ++ pins) hz4 ⟨_, hd4⟩).run [] _ _ H' _ S4 (hyes rfl a na)) (fun f s6 hsp => ?_) (fun _ _ z => False.elim z)
              cases f with
              | next => obtain ⟨σ6, H6, S6, q6⟩ := hsp; exact ⟨_, _, S6.unsuite ok, q6⟩
              | brk => obtain ⟨σ6, H6, S6, q6⟩ := hsp; exact ⟨_, _, S6.unsuite ok, q6⟩
              | cont => obtain ⟨σ6, H6, S6, q6⟩ := hsp; exact ⟨_, _, S6.unsuite ok, q6⟩
              | ret u => obtain ⟨v6, σ6, H6, S6, r6, q6⟩ := hsp; exact ⟨_, _, _, S6.unsuite ok, r6, q6⟩
          | some n =>
            cases i with
            | none => exact hn.elim
            | some j =>
              obtain ⟨hi, hln⟩ := hn
              have hloc : Loc X.env.scope n := .inl hln
              refine codeAny_handlers_suite_as ?_
              refine HandSPX.lands_againZ fl3 fun h4 fl4 up4 => ?_
              have J4 : Inv X pins σ' H' { s' with heap := h4 } := J.landed nb fl4.1 ((up.trans up3).trans up4) os ag
              obtain ⟨oe4, vs4, he4, hz4, hd4⟩ := fl4.there
              have S4 := J4.suite he4 hd4 na nL nF
              refine store_ok (X := X.suite a ((a, oe4) :: (X.pn ++ pins))) (v := .ref a) S4 hN hi hloc rfl (fun s5 S5 => ?_) (.inr hln)
              refine wpAny_mono ((hsu a oe4 cls d (X.pn ++ pins) hz4 ⟨_, hd4⟩).run [] s5 _ H' _ S5 (hyes rfl a na)) (fun f s6 hsp => ?_) (fun _ _ z => False.elim z)
              have end_ : ∀ {σ6 : L2.St} {H6 : Hp} {Q : Shared → Prop}, Inv (X.suite a ((a, oe4) :: (X.pn ++ pins))) [] σ6 H6 s6 → (∀ s7, Inv X pins (σ6.set j none) H6 s7 → Q s7) →
                  wpAny (model X.prog X.w) X.A (do bindName X.env n .none; unbindBehindTheSuite X.env n pos') (fun _ s7 => Q s7) X.xe s6 := fun {σ6 H6 Q} S6 hq => gone_ok (S6.unsuite ok) hN hi hln hq
              cases f with
              | next => obtain ⟨σ6, H6, S6, q6⟩ := hsp; exact end_ S6 fun s7 J7 => ⟨_, _, J7, q6⟩
              | brk => obtain ⟨σ6, H6, S6, q6⟩ := hsp; exact end_ S6 fun s7 J7 => ⟨_, _, J7, q6⟩
              | cont => obtain ⟨σ6, H6, S6, q6⟩ := hsp; exact end_ S6 fun s7 J7 => ⟨_, _, J7, q6⟩
              | ret u => obtain ⟨v6, σ6, H6, S6, r6, q6⟩ := hsp; exact end_ S6 fun s7 J7 => ⟨_, _, _, J7, r6, q6⟩
    exact go hh w
  · cases f with
    | next => obtain ⟨σ', H', J', q⟩ := hsp; exact wpAny_execs_nil ⟨σ', H', J'.ofTry ok, q⟩
    | brk => obtain ⟨σ', H', J', q⟩ := hsp; exact ⟨σ', H', J'.ofTry ok, q⟩
    | cont => obtain ⟨σ', H', J', q⟩ := hsp; exact ⟨σ', H', J'.ofTry ok, q⟩
    | ret u => obtain ⟨v, σ', H', J', r, q⟩ := hsp; exact ⟨v, σ', H', J'.ofTry ok, r, q⟩
end
end EV
end

section
set_option autoImplicit false
/-! The evaluator's word about raise and try. -/
namespace EV
open PySem PySem.Spec PyProof.Rows

/-- within a suite: the exception at a, of the class cls, its dict d -/
def cfgX (C : Cfg) (a : Addr) (cls : Value) (d : Option Addr) : Cfg := { C with EX := fun a' c dx => a' = a ∧ cls = .ref (C.cls c) ∧ d = some dx }
section
variable {C : Cfg} {Z : Addr → Prop} {ι : List Addr} {H : L2.Hp} {a : Addr} {cls : Value} {d0 : Option Addr} (h0 : ∀ a c dx, ¬ C.EX a c dx)
include h0
mutual
theorem RV.cfg : ∀ (d : D) (v : L2.V), RV C Z ι H d v → RV (cfgX C a cls d0) Z ι H d v
  | .non, _, r => by simpa [RV] using r
  | .bl _, _, r => by simpa [RV] using r
  | .int _, _, r => by simpa [RV] using r
  | .str _, _, r => by simpa [RV] using r
  | .fn _, _, r => by simpa [RV, cfgX] using r
  | .obj _, _, r => by simpa [RV] using r
  | .tup ds, v, r => by
    unfold RV at r ⊢
    obtain ⟨b, xs, e, t, n, q⟩ := r
    exact ⟨b, xs, e, t, n, RVs.cfg ds xs q⟩
  | .ktup ds, v, r => by
    unfold RV at r ⊢
    obtain ⟨b, xs, e, t, q⟩ := r
    exact ⟨b, xs, e, t, RVs.cfg ds xs q⟩
  | .lst ds, v, r => by
    unfold RV at r ⊢
    obtain ⟨b, xs, e, t, z, n, q⟩ := r
    exact ⟨b, xs, e, t, z, n, RVs.cfg ds xs q⟩
  | .exn c d, v, r => by
    unfold RV at r
    obtain ⟨b, dx, y, e, q, hd, n, r⟩ := r
    exact absurd q (h0 _ _ _)
  | .exv c f m d, v, r => by
    unfold RV at r ⊢
    obtain ⟨y, q, k, r⟩ := r
    exact ⟨y, q, k, RV.cfg d y r⟩
theorem RVs.cfg : ∀ (ds : List D) (vs : List L2.V), RVs C Z ι H ds vs → RVs (cfgX C a cls d0) Z ι H ds vs
  | [], _, r => by simpa [RVs] using r
  | d :: ds, vs, r => by
    obtain ⟨v, w, rfl, r1, r2⟩ := r.uncons
    exact .cons (RV.cfg d v r1) (RVs.cfg ds w r2)
end
theorem KR.cfg {κ : Type} : ∀ {kvs : List (κ × D)} {kv : List (κ × L2.V)}, KR C Z ι H kvs kv → KR (cfgX C a cls d0) Z ι H kvs kv
  | [], _, r => r
  | q :: r, kv, x => by
    obtain ⟨q, s, e, k, h1, h2⟩ := x
    exact ⟨q, s, e, k, RV.cfg h0 _ _ h1, KR.cfg h2⟩
theorem SO.cfg {L : Store} (s : SO C Z ι H L) : SO (cfgX C a cls d0) Z ι H L :=
  ⟨s.len, s.nd, fun k o e => by
    obtain ⟨b, q, r⟩ := s.obj k o e
    refine ⟨b, q, ?_⟩
    cases o with
    | lst ds => obtain ⟨ys, q1, q2⟩ := r; exact ⟨ys, q1, RVs.cfg h0 _ _ q2⟩
    | dK ds => obtain ⟨ys, q1, q2⟩ := r; exact ⟨ys, q1, KR.cfg h0 q2⟩
    | dT ds => obtain ⟨ys, q1, q2⟩ := r; exact ⟨ys, q1, KR.cfg h0 q2⟩, s.zh⟩
theorem ER.cfg {ρ : Env} {σ : L2.St} (h : ER C Z ι H ρ σ) : ER (cfgX C a cls d0) Z ι H ρ σ :=
  ⟨h.len, fun i d e => let ⟨v, q, r⟩ := h.get i d e; ⟨v, q, RV.cfg h0 _ _ r⟩⟩
end
section
variable {C : Cfg} {Z : Addr → Prop} {ι : List Addr} {H : L2.Hp} {a : Addr} {cls : Value} {d0 : Option Addr}
mutual
theorem RV.uncfg : ∀ (d : D) (v : L2.V), d.pure = true → RV (cfgX C a cls d0) Z ι H d v → RV C Z ι H d v
  | .non, _, _, r => by simpa [RV] using r
  | .bl _, _, _, r => by simpa [RV] using r
  | .int _, _, _, r => by simpa [RV] using r
  | .str _, _, _, r => by simpa [RV] using r
  | .fn _, _, _, r => by simpa [RV, cfgX] using r
  | .obj _, _, p, r => by simp [D.pure] at p
  | .exn _ _, _, p, r => by simp [D.pure] at p
  | .exv c f m d, v, p, r => by
    unfold RV at r ⊢
    obtain ⟨y, q, k, r⟩ := r
    exact ⟨y, q, k, RV.uncfg d y (by simpa [D.pure] using p) r⟩
  | .tup ds, v, p, r => by
    unfold RV at r ⊢
    obtain ⟨b, xs, e, t, n, q⟩ := r
    exact ⟨b, xs, e, t, n, RVs.uncfg ds xs (by simpa [D.pure] using p) q⟩
  | .ktup ds, v, p, r => by
    unfold RV at r ⊢
    obtain ⟨b, xs, e, t, q⟩ := r
    exact ⟨b, xs, e, t, RVs.uncfg ds xs (by simpa [D.pure] using p) q⟩
  | .lst ds, v, p, r => by
    unfold RV at r ⊢
    obtain ⟨b, xs, e, t, z, n, q⟩ := r
    exact ⟨b, xs, e, t, z, n, RVs.uncfg ds xs (by simpa [D.pure] using p) q⟩
theorem RVs.uncfg : ∀ (ds : List D) (vs : List L2.V), purAll ds = true → RVs (cfgX C a cls d0) Z ι H ds vs → RVs C Z ι H ds vs
  | [], _, _, r => by simpa [RVs] using r
  | d :: ds, vs, p, r => by
    obtain ⟨v, w, rfl, r1, r2⟩ := r.uncons
    have p' : d.pure = true ∧ purAll ds = true := by simpa [purAll] using p
    exact .cons (RV.uncfg d v p'.1 r1) (RVs.uncfg ds w p'.2 r2)
end
theorem KR.uncfg {κ : Type} : ∀ {kvs : List (κ × D)} {kv : List (κ × L2.V)}, purAll (kvs.map (·.2)) = true → KR (cfgX C a cls d0) Z ι H kvs kv → KR C Z ι H kvs kv
  | [], _, _, r => r
  | q :: r, kv, p, x => by
    obtain ⟨q2, s, e, k, h1, h2⟩ := x
    have p' : q.2.pure = true ∧ purAll (r.map (·.2)) = true := by simpa [purAll] using p
    exact ⟨q2, s, e, k, RV.uncfg _ _ p'.1 h1, KR.uncfg p'.2 h2⟩
theorem SO.uncfg {L : Store} (s : SO (cfgX C a cls d0) Z ι H L) (p : storeP L = true) : SO C Z ι H L :=
  ⟨s.len, s.nd, fun k o e => by
    obtain ⟨b, q, r⟩ := s.obj k o e
    have po : o.pure = true := List.all_eq_true.mp p o (List.mem_of_getElem? e)
    refine ⟨b, q, ?_⟩
    cases o with
    | lst ds => obtain ⟨ys, q1, q2⟩ := r; exact ⟨ys, q1, RVs.uncfg _ _ po q2⟩
    | dK ds => obtain ⟨ys, q1, q2⟩ := r; exact ⟨ys, q1, KR.uncfg po q2⟩
    | dT ds => obtain ⟨ys, q1, q2⟩ := r; exact ⟨ys, q1, KR.uncfg po q2⟩, s.zh⟩
theorem ex_uncfg {ι' : List Addr} {H' : L2.Hp} (x : Ex ι H ι' H') : Ex ι H ι' H' := x
end

section
variable {X : L2.Cx} {C : Cfg} {cf : Nat → List D → M D} {W : L2.WX} {pos : Pos}
abbrev Wno : L2.WX := fun _ _ _ _ => False
/-- e.f in a suite -/
theorem s_xfld {i c : Nat} {x n : Str} {p : Pos} {a : Addr} {oe : Obj} {cls : Value} {d : Option Addr} {pn : List (Addr × Obj)} (T : L2.XfC X.K (C.cls c)) (hno : PySem.W.findIn X.K (.ref (C.cls c)) n = some none) (hn : n = C.fld c) (hz : L2.Zc cls d oe) (hf : ∃ vs, oe.data = .fields vs)
    (hN : X.N[i]? = some x) (hv : L2.Vis X.env.scope x) (hd : (x == ("__debug__" : Str)) = false) (hcd : (x == ("__classdict__" : Str)) = false) :
    L2.PE (X.suite a ((a, oe) :: pn)) (.Attribute (.Name x p) n pos) (rE (cfgX C a cls d) W (evE cf (.xfld i c))) := by
  subst hn
  refine pe_imp (L2.pe_xf T hno hz hf (L2.pe_var (X := X.suite a ((a, oe) :: pn)) (i := i) hN hv hd hcd) rfl) fun σ H Q ⟨Z, ι, L, ρ, S, E, h⟩ => ?_
  simp only [evE] at h
  split at h
  · rename_i c' d1 e
    split at h
    · rename_i hc
      subst hc
      obtain ⟨v, ev, r⟩ := E.get _ _ e
      unfold RV at r
      obtain ⟨b, dx, y, rfl, ⟨eb, e1, e2⟩, hdx, n, r⟩ := r
      subst eb
      exact ⟨_, ev, rfl, e1, dx, _, y, e2, hdx, by simp [cfgX], h.ok S y r⟩
    · exact False.elim h
  · exact False.elim h

/-- the clauses -/
inductive HR (X : L2.Cx) (C : Cfg) (cf : Nat → List D → M D) (n : Nat) : Hs → List ExceptHandler → List HSp → Prop
  | nil : HR X C cf n .nil [] []
  | plain {x : Str} {c : Nat} {cs : Ss} {b₀ : Stmt} {suite : List Stmt} {np pos' : Pos} {r : Hs} {hds : List ExceptHandler} {l : List HSp} (hc : L2.Names X x (.ref (C.cls c))) (hcn : c < n)
      (hsu : ∀ (a : Addr) (oe : Obj) (pn : List (Addr × Obj)), L2.PSs (X.suite a ((a, oe) :: pn)) (b₀ :: suite) (rS C Wno (evSs cf cs))) (hr : HR X C cf n r hds l) :
      HR X C cf n (.cons n c none cs r) (.ExceptHandler (some (.Name x np)) none (b₀ :: suite) pos' :: hds) (⟨.ref (C.cls c), none, fun _ _ _ => rS C Wno (evSs cf cs)⟩ :: l)
  | named {x nm : Str} {c j : Nat} {ce : E} {e : Expr} {np pos' rp : Pos} {r : Hs} {hds : List ExceptHandler} {l : List HSp} (hc : L2.Names X x (.ref (C.cls c))) (hcn : c < n) (hj : X.N[j]? = some nm) (hjl : X.env.kindOf nm = some .local)
      (hsu : ∀ (a : Addr) (oe : Obj) (cls : Value) (d : Option Addr) (pn : List (Addr × Obj)), L2.Zc cls d oe → (∃ vs, oe.data = .fields vs) → L2.PE (X.suite a ((a, oe) :: pn)) e (rE (cfgX C a cls d) Wno (evE cf ce))) (hr : HR X C cf n r hds l) :
      HR X C cf n (.cons n c (some j) (.cons (.ret ce) .nil) r) (.ExceptHandler (some (.Name x np)) (some nm) [.Return (some e) rp] pos' :: hds)
        (⟨.ref (C.cls c), some j, fun a cls d D σ H => rE (cfgX C a cls d) Wno (evE cf ce) σ H D.rt⟩ :: l)
theorem HR.hds {n : Nat} {hs : Hs} {hds : List ExceptHandler} {l : List HSp} (h : HR X C cf n hs hds l) : HdsN X hds l := by
  induction h with
  | nil => exact .nil
  | plain hc hcn hsu hr ih => exact .cons (by trivial) hc (fun a oe cls d pn _ _ => hsu a oe pn) ih
  | named hc hcn hj hjl hsu hr ih => exact .cons ⟨hj, hjl⟩ hc (fun a oe cls d pn hz hf => pss_imp (L2.pss_one (L2.ps_ret (hsu a oe cls d pn hz hf))) fun D σ H h => h) ih
theorem hs_of {n : Nat} {hs : Hs} {hds : List ExceptHandler} {l : List HSp} (h : HR X C cf n hs hds l) (h0 : ∀ a c dx, ¬ C.EX a c dx) (hex : ∀ c c', c < n → c' < n → PySem.W.exmOne X.K (.ref (C.cls c)) (.ref (C.cls c')) = some (decide (c = c')))
    {Z : Addr → Prop} {ι : List Addr} {H : L2.Hp} {L : Store} {ρ : Env} {σ : L2.St} {D : L2.Ends} {c : Nat} {d : EV.D} {dx : Addr} {v : L2.V} (S : SO C Z ι H L) (E : ER C Z ι H ρ σ) (r : RV C Z ι H d v) (hd : H dx = some (.xd [(C.fld c, v)])) :
    AftS C Z W ι H (evHs cf hs c d ρ L) D → wHs X.K W D l (.ref (C.cls c)) (some dx) σ H := by
  induction h with
  | nil =>
    intro h
    simp only [evHs] at h
    exact h v σ ι H dx .refl S E r hd
  | @plain x c' cs b₀ suite np pos' rr hds l hc hcn hsu hr ih =>
    intro h
    simp only [evHs] at h
    split at h
    · rename_i hlt
      refine ⟨_, hex c c' hlt hcn, fun hb a ha => ?_, fun hb => ?_⟩
      · have e : c = c' := of_decide_eq_true hb
        rw [if_pos e] at h
        refine ⟨Z, ι, L, ρ, S, E, ?_⟩
        cases q : evSs cf cs ρ L with
        | bad => rw [q] at h; exact h
        | exc _ _ _ _ => rw [q] at h; exact False.elim h
        | next ρ L => rw [q] at h; exact h
        | ret _ L => rw [q] at h; exact h
        | brk ρ L => rw [q] at h; exact h
        | cont ρ L => rw [q] at h; exact h
      · have e : ¬ c = c' := of_decide_eq_false hb
        rw [if_neg e] at h
        exact ih h
    · exact False.elim h
  | @named x nm c' j ce e np pos' rp rr hds l hc hcn hj hjl hsu hr ih =>
    intro h
    simp only [evHs] at h
    split at h
    · rename_i hlt
      refine ⟨_, hex c c' hlt hcn, fun hb a ha => ?_, fun hb => ?_⟩
      · have e : c = c' := of_decide_eq_true hb
        rw [if_pos e] at h
        have rx : RV (cfgX C a (.ref (C.cls c)) (some dx)) Z ι H (.exn c d) (.ref a) := by
          unfold RV
          refine ⟨a, dx, v, rfl, ⟨rfl, rfl, rfl⟩, hd, fun m => ?_, RV.cfg h0 _ _ r⟩
          obtain ⟨u, e1, k1⟩ := S.kind m
          rw [hd] at e1; cases e1; cases k1
        refine ⟨Z, ι, L, ρ.set j (some (.exn c d)), S.cfg h0, (E.cfg h0).set j rx, ?_⟩
        simp only [evSs, evS] at h
        cases q : evE cf ce (ρ.set j (some (.exn c d))) L with
        | bad => rw [q] at h; exact h
        | exc _ _ _ => rw [q] at h; exact False.elim h
        | ok x L1 =>
          rw [q] at h
          simp only [R.then, SR.seq] at h
          split at h
          · rename_i hp
            rw [Bool.and_eq_true] at hp
            intro ι' H' x' s' v' rv'
            exact h v' ι' H' x' (s'.uncfg hp.2) (RV.uncfg _ _ hp.1 rv')
          · exact False.elim h
      · have e : ¬ c = c' := of_decide_eq_false hb
        rw [if_neg e] at h
        exact ih h
    · exact False.elim h
theorem z_try {n : Nat} {body : List Stmt} {h₀ : ExceptHandler} {hds : List ExceptHandler} {l : List HSp} {cb : Ss} {hs : Hs} (hst : X.stack = X.env :: X.outer) (hf : X.env.frame = some X.env.locals) (hN : X.N.Nodup) (tk : L2.Takes X W)
    (hb : ∀ (W : L2.WX) (pn : List (Addr × Obj)) (xe : Value → Shared → Prop), L2.Takes (X.tr pn xe) W → PassesOwn (model X.prog X.w) X.A X.env xe → L2.PSs (X.tr pn xe) body (rS C W (evSs cf cb)))
    (hh : HR X C cf n hs (h₀ :: hds) l) (h0 : ∀ a c dx, ¬ C.EX a c dx) (hex : ∀ c c', c < n → c' < n → PySem.W.exmOne X.K (.ref (C.cls c)) (.ref (C.cls c')) = some (decide (c = c'))) :
    L2.PS X (.Try body (h₀ :: hds) [] [] pos) (rS C W (evS cf (.try_ cb hs))) := ps_imp (ps_try_nm hst hf hN tk hb hh.hds) fun D σ H ⟨Z, ι, L, ρ, S, E, h⟩ => by
  refine ⟨Z, ι, L, ρ, S, E, ?_⟩
  simp only [evS] at h
  cases q : evSs cf cb ρ L with
  | bad => rw [q] at h; exact h
  | next ρ L => rw [q] at h; exact h
  | ret _ L => rw [q] at h; exact h
  | brk ρ L => rw [q] at h; exact h
  | cont ρ L => rw [q] at h; exact h
  | exc c d ρ1 L1 =>
    rw [q] at h
    exact fun v σ' ι' H' dx x s e r hd => hs_of hh h0 hex s e r hd (h.ext x)

end
end EV
end

section
set_option autoImplicit false
/-! raise C(e), C an own class over an own class over ValueError, its __init__ as in the text. -/
namespace EV
open PySem PySem.Spec PyProof.Rows

/-- what the written part says of the own class at B whose __init__ is ValueError's -/
structure OwnB (K : PySem.W.Frag) (B : Addr) : Prop where
  rd : PySem.W.readsIn K B (.type "type") = true
  at_ : PySem.W.findCls K (.ref B) (.type "type") "__init__" = some (.val (.builtin "ValueError.__init__"))
  ga : PySem.W.specialIn K (.ref B) "__getattribute__" = some (some (.builtin "type.__getattribute__"))
theorem mcall_plain {o : Expr} {m : Str} {apos pos : Pos} {args : List Expr} {env : PySem.Env} (hb : attributeBase o m env (eval o env) = eval o env) (hform : methodCallForm (args.length + ([] : List Keyword).length) (backTo pos (starEach args env)) (backToKw pos (keywordEach [] env)) = true) (hline : (apos.endLine == pos.line) = true) :
    eval (.Call (.Attribute o m apos) args [] pos) env = (do
      let ov ← eval o env
      standAt apos.atName
      let (f, first) ← holding [ov] (getMethod ov m (do return (← importBound o env).getD true))
      callWith pos f first (backTo pos (starEach args env)) (backToKw pos (keywordEach [] env))) := by
  refine L2.mcall_of hb fun ov => ?_
  unfold methodCall calleeOf methodCallPos
  rw [hform, hline]
  simp only [if_true, Bool.not_true, Bool.false_or, pure_bind]
section
variable {X : L2.Cx} {e : Expr} {es : List Expr} {ta : L2.TA} {b : Str} {B : Addr} {p1 p2 pos : Pos}
theorem pe_oinit {pl : Sem Bool} (T : OwnB X.K B) (hg : L2.Gl X b) (hm : X.mg b = some (.ref B)) (hdb : (b == ("__debug__" : Str)) = false) (ha : L2.PA X (e :: es) ta)
    (hc : eval (.Call (.Attribute (.Name b p1) "__init__" p2) (e :: es) [] pos) X.env = (do
      let ov ← eval (.Name b p1) X.env
      standAt p2.atName
      let (f, first) ← holding [ov] (getMethod ov "__init__" pl)
      callWith pos f first (backTo pos (starEach (e :: es) X.env)) (backToKw pos (keywordEach [] X.env))))
    (he : starEach (e :: es) X.env = (false, eval e X.env) :: starEach es X.env) (hpl : (backTo pos (starEach es X.env)).any (·.1) = false) :
    L2.PE X (.Call (.Attribute (.Name b p1) "__init__" p2) (e :: es) [] pos) (L2.tVeI X.K ta) := by
  refine ⟨fun pins s σ H Q I h => ?_⟩
  refine PySem.W.methodCall_KW (L2.ld_glob I hg hm ?_ hdb) hc
  refine PySem.W.method_cls I.kIn T.ga (PySem.W.cls_value I.kIn T.rd T.at_ (by decide +kernel) ?_)
  show wpAny _ _ (callWith pos (Value.builtin "ValueError.__init__") [] (backTo pos (starEach (e :: es) X.env)) []) _ _ _
  refine PyProof.Rows.callWith_method1 (L2.thn (ha.run pos pins _ σ H _ (I.tok _) h) fun us s1 ⟨vs, H1, I1, r1, a, C, ws, ev, hl, T, ea, q⟩ => ?_) he hpl
  subst ev
  cases r1 with
  | @cons _ u0 _ ur ra rw' =>
    obtain rfl : u0 = Value.ref a := ra
    have hlen : ur.length ≤ sizeLine := by
      rw [← Paired.length rw', sizeLine_eq]
      omega
    exact L2.oinit_ok T I1 ea hlen fun s' J => ⟨.non, H1, J, rfl, q⟩
end
/-- what a class's __init__ does -/
def spI (C : Addr) (f : Str) : L2.Sp := fun vs H Q _ => ∃ a y, vs = [.ref a, y] ∧ H a = some (L2.exo a C none) ∧ ∀ dx, H dx = none → dx ≠ a → Q .non (L2.upd (L2.upd H dx (L2.exd dx [(f, y)])) a (L2.exo a C (some dx)))
theorem ok_init {P : Program} {w : World} {K : PySem.W.Frag} {mg : Str → Option Value} {base : Heap} {nm qual : Str} {params : Arguments} {scope : Scope} {dvs : List L2.V} {kws : List (Str × L2.V)} {f : Addr} {fd : FuncData} {b s v g msg : Str} {C B : Addr} {p1 p2 p3 p4 p5 p6 p7 p8 p9 p10 : Pos} {j : Nat} (hline : (p2.endLine == p5.line) = true)
    (F : L2.FunD K nm qual params [.Expr (.Call (.Attribute (.Name b p1) "__init__" p2) [.Name s p3, .Constant (.str msg) j p4] [] p5) p6, .Assign [.Attribute (.Name s p7) g p8] (.Name v p9) p10] scope dvs kws f fd)
    (S : L2.FnScope [s, v] [s, v] scope) (T : OwnB K B) (hm : mg b = some (.ref B)) (TC : L2.OexC K C) (hno : PySem.W.findIn K (.ref C) g = some none) (hgb : scope.names.lookup b = some .globalImplicit)
    (hs : scope.names.lookup s = some .local) (hv : scope.names.lookup v = some .local) (hd : (b == ("__debug__" : Str)) = false ∧ (b != ("super" : Str)) = true ∧ (s == ("__debug__" : Str)) = false ∧ (s == ("__classdict__" : Str)) = false ∧ (v == ("__debug__" : Str)) = false ∧ (v == ("__classdict__" : Str)) = false) :
    L2.FnOk P w K mg base (L2.CX P w) 1 f fd [s, v] (spI C g) := by
  refine F.ok S (fun vs H Q E h => ?_) (fun cdv A outer st H vs Q E hr h => ⟨L2.tSeq (L2.tDrop (L2.tVeI K (L2.tCons (L2.tVar 0) (L2.tCons (L2.tC (.str msg)) L2.tNil)))) (L2.tOst K g (L2.tVar 0) (L2.tVar 1)), ?_, ?_⟩)
  · obtain ⟨a, y, rfl, _⟩ := h
    rfl
  · refine L2.pss_cons (L2.ps_expr (pe_oinit T hgb hm hd.1 (L2.pa_cons (L2.pe_var (i := 0) rfl (.inl hs) hd.2.2.1 hd.2.2.2.1) (L2.pa_cons L2.pe_str L2.pa_nil rfl) rfl) (mcall_plain rfl rfl hline) rfl rfl)) (L2.pss_one (L2.ps_ost (L2.pe_var (i := 0) rfl (.inl hs) hd.2.2.1 hd.2.2.2.1) (L2.pe_var (i := 1) rfl (.inl hv) hd.2.2.2.2.1 hd.2.2.2.2.2)))
  · obtain ⟨a, y, rfl, ha, q⟩ := h
    refine ⟨_, rfl, a, C, [.str msg], rfl, (by show 1 ≤ 1000; decide), TC, ha, ?_⟩
    exact ⟨_, rfl, _, rfl, a, C, rfl, TC, hno, .inl ⟨ha, fun dx n ne => q dx n ne⟩⟩

/-- the class with the number c may be raised by the name x -/
structure Rai (X : L2.Cx) (C : Cfg) (c : Nat) (x : Str) : Prop where
  mg : X.mg x = some (.ref (C.cls c))
  oex : L2.OexC X.K (C.cls c)
  ex : ∃ (k : Nat) (fI : Addr) (fd : FuncData) (ps : List Str), PySem.W.findIn X.K (.ref (C.cls c)) "__init__" = some (some (.ref fI)) ∧ PySem.W.typeIn X.K (.ref fI) = some (.type "function") ∧
    L2.FnOk X.prog X.w X.K X.mg X.base (L2.CX X.prog X.w) k fI fd ps (spI (C.cls c) (C.fld c)) ∧ L2.Room (k + 1) X.A ∧ L2.Binds X.K fd ps []
section
variable {X : L2.Cx} {C : Cfg} {cf : Nat → List D → M D} {W : L2.WX} {pos : Pos} {c : Nat} {x : Str} {e : Expr} {ce : E} {p cp : Pos}
theorem z_raise (r : Rai X C c x) (hc : X.calm = true) (tk : L2.Takes X W) (hg : L2.Gl X x) (hdb : (x == ("__debug__" : Str)) = false) (ha : L2.PE X e (rE C W (evE cf ce))) (he : starEach [e] X.env = (false, eval e X.env) :: starEach [] X.env) :
    L2.PS X (.Raise (some (.Call (.Name x p) [e] [] cp)) none pos) (rS C W (evS cf (.raise c ce))) := by
  obtain ⟨k, fI, fd, ps, iC, tI, F1, hr, hb⟩ := r.ex
  refine ps_imp (L2.ps_raise hc tk (L2.pmk_oex (dvs := []) (ds := []) r.oex iC tI F1 hr hb .nil (fun _ _ _ _ _ _ _ h => ?_) hg r.mg (L2.pa_cons ha L2.pa_nil he) hdb he rfl)) fun D σ H ⟨Z, ι, L, ρ, S, E, h⟩ => ?_
  · obtain ⟨_, _, _, _, _, _, _, _, _, _, _, _, z⟩ := h
    exact z.elim
  · simp only [evS] at h
    refine thenG S E h fun d L1 ι1 H1 v s1 e1 ex1 rx h1 => ⟨by show 1 ≤ 1000; decide, fun a ha => ⟨a, v, rfl, L2.upd_same, fun dx hdx hne => ⟨rfl, dx, [(C.fld c, v)], L2.upd_same, ?_, ?_, ?_⟩⟩⟩
    · rw [L2.upd_ne hne, L2.upd_same]
    · rw [L2.upd_ne hne] at hdx
      exact hdx
    · have hdx' : H1 dx = none := by rw [L2.upd_ne hne] at hdx; exact hdx
      have eH : L2.upd (L2.del (L2.upd (L2.upd (L2.upd H1 a (L2.exo a (C.cls c) none)) dx (L2.exd dx [(C.fld c, v)])) a (L2.exo a (C.cls c) (some dx))) a) dx (.xd [(C.fld c, v)]) = L2.upd H1 dx (.xd [(C.fld c, v)]) := by
        funext b
        by_cases hb : b = dx
        · rw [hb, L2.upd_same, L2.upd_same]
        · rw [L2.upd_ne hb, L2.upd_ne hb]
          by_cases hba : b = a
          · rw [hba, L2.del_same, ha]
          · rw [L2.del_ne hba, L2.upd_ne hba, L2.upd_ne hb, L2.upd_ne hba]
      rw [eH]
      exact h1 v σ ι1 _ dx (ex_upd hdx') (s1.upd hdx') (e1.mono (ex_upd hdx')) (RV.mono (ex_upd hdx') _ _ rx) L2.upd_same
end
end EV
end

section
set_option maxHeartbeats 2000000
set_option autoImplicit false
/-! Exceptions as values: made by C(x), C(k = x), C(); isinstance, fields, str. -/
namespace PySem
namespace XV
open Builtin Builtin.ObjectAttr HandSPX
section
variable {M : Model} {A : Around} {E : Value → Shared → Prop} {h : Heap} {g : Array GenState} {d : Drawn} {t : Nat} {os : OsState}
variable {nm q : Str} {C N : Addr} {bs bm bmB : List Value} {hdct : Bool} {sn : List Str} {sub : List Value} {ab : Bool} {col : Option Bool} {dd : Option Addr} {k0 k1 k2 k3 k5 : Option Value} {B newId initId : String}
/-- C(k = v): the look at BaseException.__new__'s arguments -/
theorem newCheckK (F : ExcBaseFacts B newId initId bmB) (hT : ∀ X : String, bm.contains (.type X) = bmB.contains (.type X)) {k : Str} {v : Value} {Q : Unit → Shared → Prop}
    (hC : h.get? C = some (excClassObj nm q C N bs bm hdct sn sub ab col dd k0 k1 k2 k3 k5 newId)) (hq : Q () ⟨h, g, d, t, os⟩) : wpAny M A (checkBuiltinCall newId ⟨[.ref C], [(k, v)]⟩) Q E ⟨h, g, d, t, os⟩ := by
  have c0 : (Value.ref C :: bm).contains (.type B) = true := by
    rw [List.contains_cons, hT B, F.hasB]; exact Bool.or_true _
  have c1 := F.noStar
  simp only [checkBuiltinCall, F.newKind, F.newSplit, F.newRow]
  repeat (first
    | refine wpAny_loadPart_at hC ?_
    | (refine wpAny_isSubtype_exc hC ?_; rw [c0])
    | refine wpAny_staticBase_exc hC ?_
    | refine wpAny_madeBy_exc hC ?_
    | simp only [bne_self_eq_false, Bool.false_eq_true, if_false]
    | wp_step)
  exact hq
end
section
variable {prog : Program} {w : World} {A : Around} {E : Value → Shared → Prop} {R : Result → Shared → Prop} {h : Heap} {g : Array GenState} {d : Drawn} {t : Nat} {os : OsState}
variable {nm q : Str} {C N : Addr} {bs bm bmB : List Value} {hdct : Bool} {sn : List Str} {sub : List Value} {ab : Bool} {col : Option Bool} {dd : Option Addr} {k0 k1 k2 k3 k5 : Option Value} {B newId initId : String} {k : Str} {v : Value}
/-- BaseException.__new__(C, k = v): no args are kept -/
theorem newK (F : ExcBaseFacts B newId initId bmB) (hT : ∀ X : String, bm.contains (.type X) = bmB.contains (.type X))
    (hC : h.get? C = some (excClassObj nm q C N bs bm hdct sn sub ab col dd k0 k1 k2 k3 k5 newId))
    (hq : R (.ok (.ret (.ref (h.objs.size + 1)))) ⟨(h.push (W.kdv_tup [])).push (excO C h.objs.size), g, d, t, os⟩) :
    codeAny (model prog w) A (.builtin newId ⟨[.ref C], [(k, v)]⟩) R ⟨h, g, d, t, os⟩ := by
  have e0 := F.ends
  have b0 : (Value.ref C :: bm).contains (.type B) = true := by
    rw [List.contains_cons, hT B, F.hasB]; exact Bool.or_true _
  have b1 : (Value.ref C :: bm).contains (.type "AttributeError") = false := by
    rw [List.contains_cons, hT _, F.noAttr]; rfl
  have b2 : (Value.ref C :: bm).contains (.type "NameError") = false := by
    rw [List.contains_cons, hT _, F.noName]; rfl
  refine codeAny_builtinAt F.entry ?_
  unfold Builtin.«BaseException.__new__»
  refine wpAt_bind ?_
  show wpAt _ _ _ (stack >>= _) _ _ _
  refine wpAt_bind (wpAt_stack fun _ _ => wpAt_of_wpAny ?_)
  wp_walk
  refine wpAt_of_wpAny ?_
  rw [F.owner]
  repeat (first
    | with_reducible refine wpAny_madeHere_exc F.canon hC ?_
    | with_reducible refine wpAny_loadPart_at hC ?_
    | (with_reducible refine wpAny_isSubtype_exc hC ?_; first | rw [b0] | rw [b1] | rw [b2])
    | wp_step)
  show R _ _
  rw [Heap.size_push]
  exact hq
theorem typeCallK (F : ExcBaseFacts B newId initId bmB) (hT : ∀ X : String, bm.contains (.type X) = bmB.contains (.type X)) {fI : Addr} {Q : Fin → Shared → Prop}
    (hC : h.get? C = some (excClassObj nm q C N bs bm hdct sn sub ab col dd k0 k1 k2 k3 k5 newId))
    (hi : W.Looks (model prog w) h (typeLookup (.ref C) "__init__") (some (.ref fI))) (hb : ∀ self, W.Looks (model prog w) h (bindSpecial (.ref fI) self) (.ref fI, [self]))
    (hq : codeAny (model prog w) A (.call (.ref fI) ⟨[.ref (h.objs.size + 1)], [(k, v)]⟩)
      (fun r s' => match r with | .ok (.ret v) => v = .none ∧ Q (.done (.ret (.ref (h.objs.size + 1)))) s' | .ok _ => False | .error e => E e s')
      ⟨(h.push (W.kdv_tup [])).push (excO C h.objs.size), g, d, t, os⟩) :
    wpAny (model prog w) A (Builtin.«type.__call__» ⟨[.ref C], [(k, v)]⟩) Q E ⟨h, g, d, t, os⟩ := by
  repeat (first
    | with_reducible refine wpAny_loadPart_at hC ?_
    | with_reducible refine wpAny_madeBy_exc hC ?_
    | wp_step)
  refine codeAny_call_builtin_code (Code.quiet_builtin _ F.quiet) (newCheckK F hT hC (newK F hT hC ?_))
  show wpAny _ _ _ _ _ _
  have up : ∀ b o, h.get? b = some o → ((h.push (W.kdv_tup [])).push (excO C h.objs.size)).get? b = some o := fun b o z => Heap.get?_push_of_some _ (Heap.get?_push_of_some _ z)
  have c1 := up _ _ hC
  have at1 : ((h.push (W.kdv_tup [])).push (excO C h.objs.size)).get? (h.objs.size + 1) = some (excO C h.objs.size) := by heap_get
  have self1 : (Value.ref C :: bm).contains (.ref C) = true := by simp
  have look1 := hi.keeps up
  have bind1 := (hb (.ref (h.objs.size + 1))).keeps up
  unfold isInstance
  repeat (first
    | with_reducible refine wpAny_loadPart_at at1 ?_
    | (with_reducible refine wpAny_isSubtype_exc c1 ?_; rw [self1])
    | wp_step)
  show wpAny _ _ (typeLookup (.ref C) _) _ _ _
  refine look1.at (wpAny_holding (wpAny_bind (bind1.at ?_)))
  refine wpAny_bind (wpAny_call (codeAny_mono hq fun r s' z => ?_))
  rcases r with e | (u | _ | _ | _) <;> first | exact z | exact z.elim | skip
  obtain ⟨rfl, z⟩ := z
  first
    | exact wpAny_pure (wpAny_pure z)
    | (wp_walk; exact z)
/-- C(k = v), C's own __init__ a def -/
theorem callK (F : ExcBaseFacts B newId initId bmB) (hT : ∀ X : String, bm.contains (.type X) = bmB.contains (.type X)) {fI : Addr}
    (hC : h.get? C = some (excClassObj nm q C N bs bm hdct sn sub ab col dd k0 k1 k2 k3 k5 newId))
    (hi : W.Looks (model prog w) h (typeLookup (.ref C) "__init__") (some (.ref fI))) (hb : ∀ self, W.Looks (model prog w) h (bindSpecial (.ref fI) self) (.ref fI, [self]))
    (hq : codeAny (model prog w) (A.under (.builtin "type.__call__" ⟨[.ref C], [(k, v)]⟩)) (.call (.ref fI) ⟨[.ref (h.objs.size + 1)], [(k, v)]⟩) (W.InitBack (h.objs.size + 1) R)
      ⟨(h.push (W.kdv_tup [])).push (excO C h.objs.size), g, d, t, os⟩) :
    codeAny (model prog w) A (.call (.ref C) ⟨[], [(k, v)]⟩) R ⟨h, g, d, t, os⟩ := by
  have l1 := tc_lookup
  have l2 := tc_bind (.ref C)
  have ty : (⟨h, g, d, t, os⟩ : Shared).TypeIs (.ref C) "type" := ⟨_, hC, rfl⟩
  refine codeAny_of_tree ?_
  show wpAny _ _ (callAny (.ref C) _) _ _ _
  repeat (any_goals (first
    | assumption
    | with_reducible refine wpAny_loadPart_at hC ?_
    | wp_step))
  refine ⟨rfl, codeAny_call_builtin_at (Code.quiet_builtin _ (by decide +kernel)) entry_typeCall (wpAny_check_type_call_sub hC (typeCallK F hT hC hi hb (codeAny_mono hq fun r s' z => ?_)))⟩
  rcases r with e | (u | _ | _ | _) <;> exact z
/-- B.__init__(e, msg): the args are laid anew, and known -/
theorem initT (F : ExcBaseFacts B newId initId bmB) (hT : ∀ X : String, bm.contains (.type X) = bmB.contains (.type X)) {e t0 : Addr} {rest : List Value}
    (hC : h.get? C = some (excClassObj nm q C N bs bm hdct sn sub ab col dd k0 k1 k2 k3 k5 newId)) (he : h.get? e = some (excO C t0)) (hrest : rest.length ≤ sizeLine)
    (hq : ∀ h', (∀ b o, b ≠ e → h.get? b = some o → h'.get? b = some o) → h'.get? e = some (excO C h.objs.size) → h'.get? h.objs.size = some (W.kdv_tup rest) → R (.ok (.ret .none)) ⟨h', g, d, t, os⟩) :
    codeAny (model prog w) A (.call (.builtin initId) ⟨.ref e :: rest, []⟩) R ⟨h, g, d, t, os⟩ := by
  have ne : e ≠ h.objs.size := Nat.ne_of_lt (Heap.lt_size he)
  refine codeAny_call_builtin F.init.plain F.initEntry (check_init_own F hT hC he rfl ?_)
  wp_walk
  refine hq _ (fun b o hb ho => ?_) ?_ ?_
  · rw [Heap.get?_update_other _ _ (Ne.symm hb)]
    exact Heap.get?_push_of_some _ ho
  · rw [Heap.get?_update_self _ (Heap.get?_push_of_some _ he) rfl]
    rfl
  · rw [Heap.get?_update_other _ _ ne]
    exact Heap.get?_push_at rfl rfl
end
end XV
end PySem
end

section
set_option maxHeartbeats 2000000
set_option autoImplicit false
/-! Exceptions as values, over the tracked heap. -/
namespace EV
open PySem PySem.Spec PyProof.Rows
theorem xvo_ok {P : Program} {w : World} {H : L2.Hp} {h : Heap} {e C t : Addr} {d : Option Addr} (he : h.get? e = some (exOb C t d)) : L2.ObjOk P w H h e (xvo e C d t) := ⟨he, ⟨_, he⟩, fun _ _ z k => k _ z⟩
theorem xvo_at {P : Program} {w : World} {H : L2.Hp} {h : Heap} {e C t : Addr} {d : Option Addr} (hok : L2.HOk P w H h) (he : H e = some (xvo e C d t)) : h.get? e = some (exOb C t d) := by
  have x : L2.ObjOk P w H h e (.ext fun h => h.get? e = some (exOb C t d)) := hok e _ he
  exact x.1
/-- what the written part says of an own exception class over the built-in B -/
structure XvC (K : PySem.W.Frag) (C : Addr) (B newId initId : String) (bmB : List Value) : Prop where
  F : ExcBaseFacts B newId initId bmB
  S : StoreFacts B bmB "object.__setattr__" "object"
  ini : PySem.W.excInitIn K C bmB newId = true
  ovr : PySem.W.excOver K C bmB = true
  dct : PySem.W.hasDictIn K C = true
  sa : PySem.W.findIn K (.ref C) "__setattr__" = some (some (.builtin "object.__setattr__"))
  kC : PySem.W.keepIn K (.ref C) = true
section
variable {X : L2.Cx} {pins : List (Addr × Obj)} {σ : L2.St} {H : L2.Hp} {a n : Addr} {φ : Heap → Prop} {o1 o2 : L2.HO}
/-- an exception is written, a new thing laid -/
theorem inv_two {hp h' : Heap} {g : Array GenState} {d : Drawn} {t t' : Nat} {os : OsState} (I : L2.Inv X pins σ H ⟨hp, g, d, t, os⟩) (e : H a = some (.ext φ)) (kk : ∀ b o, b ≠ a → hp.get? b = some o → h'.get? b = some o) (hx : ∃ o, h'.get? a = some o) (hn : hp.objs.size ≤ n) (hna : n ≠ a)
    (ok1 : L2.ObjOk X.prog X.w (L2.upd (L2.upd H n o1) a o2) h' n o1) (ok2 : L2.ObjOk X.prog X.w (L2.upd (L2.upd H n o1) a o2) h' a o2) : L2.Inv X pins σ (L2.upd (L2.upd H n o1) a o2) ⟨h', g, d, t', os⟩ := by
  have Hn : H n = none := I.hok.fresh hn
  have old : ∀ {b : Addr} {o : Obj}, hp.get? b = some o → b ≠ n := fun z => Nat.ne_of_lt (Nat.lt_of_lt_of_le (Heap.lt_size z) hn)
  have un : ∀ {b : Addr}, H b = none → b ≠ a := fun z q => by rw [q, e] at z; cases z
  have other : ∀ {b : Addr} {u : L2.HO}, H b = some u → (∀ ψ, u ≠ .ext ψ) → L2.upd (L2.upd H n o1) a o2 b = some u := fun {b u} z w => by
    have h1 : b ≠ a := fun q => by rw [q, e] at z; exact w φ (Option.some.inj z).symm
    have h2 : b ≠ n := fun q => by rw [q, Hn] at z; cases z
    rw [L2.upd_ne h1, L2.upd_ne h2, z]
  refine I.un (t' := t') ⟨fun b o z q _ _ => kk b o (un q) z, fun b o z q _ _ => ⟨o.slots, kk b o (un q) z⟩, fun b o z q _ => by rw [L2.upd_ne (un q), L2.upd_ne (old z), q], fun b o z _ => ?_, fun b xs z => other z (fun _ q => by cases q), fun b o u z => other z (fun _ q => by cases q), fun b ps z => ⟨#[], by rw [other z (fun _ q => by cases q)]; simp⟩⟩ fun b o z => ?_
  · by_cases q : b = a
    · exact q ▸ hx
    · exact ⟨o, kk b o q z⟩
  · by_cases q : b = a
    · subst q
      rw [L2.upd_same] at z
      cases z
      exact ok2
    · rw [L2.upd_ne q] at z
      by_cases q2 : b = n
      · subst q2
        rw [L2.upd_same] at z
        cases z
        exact ok1
      · rw [L2.upd_ne q2] at z
        refine (I.hok b o z).stay (fun c v hc y => kk c v (fun qa => ?_) y) (fun c hc => other hc fun _ q => by cases q) fun c xs hc => other hc fun _ q => by cases q
        rcases hc with hc | hc
        · exact q (hc ▸ qa)
        · rw [qa, e] at hc
          cases hc

section
variable {s : Shared} {C dx t0 : Addr} {f : Str} {y : L2.V} {u : Value} {Q : Unit → Shared → Prop} {E : Value → Shared → Prop} {A : Around} {B newId initId : String} {bmB : List Value}
/-- B.__init__(self, ..) -/
theorem xv_init {vs : List L2.V} {us : List Value} {Q : Value → Shared → Prop} (T : XvC X.K C B newId initId bmB) (I : L2.Inv X pins σ H s) (e : H a = some (L2.exo a C none)) (r : L2.Vals vs us) (hl : us.length ≤ sizeLine)
    (h : ∀ t s', H t = none → t ≠ a → L2.Inv X pins σ (L2.upd (L2.upd H t (.tup vs)) a (xvo a C none t)) s' → Q .none s') :
    wpAny (model X.prog X.w) A (call (.builtin initId) (.ref a :: us)) Q E s := by
  obtain ⟨nm, N, qn, bs, bm, hdct, sn, sub, ab, col, dd, k0, k1, k2, k3, k5, hC, hT⟩ := PySem.W.excInit_of I.kIn T.ini
  obtain ⟨t1, ho⟩ := L2.exo_at I.hok e
  obtain ⟨hp, g, d, t, os⟩ := s
  refine wpAny_call (PySem.XV.initT T.F hT hC ho hl fun h' kk hx ht => ?_)
  have na : hp.objs.size ≠ a := Nat.ne_of_gt (Heap.lt_size ho)
  exact h hp.objs.size _ (I.hok.fresh (Nat.le_refl _)) na (inv_two (t' := t) I e kk ⟨_, hx⟩ (Nat.le_refl _) na ⟨by rw [r.length]; exact hl, us, r, _, ht, rfl, _, rfl⟩ (xvo_ok hx))
/-- self.f = y -/
theorem xv_store (T : XvC X.K C B newId initId bmB) (I : L2.Inv X pins σ H s) (e : H a = some (xvo a C none t0)) (hno : PySem.W.takerIn X.K C f = some none) (ry : L2.RelV y u)
    (h : ∀ dx s', H dx = none → dx ≠ a → L2.Inv X pins σ (L2.upd (L2.upd H dx (L2.exd dx [(f, y)])) a (xvo a C (some dx) t0)) s' → Q () s') : wpAny (model X.prog X.w) A (setAttr (.ref a) f u) Q E s := by
  have ho := xvo_at I.hok e
  obtain ⟨hp, g, d, t, os⟩ := s
  have II : PySem.W.InstAt hp a (exOb C t0 none) C none := ⟨ho, rfl, rfl, trivial⟩
  refine PySem.W.set_plain I.kIn (ox := exOb C t0 none) (od := none) II T.sa ?_
  refine PySem.W.osa_openX (s := ⟨hp, g, d, t + 1, os⟩) (od := none) T.S I.kIn II T.ovr hno fun b => ?_
  obtain ⟨cd, hc, hd⟩ := PySem.W.any_some T.dct
  have lc : PySem.W.Looks (model X.prog X.w) hp (classData C) cd := PySem.W.looks_clsIn I.kIn hc
  have na : a ≠ hp.objs.size := Nat.ne_of_lt (Heap.lt_size ho)
  obtain ⟨c0, c1, c2, c3, c4, c5, c6, c7, c8, c9, c10⟩ := cd
  dsimp only at hd
  subst hd
  show wpAny _ _ (Builtin.ObjectAttr.storeInOwnDict (.ref a) (.ref C) (.str f _) f u b) _ _ _
  unfold Builtin.ObjectAttr.storeInOwnDict Builtin.ObjectAttr.ownDictForStores
  repeat (first
    | with_reducible refine PySem.HandSPX.store_in_new ?_ ?_
    | with_reducible refine wpAny_loadPart_at ho ?_
    | with_reducible refine lc.at ?_
    | wp_step)
  · exact ⟨_, #[], _, (Heap.get?_update_ne _ _ _ _ (Ne.symm na)).trans (Heap.get?_push_at rfl rfl), rfl, fun _ z => absurd z (by simp), fun _ => rfl⟩
  · intro h' tk' ns sb
    have pa : (hp.push { cls := .type "dict", data := .dict #[] }).get? a = some (exOb C t0 none) := Heap.get?_push_of_some _ ho
    have ha : h'.get? a = some (exOb C t0 (some hp.objs.size)) := (sb.2 a na).trans (Heap.get?_update_self _ pa rfl)
    refine h hp.objs.size _ (I.hok.fresh (Nat.le_refl _)) (Ne.symm na) (inv_two (t' := tk') I e (fun b o hb hbo => ?_) ⟨_, ha⟩ (Nat.le_refl _) (Ne.symm na) (L2.exd_ok ns (L2.relO_put (fs := []) ry fun _ => True.intro)) (xvo_ok ha))
    exact (sb.2 b (Nat.ne_of_lt (Heap.lt_size hbo))).trans ((Heap.get?_update_ne _ _ _ _ hb).trans (Heap.get?_push_of_some _ hbo))
end
end
end EV
end

section
set_option maxHeartbeats 2000000
set_option autoImplicit false
/-! Exceptions as values: the rules. -/
namespace EV
open PySem PySem.Spec PyProof.Rows
theorem typ_LE : typeOf (.type "LookupError") = pure (.type "type") := by kernel_rfl
theorem typ_OE : typeOf (.type "OverflowError") = pure (.type "type") := by kernel_rfl
/-- B.__init__(self, ..): the args are known -/
def tXi (K : PySem.W.Frag) (newId initId B : String) (bmB : List Value) (ta : L2.TA) : L2.TE := fun σ H Q => ta σ H fun vs H1 => ∃ (a C : Addr) (ws : List L2.V), vs = .ref a :: ws ∧ ws.length ≤ 1000 ∧ XvC K C B newId initId bmB ∧ H1 a = some (L2.exo a C none) ∧
  ∀ t, H1 t = none → t ≠ a → Q .non (L2.upd (L2.upd H1 t (.tup ws)) a (xvo a C none t))
/-- self.f = e, the first -/
def tXs (K : PySem.W.Frag) (newId initId B : String) (bmB : List Value) (f : Str) (to te : L2.TE) : L2.TS := fun D σ H => te σ H fun y H1 => to σ H1 fun x H2 => ∃ a C t : Addr, x = .ref a ∧ XvC K C B newId initId bmB ∧ PySem.W.takerIn K C f = some none ∧
  H2 a = some (xvo a C none t) ∧ ∀ dx, H2 dx = none → dx ≠ a → D.nx σ (L2.upd (L2.upd H2 dx (L2.exd dx [(f, y)])) a (xvo a C (some dx) t))
section
variable {X : L2.Cx} {o e : Expr} {es : List Expr} {to te : L2.TE} {ta : L2.TA} {b f : Str} {Bc : Addr} {p p' p1 p2 pos : Pos} {B newId initId : String} {bmB : List Value}
theorem xi_end {pins : List (Addr × Obj)} {σ : L2.St} {s1 : Shared} {H1 : L2.Hp} {Q : L2.VK} {us : List Value} {vs : List L2.V} (I1 : L2.Inv X pins σ H1 s1) (r1 : L2.Vals vs us)
    (h : ∃ (a C : Addr) (ws : List L2.V), vs = .ref a :: ws ∧ ws.length ≤ 1000 ∧ XvC X.K C B newId initId bmB ∧ H1 a = some (L2.exo a C none) ∧ ∀ t, H1 t = none → t ≠ a → Q .non (L2.upd (L2.upd H1 t (.tup ws)) a (xvo a C none t))) :
    wpAny (model X.prog X.w) X.A (call (.builtin initId) us) (L2.EP X pins σ Q) X.xe s1 := by
  obtain ⟨a, C, ws, rfl, hl, T, ea, q⟩ := h
  cases r1 with
  | @cons _ u0 _ ur ra rw' =>
    obtain rfl : u0 = Value.ref a := ra
    exact xv_init T I1 ea rw' (by rw [← rw'.length, sizeLine_eq]; omega) fun t s' n ne J => ⟨.non, _, J, rfl, q t n ne⟩
theorem pe_xiOwn {pl : Sem Bool} (rd : PySem.W.readsIn X.K Bc (.type "type") = true) (at_ : PySem.W.findCls X.K (.ref Bc) (.type "type") "__init__" = some (.val (.builtin initId))) (ga : PySem.W.specialIn X.K (.ref Bc) "__getattribute__" = some (some (.builtin "type.__getattribute__")))
    (hd : PySem.W.handedIn (.builtin initId) = true) (hg : L2.Gl X b) (hm : X.mg b = some (.ref Bc)) (hdb : (b == ("__debug__" : Str)) = false) (ha : L2.PA X (e :: es) ta)
    (hc : eval (.Call (.Attribute (.Name b p1) "__init__" p2) (e :: es) [] pos) X.env = (do
      let ov ← eval (.Name b p1) X.env
      standAt p2.atName
      let (f, first) ← holding [ov] (getMethod ov "__init__" pl)
      callWith pos f first (backTo pos (starEach (e :: es) X.env)) (backToKw pos (keywordEach [] X.env))))
    (he : starEach (e :: es) X.env = (false, eval e X.env) :: starEach es X.env) (hpl : (backTo pos (starEach es X.env)).any (·.1) = false) :
    L2.PE X (.Call (.Attribute (.Name b p1) "__init__" p2) (e :: es) [] pos) (tXi X.K newId initId B bmB ta) := by
  refine ⟨fun pins s σ H Q I h => ?_⟩
  refine PySem.W.methodCall_KW (L2.ld_glob I hg hm ?_ hdb) hc
  refine PySem.W.method_cls I.kIn ga (PySem.W.cls_value I.kIn rd at_ hd ?_)
  show wpAny _ _ (callWith pos (Value.builtin initId) [] (backTo pos (starEach (e :: es) X.env)) []) _ _ _
  exact PyProof.Rows.callWith_method1 (L2.thn (ha.run pos pins _ σ H _ (I.tok _) h) fun us s1 ⟨vs, H1, I1, r1, q⟩ => xi_end I1 r1 q) he hpl
theorem pe_xiLookupError {pl : Sem Bool} (hg : L2.Gl X "LookupError") (hm : X.mg "LookupError" = none) (vV : PySem.W.findCls X.K (.type "LookupError") (.type "type") "__init__" = some (.val (.builtin "LookupError.__init__"))) (ha : L2.PA X (e :: es) ta)
    (hc : eval (.Call (.Attribute (.Name "LookupError" p1) "__init__" p2) (e :: es) [] pos) X.env = (do
      let ov ← eval (.Name "LookupError" p1) X.env
      standAt p2.atName
      let (f, first) ← holding [ov] (getMethod ov "__init__" pl)
      callWith pos f first (backTo pos (starEach (e :: es) X.env)) (backToKw pos (keywordEach [] X.env))))
    (he : starEach (e :: es) X.env = (false, eval e X.env) :: starEach es X.env) (hpl : (backTo pos (starEach es X.env)).any (·.1) = false) :
    L2.PE X (.Call (.Attribute (.Name "LookupError" p1) "__init__" p2) (e :: es) [] pos) (tXi X.K newId "LookupError.__init__" B bmB ta) := by
  refine ⟨fun pins s σ H Q I h => ?_⟩
  refine PySem.W.methodCall_KW (L2.ld_blt I hg hm PyProof.Rows.Boot.«LookupError» ?_ (by decide) (by decide)) hc
  obtain ⟨m, fr⟩ := I.fr
  refine PySem.W.method_type fr I.ok.mod.kin typ_LE (by decide +kernel) vV (by decide +kernel) ?_
  show wpAny _ _ (callWith pos (Value.builtin "LookupError.__init__") [] (backTo pos (starEach (e :: es) X.env)) []) _ _ _
  exact PyProof.Rows.callWith_method1 (L2.thn (ha.run pos pins _ σ H _ (I.tok _) h) fun us s1 ⟨vs, H1, I1, r1, q⟩ => xi_end I1 r1 q) he hpl
theorem pe_xiOverflowError {pl : Sem Bool} (hg : L2.Gl X "OverflowError") (hm : X.mg "OverflowError" = none) (vV : PySem.W.findCls X.K (.type "OverflowError") (.type "type") "__init__" = some (.val (.builtin "OverflowError.__init__"))) (ha : L2.PA X (e :: es) ta)
    (hc : eval (.Call (.Attribute (.Name "OverflowError" p1) "__init__" p2) (e :: es) [] pos) X.env = (do
      let ov ← eval (.Name "OverflowError" p1) X.env
      standAt p2.atName
      let (f, first) ← holding [ov] (getMethod ov "__init__" pl)
      callWith pos f first (backTo pos (starEach (e :: es) X.env)) (backToKw pos (keywordEach [] X.env))))
    (he : starEach (e :: es) X.env = (false, eval e X.env) :: starEach es X.env) (hpl : (backTo pos (starEach es X.env)).any (·.1) = false) :
    L2.PE X (.Call (.Attribute (.Name "OverflowError" p1) "__init__" p2) (e :: es) [] pos) (tXi X.K newId "OverflowError.__init__" B bmB ta) := by
  refine ⟨fun pins s σ H Q I h => ?_⟩
  refine PySem.W.methodCall_KW (L2.ld_blt I hg hm PyProof.Rows.Boot.«OverflowError» ?_ (by decide) (by decide)) hc
  obtain ⟨m, fr⟩ := I.fr
  refine PySem.W.method_type fr I.ok.mod.kin typ_OE (by decide +kernel) vV (by decide +kernel) ?_
  show wpAny _ _ (callWith pos (Value.builtin "OverflowError.__init__") [] (backTo pos (starEach (e :: es) X.env)) []) _ _ _
  exact PyProof.Rows.callWith_method1 (L2.thn (ha.run pos pins _ σ H _ (I.tok _) h) fun us s1 ⟨vs, H1, I1, r1, q⟩ => xi_end I1 r1 q) he hpl
theorem ps_xs (ho : L2.PE X o to) (he : L2.PE X e te) (hs : swapsWith e (some (.Attribute o f p')) pos.line X.env = pure false := by rfl) : L2.PS X (.Assign [.Attribute o f p'] e pos) (tXs X.K newId initId B bmB f to te) := by
  refine ⟨fun pins s σ H D I h => ?_⟩
  refine plainObj_wpAny_Assign_Attribute (L2.thn (he.run pins s σ H _ I h) fun v s1 ⟨y, H1, I1, r1, q1⟩ => L2.thn (ho.run pins s1 σ H1 _ I1 q1) fun u s2 ⟨x, H2, I2, r2, a, C, t, ex, T, hno, ea, q⟩ => ?_) hs
  subst ex
  obtain rfl : u = Value.ref a := r2
  exact xv_store T I2 ea hno r1 fun dx s' n ne J => ⟨σ, _, J, q dx n ne⟩
end
/-- what such an __init__ does: the args, the dict -/
def spX (C : Addr) (f msg : Str) : L2.Sp := fun vs H Q _ => ∃ a y, vs = [.ref a, y] ∧ H a = some (L2.exo a C none) ∧
  ∀ t dx, H t = none → H dx = none → t ≠ a → dx ≠ a → dx ≠ t → Q .non (L2.upd (L2.upd (L2.upd H t (.tup [.str msg])) dx (L2.exd dx [(f, y)])) a (xvo a C (some dx) t))
theorem xinit_run {Q : L2.VK} {H : L2.Hp} {C a : Addr} {f msg : Str} {y : L2.V} (q : ∀ t dx, H t = none → H dx = none → t ≠ a → dx ≠ a → dx ≠ t → Q .non (L2.upd (L2.upd (L2.upd H t (.tup [.str msg])) dx (L2.exd dx [(f, y)])) a (xvo a C (some dx) t))) {t dx : Addr} (ht : H t = none) (hta : t ≠ a)
    (hd : L2.upd (L2.upd H t (.tup [.str msg])) a (xvo a C none t) dx = none) (hda : dx ≠ a) : Q .non (L2.upd (L2.upd (L2.upd (L2.upd H t (.tup [.str msg])) a (xvo a C none t)) dx (L2.exd dx [(f, y)])) a (xvo a C (some dx) t)) := by
  rw [L2.upd_ne hda] at hd
  have hdt : dx ≠ t := fun z => by rw [z, L2.upd_same] at hd; cases hd
  rw [L2.upd_ne hdt] at hd
  have := q t dx ht hd hta hda hdt
  have e : L2.upd (L2.upd (L2.upd (L2.upd H t (.tup [.str msg])) a (xvo a C none t)) dx (L2.exd dx [(f, y)])) a (xvo a C (some dx) t) = L2.upd (L2.upd (L2.upd H t (.tup [.str msg])) dx (L2.exd dx [(f, y)])) a (xvo a C (some dx) t) := by
    funext b
    by_cases hb : b = a
    · rw [hb, L2.upd_same, L2.upd_same]
    · rw [L2.upd_ne hb, L2.upd_ne hb]
      by_cases hb2 : b = dx
      · rw [hb2, L2.upd_same, L2.upd_same]
      · rw [L2.upd_ne hb2, L2.upd_ne hb2, L2.upd_ne hb]
  rw [e]
  exact this
section
variable {P : Program} {w : World} {K : PySem.W.Frag} {mg : Str → Option Value} {base : Heap} {nm qual : Str} {params : Arguments} {scope : Scope} {dvs : List L2.V} {kws : List (Str × L2.V)} {fA : Addr} {fd : FuncData} {b s v g msg : Str} {C Bc : Addr} {p1 p2 p3 p4 p5 p6 p7 p8 p9 p10 : Pos} {j : Nat} {B newId initId : String} {bmB : List Value}
/-- __init__(self, v): b.__init__(self, msg); self.g = v -/
theorem ok_xinit (hi : ∀ (cdv : Value) (A : Around) (outer : List PySem.Env) (st : Shared) (H : L2.Hp) (E : L2.XK), L2.PE (L2.cxOf (L2.CX P w) P w K mg base [s, v] qual scope fA cdv A outer st H E) (.Call (.Attribute (.Name b p1) "__init__" p2) [.Name s p3, .Constant (.str msg) j p4] [] p5) (tXi K newId initId B bmB (L2.tCons (L2.tVar 0) (L2.tCons (L2.tC (.str msg)) L2.tNil))))
    (F : L2.FunD K nm qual params [.Expr (.Call (.Attribute (.Name b p1) "__init__" p2) [.Name s p3, .Constant (.str msg) j p4] [] p5) p6, .Assign [.Attribute (.Name s p7) g p8] (.Name v p9) p10] scope dvs kws fA fd)
    (S : L2.FnScope [s, v] [s, v] scope) (T : XvC K C B newId initId bmB) (hno : PySem.W.takerIn K C g = some none)
    (hs : scope.names.lookup s = some .local) (hv : scope.names.lookup v = some .local) (hd : (s == ("__debug__" : Str)) = false ∧ (s == ("__classdict__" : Str)) = false ∧ (v == ("__debug__" : Str)) = false ∧ (v == ("__classdict__" : Str)) = false) :
    L2.FnOk P w K mg base (L2.CX P w) 1 fA fd [s, v] (spX C g msg) := by
  refine F.ok S (fun vs H Q E h => ?_) (fun cdv A outer st H vs Q E hr h => ⟨L2.tSeq (L2.tDrop (tXi K newId initId B bmB (L2.tCons (L2.tVar 0) (L2.tCons (L2.tC (.str msg)) L2.tNil)))) (tXs K newId initId B bmB g (L2.tVar 0) (L2.tVar 1)), ?_, ?_⟩)
  · obtain ⟨a, y, rfl, _⟩ := h
    rfl
  · exact L2.pss_cons (L2.ps_expr (hi cdv A outer st H E)) (L2.pss_one (ps_xs (L2.pe_var (i := 0) rfl (.inl hs) hd.1 hd.2.1) (L2.pe_var (i := 1) rfl (.inl hv) hd.2.2.1 hd.2.2.2)))
  · obtain ⟨a, y, rfl, ha, q⟩ := h
    refine ⟨_, rfl, a, C, [.str msg], rfl, (by show 1 ≤ 1000; decide), T, ha, fun t ht hta => ?_⟩
    exact ⟨_, rfl, _, rfl, a, C, t, rfl, T, hno, L2.upd_same, fun dx hdx hda => xinit_run q ht hta hdx hda⟩
end
end EV
end

section
set_option maxHeartbeats 2000000
set_option autoImplicit false
/-! Exceptions as values: C(x), C(), C(k = x). -/
namespace EV
open PySem PySem.Spec PyProof.Rows
/-- C(e, ..) -/
def tXm (C : Addr) (sp : L2.Sp) (dvs : List L2.V) (ta : L2.TA) : L2.TE := fun σ H Q => ta σ H fun vs H1 => vs.length ≤ 1000 ∧ ∀ a, H1 a = none → sp (.ref a :: (vs ++ dvs)) (L2.upd H1 a (L2.exo a C none)) (fun v H2 => v = .non ∧ Q (.ref a) H2) (fun _ _ _ => False)
/-- C(k = e) -/
def tXk (C : Addr) (sp : L2.Sp) (gV : List L2.V → List L2.V → List L2.V) (tk : L2.TA) : L2.TE := fun σ H Q => tk σ H fun zs H1 => zs.length = 1 ∧ ∀ a, H1 a = none → sp (gV [.ref a] zs) (L2.upd H1 a (L2.exo a C none)) (fun v H2 => v = .non ∧ Q (.ref a) H2) (fun _ _ _ => False)
section
variable {X : L2.Cx} {e : Expr} {es : List Expr} {ta tk : L2.TA} {x kn : Str} {C fI : Addr} {p pos kp : Pos} {k : Nat} {CX : L2.CXT} {fd : FuncData} {ps : List Str} {sp : L2.Sp} {ds : List Value} {dvs : List L2.V} {B newId initId : String} {bmB : List Value} {g : List Value → List Value → List Value} {gV : List L2.V → List L2.V → List L2.V}
theorem run_xm {pins : List (Addr × Obj)} {σ : L2.St} {H1 : L2.Hp} {s1 : Shared} {Q : L2.VK} {us : List Value} {vs : List L2.V} (T : XvC X.K C B newId initId bmB) (iC : PySem.W.findIn X.K (.ref C) "__init__" = some (some (.ref fI))) (tI : PySem.W.typeIn X.K (.ref fI) = some (.type "function"))
    (F1 : L2.FnOk X.prog X.w X.K X.mg X.base CX k fI fd ps sp) (hr : L2.Room (k + 1) X.A) (hb : L2.Binds X.K fd ps ds) (hd : L2.Vals dvs ds) (hx : L2.Passes CX X (fun _ _ _ => False)) (I1 : L2.Inv X pins σ H1 s1) (r1 : L2.Vals vs us)
    (hz : vs.length ≤ 1000) (q1 : ∀ a, H1 a = none → sp (.ref a :: (vs ++ dvs)) (L2.upd H1 a (L2.exo a C none)) (fun v H2 => v = .non ∧ Q (.ref a) H2) (fun _ _ _ => False)) :
    wpAny (model X.prog X.w) X.A (call (.ref C) us) (L2.EP X pins σ Q) X.xe s1 := by
  obtain ⟨nm, N, qn, bs, bm, hdct, sn, sub, ab, col, dd, k0, k1, k2, k3, k5, hC, hT⟩ := PySem.W.excInit_of I1.kIn T.ini
  obtain ⟨hp, gn, dr, tk, os⟩ := s1
  have up1 : hp.objs.size ≤ hp.objs.size + 1 := Nat.le_succ _
  have hn : H1 (hp.objs.size + 1) = none := I1.hok.fresh up1
  have hq := q1 _ hn
  have kk : ∀ b o, hp.get? b = some o → ((hp.push (PySem.W.kdv_tup us)).push (PySem.HandSPX.excO C hp.objs.size)).get? b = some o := fun b o z => Heap.get?_push_of_some _ (Heap.get?_push_of_some _ z)
  have hget : ((hp.push (PySem.W.kdv_tup us)).push (PySem.HandSPX.excO C hp.objs.size)).get? (hp.objs.size + 1) = some (PySem.HandSPX.excO C hp.objs.size) := by heap_get
  have I2 := I1.laid (t' := tk) (a := hp.objs.size + 1) (o := L2.exo (hp.objs.size + 1) C none) kk up1 (L2.exo_ok hget)
  have r2 : L2.Vals (L2.V.ref (hp.objs.size + 1) :: (vs ++ dvs)) (Value.ref (hp.objs.size + 1) :: (us ++ ds)) := .cons rfl (r1.append hd)
  have hl : (Value.ref (hp.objs.size + 1) :: us ++ ds).length = ps.length := by
    have z := r2.length
    rw [F1.len _ _ _ _ hq] at z
    exact z.symm
  have hus : us.length ≤ sizeLine := by
    rw [← r1.length, sizeLine_eq]; omega
  refine wpAny_call (PySem.HandSPX.call_own T.F hT hC (PySem.W.looks_findIn I1.kIn iC) (fun self => PySem.W.bind_fn I1.kIn self tI) hus
    (codeAny_mono (F1.run _ X.stack _ _ ⟨Value.ref (hp.objs.size + 1) :: us, []⟩ (Value.ref (hp.objs.size + 1) :: (us ++ ds)) _ _ (fun _ _ _ => False) (hr.make C us []) (I2.env0.make C us []) (hb _ (Value.ref (hp.objs.size + 1) :: us) I2.kIn hl) r2 hq) fun r s' hq' => ?_))
  cases r with
  | error er => exact hx pins σ _ _ er s' I2 hq'
  | ok fl =>
    cases fl with
    | ret u =>
      obtain ⟨v, H', I3, rv, ev, q3⟩ := I2.after hq'
      subst ev
      exact ⟨rv, ⟨L2.V.ref (hp.objs.size + 1), H', I3, rfl, q3⟩⟩
    | next => exact False.elim hq'
    | brk => exact False.elim hq'
    | cont => exact False.elim hq'
theorem run_xk {pins : List (Addr × Obj)} {σ : L2.St} {H1 : L2.Hp} {s1 : Shared} {Q : L2.VK} {ws : List Value} {zs : List L2.V} (T : XvC X.K C B newId initId bmB) (iC : PySem.W.findIn X.K (.ref C) "__init__" = some (some (.ref fI))) (tI : PySem.W.typeIn X.K (.ref fI) = some (.type "function"))
    (F1 : L2.FnOk X.prog X.w X.K X.mg X.base CX k fI fd ps sp) (hr : L2.Room (k + 1) X.A) (hb : L2.KBn X.K fd ps 1 [kn] g gV) (hx : L2.Passes CX X (fun _ _ _ => False)) (I1 : L2.Inv X pins σ H1 s1) (rz : L2.Vals zs ws) (l2 : zs.length = 1)
    (q1 : ∀ a, H1 a = none → sp (gV [.ref a] zs) (L2.upd H1 a (L2.exo a C none)) (fun v H2 => v = .non ∧ Q (.ref a) H2) (fun _ _ _ => False)) :
    wpAny (model X.prog X.w) X.A (call (.ref C) [] ([kn].zip ws)) (L2.EP X pins σ Q) X.xe s1 := by
  obtain ⟨nm, N, qn, bs, bm, hdct, sn, sub, ab, col, dd, k0, k1, k2, k3, k5, hC, hT⟩ := PySem.W.excInit_of I1.kIn T.ini
  obtain ⟨hp, gn, dr, tk, os⟩ := s1
  have up1 : hp.objs.size ≤ hp.objs.size + 1 := Nat.le_succ _
  have hn : H1 (hp.objs.size + 1) = none := I1.hok.fresh up1
  have hq := q1 _ hn
  have lw : ws.length = 1 := rz.length.symm.trans l2
  obtain ⟨w1, rfl⟩ : ∃ w1, ws = [w1] := by
    rcases ws with _ | ⟨w1, _ | ⟨w2, r⟩⟩
    · cases lw
    · exact ⟨w1, rfl⟩
    · cases lw
  have kk : ∀ b o, hp.get? b = some o → ((hp.push (PySem.W.kdv_tup [])).push (PySem.HandSPX.excO C hp.objs.size)).get? b = some o := fun b o z => Heap.get?_push_of_some _ (Heap.get?_push_of_some _ z)
  have hget : ((hp.push (PySem.W.kdv_tup [])).push (PySem.HandSPX.excO C hp.objs.size)).get? (hp.objs.size + 1) = some (PySem.HandSPX.excO C hp.objs.size) := by heap_get
  have I2 := I1.laid (t' := tk) (a := hp.objs.size + 1) (o := L2.exo (hp.objs.size + 1) C none) kk up1 (L2.exo_ok hget)
  have r0 : L2.Vals [L2.V.ref (hp.objs.size + 1)] [Value.ref (hp.objs.size + 1)] := .cons rfl .nil
  have r2 := hb.rel r0 rz
  show wpAny _ _ (call (.ref C) [] [(kn, w1)]) _ _ _
  refine wpAny_call (PySem.XV.callK T.F hT hC (PySem.W.looks_findIn I1.kIn iC) (fun self => PySem.W.bind_fn I1.kIn self tI)
    (codeAny_mono (F1.run _ X.stack _ _ ⟨[Value.ref (hp.objs.size + 1)], [(kn, w1)]⟩ (g [Value.ref (hp.objs.size + 1)] [w1]) _ _ (fun _ _ _ => False) (hr.make C [] [(kn, w1)]) (I2.env0.make C [] [(kn, w1)]) (hb.to _ [Value.ref (hp.objs.size + 1)] [w1] I2.kIn rfl rfl) r2 hq) fun r s' hq' => ?_))
  cases r with
  | error er => exact hx pins σ _ _ er s' I2 hq'
  | ok fl =>
    cases fl with
    | ret u =>
      obtain ⟨v, H', I3, rv, ev, q3⟩ := I2.after hq'
      subst ev
      exact ⟨rv, ⟨L2.V.ref (hp.objs.size + 1), H', I3, rfl, q3⟩⟩
    | next => exact False.elim hq'
    | brk => exact False.elim hq'
    | cont => exact False.elim hq'
theorem pe_xm (T : XvC X.K C B newId initId bmB) (iC : PySem.W.findIn X.K (.ref C) "__init__" = some (some (.ref fI))) (tI : PySem.W.typeIn X.K (.ref fI) = some (.type "function"))
    (F1 : L2.FnOk X.prog X.w X.K X.mg X.base CX k fI fd ps sp) (hr : L2.Room (k + 1) X.A) (hb : L2.Binds X.K fd ps ds) (hd : L2.Vals dvs ds) (hx : L2.Passes CX X (fun _ _ _ => False)) (hg : L2.Gl X x) (hm : X.mg x = some (.ref C)) (ha : L2.PA X (e :: es) ta)
    (hdb : (x == ("__debug__" : Str)) = false) (he : starEach (e :: es) X.env = (false, eval e X.env) :: starEach es X.env) (hpl : (backTo pos (starEach es X.env)).any (·.1) = false) :
    L2.PE X (.Call (.Name x p) (e :: es) [] pos) (tXm C sp dvs ta) := by
  refine ⟨fun pins s σ H Q I h => ?_⟩
  refine wpAny_Call_Name_kw (L2.ld_glob I hg hm ?_ hdb)
  exact PySem.W.callWith_K (h₀ := X.base) I.ok.mod.kin T.kC (L2.thn (ha.run pos pins s σ H _ I h) fun us s1 ⟨vs, H1, I1, r1, hz, q1⟩ => ⟨I1.kIn, run_xm T iC tI F1 hr hb hd hx I1 r1 hz q1⟩) he hpl
theorem pe_xm0 (T : XvC X.K C B newId initId bmB) (iC : PySem.W.findIn X.K (.ref C) "__init__" = some (some (.ref fI))) (tI : PySem.W.typeIn X.K (.ref fI) = some (.type "function"))
    (F1 : L2.FnOk X.prog X.w X.K X.mg X.base CX k fI fd ps sp) (hr : L2.Room (k + 1) X.A) (hb : L2.Binds X.K fd ps ds) (hd : L2.Vals dvs ds) (hx : L2.Passes CX X (fun _ _ _ => False)) (hg : L2.Gl X x) (hm : X.mg x = some (.ref C))
    (hdb : (x == ("__debug__" : Str)) = false) : L2.PE X (.Call (.Name x p) [] [] pos) (tXm C sp dvs L2.tNil) := by
  refine ⟨fun pins s σ H Q I h => ?_⟩
  refine wpAny_Call_Name_kw (L2.ld_glob I hg hm ?_ hdb)
  exact PySem.W.callWith_K0 I.kIn T.kC (run_xm (us := []) T iC tI F1 hr hb hd hx I .nil h.1 h.2)
theorem pe_xk (T : XvC X.K C B newId initId bmB) (iC : PySem.W.findIn X.K (.ref C) "__init__" = some (some (.ref fI))) (tI : PySem.W.typeIn X.K (.ref fI) = some (.type "function"))
    (F1 : L2.FnOk X.prog X.w X.K X.mg X.base CX k fI fd ps sp) (hr : L2.Room (k + 1) X.A) (hb : L2.KBn X.K fd ps 1 [kn] g gV) (hx : L2.Passes CX X (fun _ _ _ => False)) (hg : L2.Gl X x) (hm : X.mg x = some (.ref C)) {kws : List Keyword} (hkw : L2.PK X kws tk)
    (hall : (backToKw pos (keywordEach kws X.env)).all (·.1.isSome) = true) (hks : (backToKw pos (keywordEach kws X.env)).filterMap (·.1) = [kn]) (hdb : (x == ("__debug__" : Str)) = false)
    (hpl : ((backTo pos (starEach [] X.env)).any (·.1) || (backToKw pos (keywordEach kws X.env)).any (·.1.isNone)) = false) :
    L2.PE X (.Call (.Name x p) [] kws pos) (tXk C sp gV tk) := by
  refine ⟨fun pins s σ H Q I h => ?_⟩
  refine wpAny_Call_Name_kw (L2.ld_glob I hg hm ?_ hdb)
  refine PySem.W.callWith_KW0 (h₀ := X.base) I.ok.mod.kin T.kC hall ?_ hpl
  refine L2.thn (hkw.run pos pins s σ H _ I h) fun ws s2 ⟨zs, H2, I2, rz, l2, q2⟩ => ⟨I2.kIn, ?_⟩
  rw [hks]
  exact run_xk T iC tI F1 hr hb hx I2 rz l2 q2
end
end EV
end

section
set_option maxHeartbeats 2000000
set_option autoImplicit false
/-! Exceptions as values: isinstance, fields, str. -/
namespace EV
open PySem PySem.Spec PyProof.Rows
/-- what the class C must say, so that its instances are looked at rightly -/
structure XvL (K : PySem.W.Frag) (C : Addr) : Prop where
  ga : PySem.W.findIn K (.ref C) "__getattribute__" = some (some (.builtin "BaseException.__getattribute__"))
  gg : PySem.W.findIn K (.ref C) "__getattr__" = some none
  sb : PySem.W.subIn K (.ref C) (.type "BaseException") = some true
  hd : PySem.W.hasDictIn K C = true
  hc : PySem.W.findIn K (.ref C) "__class__" = some (some (.builtin "object.__class__"))
  hn : PySem.W.specialIn K (.builtin "object.__class__") "__get__" = some (some (.builtin "getset_descriptor.__get__"))
  ht : PySem.W.takesIn K (.builtin "object.__class__") = some true
  hm : PySem.W.mroIn K C (.type "object") = some true
  st : PySem.W.findIn K (.ref C) "__str__" = some (some (.builtin "BaseException.__str__"))
  cl : (PySem.W.clsIn K C).isSome = true
section
variable {X : L2.Cx} {pins : List (Addr × Obj)} {σ : L2.St} {H : L2.Hp} {s : Shared} {a C dx t : Addr} {fs : List (Str × L2.V)}
theorem xv_inst (I : L2.Inv X pins σ H s) (e : H a = some (xvo a C (some dx) t)) (ed : H dx = some (L2.exd dx fs)) : ∃ (od : Obj) (mA : Str → Option Value), PySem.W.InstAt s.heap a (exOb C t (some dx)) C (some od) ∧ (∀ name, PySem.W.lookIn name od = some (mA name)) ∧ ∀ f, L2.RelO (fs.lookup f) (mA f) := by
  obtain ⟨mA, hns, r⟩ := L2.exd_at I.hok ed
  obtain ⟨od, ho, hl⟩ := L2.lookIn_ns hns
  exact ⟨od, mA, ⟨xvo_at I.hok e, rfl, rfl, ho⟩, hl, r⟩
/-- isinstance(e, c) -/
def rIsX (K : PySem.W.Frag) : List L2.V → L2.Hp → L2.VK → Prop := fun xs H Q => ∃ (a C dx t : Addr) (fs : List (Str × L2.V)) (c : L2.V) (u : Value) (b : Bool), xs = [.ref a, c] ∧ H a = some (xvo a C (some dx) t) ∧ H dx = some (L2.exd dx fs) ∧ XvL K C ∧ L2.ClsV c u ∧ PySem.W.kitOne K (.ref C) u = some b ∧ Q (.bl b) H
theorem call_isX : L2.CallR X (.builtin "isinstance") (rIsX X.K) := by
  intro pins s σ H xs us Q I r h
  obtain ⟨a, C, dx, t, fs, c, u, b, rfl, ea, ed, T, kc, e, q⟩ := h
  obtain ⟨u1, u2, rfl, r1, r2⟩ := L2.vals2 r
  have e2 := kc.eq r2
  subst e2
  obtain rfl : u1 = Value.ref a := r1
  obtain ⟨od, mA, J, _⟩ := xv_inst I ea ed
  exact PySem.W.kia_one (PySem.W.kitx_exc T.cl T.ga T.gg T.sb T.hc T.hn T.ht T.hm) I.kIn J e (fun z => nomatch z) fun tk => ⟨.bl b, H, I.tok tk, rfl, q⟩
/-- e.f -/
def tXf (K : PySem.W.Frag) (f : Str) (te : L2.TE) : L2.TE := fun σ H Q => te σ H fun x H1 => ∃ (a C dx t : Addr) (fs : List (Str × L2.V)) (v : L2.V), x = .ref a ∧ H1 a = some (xvo a C (some dx) t) ∧ H1 dx = some (L2.exd dx fs) ∧ XvL K C ∧ PySem.W.findIn K (.ref C) f = some none ∧ fs.lookup f = some v ∧ Q v H1
theorem pe_xfl {e : Expr} {te : L2.TE} {f : Str} {pos : Pos} (he : L2.PE X e te) (hb : attributeBase e f X.env (eval e X.env) = eval e X.env) : L2.PE X (.Attribute e f pos) (tXf X.K f te) := by
  refine ⟨fun pins s σ H Q I h => ?_⟩
  refine L2.attr_of hb (L2.thn (he.run pins s σ H _ I h) fun u s1 hh => ?_)
  obtain ⟨x, H1, I1, rx, a, C, dx, t, fs, v, rfl, ea, ed, T, hno, hl, q⟩ := hh
  obtain rfl : u = Value.ref a := rx
  obtain ⟨od, mA, J, lk, r⟩ := xv_inst I1 ea ed
  obtain ⟨u, hu, ru⟩ := L2.RelO.some_of (v := v) (o := mA f) (by rw [← hl]; exact r f)
  exact HandSPX.exc_get I1.kIn J T.ga T.gg T.sb (PySem.W.findObj_own T.hd hno rfl (by rw [lk, hu])) (L2.handed_of ru) ⟨v, H1, I1.tok _, ru, q⟩
/-- str(e) -/
def rStrX (K : PySem.W.Frag) : List L2.V → L2.Hp → L2.VK → Prop := fun xs H Q => ∃ (a C t : Addr) (d : Option Addr) (m : Str), xs = [.ref a] ∧ H a = some (xvo a C d t) ∧ H t = some (.tup [.str m]) ∧ XvL K C ∧ Q (.str m) H
theorem call_strX (hu : X.A.units + 2 < cLine) : L2.CallR X (.type "str") (rStrX X.K) := by
  intro pins s σ H xs us Q I r h
  obtain ⟨a, C, t, d, m, rfl, ea, et, T, q⟩ := h
  obtain ⟨u, rfl, r1⟩ := L2.vals1 r
  obtain rfl : u = Value.ref a := r1
  obtain ⟨_, its, rv, o, h1, h2, n, h3⟩ := (show L2.ObjOk X.prog X.w H s.heap t (.tup [.str m]) from I.hok t _ et)
  cases rv with
  | cons rm rn =>
    cases rn
    obtain ⟨tk, rfl⟩ := (show ∃ tk, _ = Value.str m tk from rm)
    exact PySem.P.str_of_C_one hu ⟨I.kIn, _, _, xvo_at I.hok ea, rfl, rfl, rfl⟩ ⟨o, n, h1, h2, h3⟩ T.st T.sb ⟨.str m, H, I, ⟨tk, rfl⟩, q⟩
end
end EV
end

section
set_option maxHeartbeats 2000000
set_option autoImplicit false
/-! The evaluator's word about exceptions as values. -/
namespace EV
open PySem PySem.Spec PyProof.Rows
section
variable {C : Cfg} {Z : Addr → Prop} {ι : List Addr} {H : L2.Hp} {L : Store}
/-- the new exception -/
theorem xv_new {c : Nat} {f : Str} {m : List Nat} {d : D} {y : L2.V} {a : Addr} {Q : L2.VK} {E : L2.XK} (S : SO C Z ι H L) (am : asc m) (rx : RV C Z ι H d y) (ha : H a = none)
    (q : ∀ ι' H', Ex ι H ι' H' → SO C Z ι' H' L → ∀ v, RV C Z ι' H' (.exv c f m d) v → Q v H') : spX (C.xcl c) f (SX.S m) [.ref a, y] (L2.upd H a (L2.exo a (C.xcl c) none)) (fun v H2 => v = .non ∧ Q (.ref a) H2) E := by
  refine ⟨a, y, rfl, L2.upd_same, fun t dx ht hd hta hda hdt => ⟨rfl, ?_⟩⟩
  rw [L2.upd_ne hta] at ht
  rw [L2.upd_ne hda] at hd
  have old : ∀ {b : Addr} {o : L2.HO}, H b = some o → L2.upd (L2.upd (L2.upd (L2.upd H a (L2.exo a (C.xcl c) none)) t (.tup [.str (SX.S m)])) dx (L2.exd dx [(f, y)])) a (xvo a (C.xcl c) (some dx) t) b = some o := fun {b o} z => by
    rw [L2.upd_ne (L2.ne_of_none z ha), L2.upd_ne (L2.ne_of_none z hd), L2.upd_ne (L2.ne_of_none z ht), L2.upd_ne (L2.ne_of_none z ha)]
    exact z
  have sm : L2.Same H (L2.upd (L2.upd (L2.upd (L2.upd H a (L2.exo a (C.xcl c) none)) t (.tup [.str (SX.S m)])) dx (L2.exd dx [(f, y)])) a (xvo a (C.xcl c) (some dx) t)) := fun b o z => old z
  refine q ι _ (ex_same sm) (S.same sm) _ ?_
  unfold RV
  refine ⟨y, ⟨a, t, dx, rfl, L2.upd_same, ?_, ?_, S.fresh ha, S.fresh ht, S.fresh hd⟩, am, RV.mono (ex_same sm) _ _ rx⟩
  · rw [L2.upd_ne hta, L2.upd_ne (Ne.symm hdt), L2.upd_same]
  · rw [L2.upd_ne hda, L2.upd_same]
end
/-- the class with the number c is made by the name x -/
structure Xva (X : L2.Cx) (C : Cfg) (c : Nat) (x f : Str) (m : List Nat) (df : Bool) : Prop where
  mg : X.mg x = some (.ref (C.xcl c))
  am : asc m
  T : ∃ (B newId initId : String) (bmB : List Value), XvC X.K (C.xcl c) B newId initId bmB
  ex : ∃ (k : Nat) (fI : Addr) (fd : FuncData) (ps : List Str), PySem.W.findIn X.K (.ref (C.xcl c)) "__init__" = some (some (.ref fI)) ∧ PySem.W.typeIn X.K (.ref fI) = some (.type "function") ∧
    L2.FnOk X.prog X.w X.K X.mg X.base (L2.CX X.prog X.w) k fI fd ps (spX (C.xcl c) f (SX.S m)) ∧ L2.Room (k + 1) X.A ∧ L2.Binds X.K fd ps [] ∧ (∃ g : List Value → List Value → List Value, L2.KBn X.K fd ps 1 [f] g fun vs zs => vs ++ zs) ∧ (df = true → L2.Binds X.K fd ps [.none])
/-- what an answer of isinstance(e, x) needs -/
structure IsC (X : L2.Cx) (C : Cfg) (x : Str) (ks : List Bool) : Prop where
  ex : (∃ A, X.mg x = some (.ref A) ∧ ∀ c b, ks[c]? = some b → PySem.W.kitOne X.K (.ref (C.xcl c)) (.ref A) = some b) ∨ (∃ N : String, X.mg x = none ∧ bootBuiltins x = some (.type N) ∧ x ≠ "__name__" ∧ ∀ c b, ks[c]? = some b → PySem.W.kitOne X.K (.ref (C.xcl c)) (.type N) = some b)
  il : ∀ c b, ks[c]? = some b → XvL X.K (C.xcl c)
theorem IsC.val {X : L2.Cx} {C : Cfg} {x : Str} {ks : List Bool} (i : IsC X C x ks) {p : Pos} (hg : L2.Gl X x) (hdb : (x == ("__debug__" : Str)) = false) : ∃ (v : L2.V) (u : Value), L2.PE X (.Name x p) (L2.tC v) ∧ L2.ClsV v u ∧ ∀ c b, ks[c]? = some b → PySem.W.kitOne X.K (.ref (C.xcl c)) u = some b := by
  rcases i.ex with ⟨A, hm, h⟩ | ⟨N, hm, hb, hn, h⟩
  · exact ⟨.ref A, .ref A, L2.pe_glob (v := .ref A) hg hm rfl hdb, .own A, h⟩
  · exact ⟨.ty N, .type N, L2.pe_bltn hg hm hb rfl hn hdb, .ty N, h⟩
section
variable {X : L2.Cx} {C : Cfg} {cf : Nat → List D → M D} {W : L2.WX} {pos : Pos} {c : Nat} {x f : Str} {m : List Nat} {df : Bool} {e : Expr} {ce : E} {p cp : Pos}
theorem no_pass : ∀ (P : Program) (w : World) (X : L2.Cx), L2.Passes (L2.CX P w) X (fun _ _ _ => False) := fun P w X _ _ _ _ _ _ _ h => by
  obtain ⟨_, _, _, _, _, _, _, _, _, _, _, _, z⟩ := h
  exact z.elim
theorem z_mkx (r : Xva X C c x f m df) (hg : L2.Gl X x) (hdb : (x == ("__debug__" : Str)) = false) (ha : L2.PE X e (rE C W (evE cf ce))) (he : starEach [e] X.env = (false, eval e X.env) :: starEach [] X.env) :
    L2.PE X (.Call (.Name x p) [e] [] pos) (rE C W (evE cf (.mkx c f m false ce))) := by
  obtain ⟨k, fI, fd, ps, iC, tI, F1, hr, hb, _, _⟩ := r.ex
  obtain ⟨B, newId, initId, bmB, T⟩ := r.T
  refine pe_imp (pe_xm (dvs := []) (ds := []) T iC tI F1 hr hb .nil (no_pass _ _ _) hg r.mg (L2.pa_cons ha L2.pa_nil he) hdb he rfl) fun σ H Q ⟨Z, ι, L, ρ, S, E, h⟩ => ?_
  simp only [evE] at h
  exact seqG S E h fun d L1 ι1 H1 v s1 e1 ex1 rx h1 => ⟨by show 1 ≤ 1000; decide, fun a ha => xv_new s1 r.am rx ha h1⟩
theorem z_mk0 (r : Xva X C c x f m true) (hg : L2.Gl X x) (hdb : (x == ("__debug__" : Str)) = false) :
    L2.PE X (.Call (.Name x p) [] [] pos) (rE C W (evE cf (.mk0 c f m))) := by
  obtain ⟨k, fI, fd, ps, iC, tI, F1, hr, _, _, hb⟩ := r.ex
  obtain ⟨B, newId, initId, bmB, T⟩ := r.T
  refine pe_imp (pe_xm0 (dvs := [.non]) (ds := [.none]) T iC tI F1 hr (hb rfl) (.cons rfl .nil) (no_pass _ _ _) hg r.mg hdb) fun σ H Q ⟨Z, ι, L, ρ, S, E, h⟩ => ?_
  simp only [evE] at h
  exact ⟨by show 0 ≤ 1000; decide, fun a ha => xv_new S r.am rv_non ha h⟩
theorem z_mkk (r : Xva X C c x f m df) (hg : L2.Gl X x) (hdb : (x == ("__debug__" : Str)) = false) {kws : List Keyword} (hkw : L2.PK X kws (L2.tCons (rE C W (evE cf ce)) L2.tNil))
    (hall : (backToKw pos (keywordEach kws X.env)).all (·.1.isSome) = true) (hks : (backToKw pos (keywordEach kws X.env)).filterMap (·.1) = [f])
    (hpl : ((backTo pos (starEach [] X.env)).any (·.1) || (backToKw pos (keywordEach kws X.env)).any (·.1.isNone)) = false) :
    L2.PE X (.Call (.Name x p) [] kws pos) (rE C W (evE cf (.mkx c f m true ce))) := by
  obtain ⟨k, fI, fd, ps, iC, tI, F1, hr, _, ⟨g, hb⟩, _⟩ := r.ex
  obtain ⟨B, newId, initId, bmB, T⟩ := r.T
  refine pe_imp (pe_xk T iC tI F1 hr hb (no_pass _ _ _) hg r.mg hkw hall hks hdb hpl) fun σ H Q ⟨Z, ι, L, ρ, S, E, h⟩ => ?_
  simp only [evE] at h
  exact seqG S E h fun d L1 ι1 H1 v s1 e1 ex1 rx h1 => ⟨rfl, fun a ha => xv_new s1 r.am rx ha h1⟩
theorem z_isx {ks : List Bool} {py : Pos} (i : IsC X C x ks) (hg : L2.Gl X "isinstance") (hm : X.mg "isinstance" = none) (hgx : L2.Gl X x) (hdb : (x == ("__debug__" : Str)) = false) (ha : L2.PE X e (rE C W (evE cf ce)))
    (h1 : starEach [e, .Name x py] X.env = (false, eval e X.env) :: starEach [.Name x py] X.env) : L2.PE X (.Call (.Name "isinstance" p) [e, .Name x py] [] pos) (rE C W (evE cf (.isx x ks ce))) := by
  obtain ⟨v, u, hT, kv, ki⟩ := i.val (p := py) hgx hdb
  refine pe_imp (L2.pe_callB call_isX hg hm boot_isi (L2.pa_cons ha (L2.pa_cons hT L2.pa_nil rfl) h1) (by decide) (by decide) h1 rfl) fun σ H Q ⟨Z, ι, L, ρ, S, E, h⟩ => ?_
  simp only [evE] at h
  refine seqG S E h fun y L1 ι1 H1 w s1 e1 ex1 rx h1 => ?_
  cases y <;> try exact False.elim h1
  rename_i c g m d
  simp only at h1
  cases hk : ks[c]? with
  | none => rw [hk] at h1; exact False.elim h1
  | some b =>
    rw [hk] at h1
    unfold RV at rx
    obtain ⟨z, ⟨a, t, dx, rfl, h2, h3, h4, _⟩, _, _⟩ := rx
    exact ⟨a, _, dx, t, _, v, u, b, rfl, h2, h4, i.il _ _ hk, kv, ki _ _ hk, h1.ok s1 _ rv_bl⟩
theorem z_xfl {n : Nat} (hl : ∀ c, c < n → XvL X.K (C.xcl c) ∧ PySem.W.findIn X.K (.ref (C.xcl c)) f = some none) (ha : L2.PE X e (rE C W (evE cf ce))) (hb : attributeBase e f X.env (eval e X.env) = eval e X.env) :
    L2.PE X (.Attribute e f pos) (rE C W (evE cf (.xfl n f ce))) := by
  refine pe_imp (pe_xfl ha hb) fun σ H Q ⟨Z, ι, L, ρ, S, E, h⟩ => ?_
  simp only [evE] at h
  refine seqG S E h fun y L1 ι1 H1 w s1 e1 ex1 rx h1 => ?_
  cases y <;> try exact False.elim h1
  rename_i c g m d
  simp only at h1
  split at h1
  · rename_i hc
    obtain ⟨rfl, hc⟩ := hc
    unfold RV at rx
    obtain ⟨z, ⟨a, t, dx, rfl, h2, h3, h4, _⟩, _, rd⟩ := rx
    refine ⟨a, _, dx, t, _, z, rfl, h2, h4, (hl c hc).1, (hl c hc).2, ?_, h1.ok s1 _ rd⟩
    simp
  · exact False.elim h1
theorem z_strx {n : Nat} (hl : ∀ c, c < n → XvL X.K (C.xcl c)) (hu : X.A.units + 65 < cLine) (hg : L2.Gl X "str") (hm : X.mg "str" = none) (ha : L2.PE X e (rE C W (evE cf ce)))
    (he : starEach [e] X.env = (false, eval e X.env) :: starEach [] X.env) : L2.PE X (.Call (.Name "str" p) [e] [] pos) (rE C W (evE cf (.strx n ce))) := by
  refine pe_imp (L2.pe_callTy (call_strX (by omega)) hg hm (by decide +kernel) (L2.pa_cons ha L2.pa_nil he) (he := he)) fun σ H Q ⟨Z, ι, L, ρ, S, E, h⟩ => ?_
  simp only [evE] at h
  refine seqG S E h fun y L1 ι1 H1 w s1 e1 ex1 rx h1 => ?_
  cases y <;> try exact False.elim h1
  rename_i c g m d
  simp only at h1
  split at h1
  · rename_i hc
    unfold RV at rx
    obtain ⟨z, ⟨a, t, dx, rfl, h2, h3, h4, _⟩, am, rd⟩ := rx
    exact ⟨a, _, t, some dx, _, rfl, h2, h3, hl c hc, h1.ok s1 _ (rv_str am)⟩
  · exact False.elim h1
end
end EV
end

section
set_option autoImplicit false
/-! Does a def's text say what the evaluator's syntax says? -/
namespace EV
open PySem PySem.Spec PyProof.Rows

/-- an exception made as a value: its name, its field, its message, has the field's parameter a default (None)? -/
structure Xz where
  cls : Str
  fld : Str
  msg : List Nat
  df : Bool
/-- the names of a text: its defs, its constants, its exceptions, exceptions' fields; exceptions as values, classes that isinstance asks for -/
structure Tb where
  fn : List Str
  gl : List (Str × D)
  ex : List Str
  fl : List Str
  xv : List Xz := []
  is : List (Str × List Bool) := []

mutual
def D.same : D → D → Bool
  | .non, .non => true
  | .bl a, .bl b => a == b
  | .int i, .int j => decide (i = j)
  | .str a, .str b => decide (a = b)
  | .ktup xs, .ktup ys => sameAll xs ys
  | _, _ => false
def sameAll : List D → List D → Bool
  | [], [] => true
  | x :: xs, y :: ys => x.same y && sameAll xs ys
  | _, _ => false
end
mutual
theorem same_eq : ∀ (x y : D), x.same y = true → x = y
  | .non, y, h => by cases y <;> simp [D.same] at h; rfl
  | .bl a, y, h => by cases y <;> simp [D.same] at h; rw [h]
  | .int a, y, h => by cases y <;> simp [D.same] at h; rw [h]
  | .str a, y, h => by cases y <;> simp [D.same] at h; rw [h]
  | .ktup xs, y, h => by
    cases y <;> simp [D.same] at h
    rw [same_eqs _ _ h]
  | .tup xs, y, h => by cases y <;> simp [D.same] at h
  | .lst xs, y, h => by cases y <;> simp [D.same] at h
  | .obj xs, y, h => by cases y <;> simp [D.same] at h
  | .fn xs, y, h => by cases y <;> simp [D.same] at h
  | .exn _ _, y, h => by cases y <;> simp [D.same] at h
  | .exv _ _ _ _, y, h => by cases y <;> simp [D.same] at h
theorem same_eqs : ∀ (x y : List D), sameAll x y = true → x = y
  | [], y, h => by cases y <;> simp [sameAll] at h; rfl
  | x :: xs, y, h => by
    cases y with
    | nil => simp [sameAll] at h
    | cons y ys =>
      simp [sameAll] at h
      rw [same_eq _ _ h.1, same_eqs _ _ h.2]
end

/-! ### names -/
def nmB (x : Str) : Bool := (x == ("__debug__" : Str)) == false && (x == ("__classdict__" : Str)) == false
def visB (sc : Scope) (x : Str) : Bool := match sc.names.lookup x with
  | some .local => true
  | some .cell => true
  | some .free => true
  | _ => false
def locB (sc : Scope) (x : Str) : Bool := match sc.names.lookup x with
  | some .local => true
  | _ => false
def gloB (sc : Scope) (x : Str) : Bool := match sc.names.lookup x with
  | some .globalImplicit => true
  | _ => false
def locCB (sc : Scope) (blk : Bool) (x : Str) : Bool := match sc.names.lookup x with
  | some .local => true
  | some .cell => !blk
  | _ => false
theorem visB_ok {sc : Scope} {x : Str} (h : visB sc x = true) : L2.Vis sc x := by
  unfold visB at h
  unfold L2.Vis
  split at h
  · exact .inl (by assumption)
  · exact .inr (.inl (by assumption))
  · exact .inr (.inr (by assumption))
  · cases h
theorem locB_ok {sc : Scope} {x : Str} (h : locB sc x = true) : sc.names.lookup x = some .local := by
  unfold locB at h
  split at h
  · assumption
  · cases h
theorem gloB_ok {sc : Scope} {x : Str} (h : gloB sc x = true) : sc.names.lookup x = some .globalImplicit := by
  unfold gloB at h
  split at h
  · assumption
  · cases h
theorem locCB_ok {sc : Scope} {blk : Bool} {x : Str} (h : locCB sc blk x = true) : L2.Loc sc x ∧ (blk = true → sc.names.lookup x = some .local) := by
  unfold locCB at h
  split at h
  · exact ⟨.inl (by assumption), fun _ => by assumption⟩
  · refine ⟨.inr (by assumption), fun e => ?_⟩
    rw [e] at h; cases h
  · cases h
theorem nmB_ok {x : Str} (h : nmB x = true) : (x == ("__debug__" : Str)) = false ∧ (x == ("__classdict__" : Str)) = false := by
  unfold nmB at h
  rw [Bool.and_eq_true] at h
  exact ⟨by simpa using h.1, by simpa using h.2⟩

/-! ### forms of expressions -/
def unstar : Expr → Bool
  | .Starred _ _ => false
  | _ => true
theorem star_of {e : Expr} {es : List Expr} {env : PySem.Env} (h : unstar e = true) : starEach (e :: es) env = (false, eval e env) :: starEach es env := by
  cases e <;> first | rfl | cases h
theorem star_any {env : PySem.Env} {pos : Pos} : ∀ {es : List Expr}, es.all unstar = true → (backTo pos (starEach es env)).any (·.1) = false := by
  intro es
  have key : ∀ {es : List Expr}, es.all unstar = true → ∃ l : List (Sem Value), starEach es env = l.map fun t => (false, t) := by
    intro es
    induction es with
    | nil => intro _; exact ⟨[], rfl⟩
    | cons e es ih =>
      intro h
      rw [List.all_cons, Bool.and_eq_true] at h
      obtain ⟨l, hl⟩ := ih h.2
      exact ⟨eval e env :: l, by rw [star_of h.1, hl]; rfl⟩
  intro h
  obtain ⟨l, hl⟩ := key h
  rw [hl]
  have : ∀ (l : List (Sem Value)), (backTo pos (l.map fun t => (false, t))).any (·.1) = false := by
    intro l
    unfold backTo
    simp
  exact this l
theorem star_all {env : PySem.Env} {pos : Pos} {es : List Expr} (h : es.all unstar = true) : (backTo pos (starEach es env)).all (fun x => !x.1) = true := by
  have := star_any (env := env) (pos := pos) h
  rw [List.any_eq_false] at this
  rw [List.all_eq_true]
  intro x hx
  have := this x hx
  simpa using this
def unslice : Expr → Bool
  | .Slice _ _ _ _ => false
  | _ => true
theorem plainIx_of {b : Expr} (h : unslice b = true) : L2.PlainIx b := by
  intro o i
  cases b <;> first | rfl | cases h
theorem noSl_of {b : Expr} (h : unslice b = true) : L2.NoSl b := by
  intro o i
  cases b <;> first | rfl | cases h
/-- a receiver that is no call without arguments -/
def uncall : Expr → Bool
  | .Call _ _ _ _ => false
  | _ => true
theorem base_of {o : Expr} {x : Str} {env : PySem.Env} (h : uncall o = true) : attributeBase o x env (eval o env) = eval o env := by
  cases o <;> first | rfl | cases h
def uncomp : Expr → Bool
  | .ListComp _ _ _ _ => false
  | .SetComp _ _ _ _ => false
  | .DictComp _ _ _ _ _ => false
  | _ => true
theorem swaps_of {e : Expr} {t : Option Expr} {l : Nat} {env : PySem.Env} (h : uncomp e = true) : swapsWith e t l env = pure false := by
  cases e <;> first | rfl | cases h
def unset : Expr → Bool
  | .Set _ _ _ => false
  | _ => true
theorem folded_of {e : Expr} {env : PySem.Env} (h : unset e = true) : ∀ x, foldedSetIterable e env x = pure x := by
  intro x
  cases e <;> first | rfl | cases h
def untup : Expr → Bool
  | .Tuple _ _ _ => false
  | _ => true
theorem swapped_of {ts : List Expr} {e : Expr} {env : PySem.Env} (h : untup e = true) : swappedStores ts e env = pure none := by
  cases e <;> first | (cases ts with
    | nil => rfl
    | cons t r => cases r with
      | nil => cases t <;> rfl
      | cons _ _ => cases t <;> rfl) | cases h
def unif : Expr → Bool
  | .IfExp _ _ _ _ => false
  | _ => true
/-- tested by its value -/
def plainT : Expr → Bool
  | .UnaryOp .Not _ _ => false
  | .BoolOp _ _ _ => false
  | .IfExp _ _ _ _ => false
  | .Compare _ _ _ _ => false
  | _ => true
theorem plainT_of {e : Expr} {env : PySem.Env} (h : plainT e = true) : ∀ whole, isTrue e env whole = (do let v ← whole; standAt e.pos; holding [v] (truthy v)) := by
  intro whole
  cases e <;> first | rfl | cases h | skip
  rename_i op _ _
  cases op <;> first | rfl | cases h
def argsB (es : List Expr) : Bool := es.all unstar && decide (es.length < 30)
theorem few_of {env : PySem.Env} {pos : Pos} {es : List Expr} (h : argsB es = true) : ((backTo pos (starEach es env)).all (fun x => !x.1) && (backToKw pos (keywordEach [] env)).all (fun x => x.1.isSome)
      && decide (es.length + ([] : List Keyword).length + (if ([] : List Keyword).isEmpty then 0 else 1) < 30)) = true := by
  unfold argsB at h
  rw [Bool.and_eq_true] at h
  rw [star_all h.1]
  have : decide (es.length + ([] : List Keyword).length + (if ([] : List Keyword).isEmpty then 0 else 1) < 30) = true := by
    have := of_decide_eq_true h.2
    exact decide_eq_true (by simpa using this)
  rw [this]
  rfl
end EV
end

section
set_option autoImplicit false
namespace EV
open PySem PySem.Spec PyProof.Rows

section
variable (T : Tb) (N : List Str)
mutual
def ckTg (sc : Scope) (blk : Bool) : Tg → Expr → Bool
  | .name i, e => match e with
    | .Name x _ => decide (N[i]? = some x) && locCB sc blk x
    | _ => false
  | .tup ts, e => match e with
    | .Tuple es _ _ => es.all unstar && (lenTs ts == es.length) && ckTgs sc blk ts es
    | _ => false
def ckTgs (sc : Scope) (blk : Bool) : Tgs → List Expr → Bool
  | .nil, es => es.isEmpty
  | .cons t r, es => match es with
    | e :: es => ckTg sc blk t e && ckTgs sc blk r es
    | [] => false
end
/-- own names with their places -/
def ownOf (own : List Nat) : List (Str × Nat) := own.map fun i => (N.getD i default, i)
theorem ownOf_map (own : List Nat) : (ownOf N own).map (·.2) = own := by
  unfold ownOf
  rw [List.map_map]
  exact List.map_id own
def subB (a b : List Nat) : Bool := a.all fun i => b.contains i
mutual
def ckE (sc : Scope) (blk : Bool) : E → Expr → Bool
  | .slot i, e => match e with
    | .Name x _ => decide (N[i]? = some x) && visB sc x && nmB x
    | _ => false
  | .cst d, e => match e with
    | .Constant c _ _ => cstV d c
    | _ => false
  | .glob d, e => match e with
    | .Name x _ => gloB sc x && nmB x && (match T.gl.lookup x with
      | some d' => D.same d' d
      | none => false)
    | _ => false
  | .fnv f, e => match e with
    | .Name x _ => gloB sc x && nmB x && decide (T.fn[f]? = some x)
    | _ => false
  | .bin o a b, e => match e with
    | .BinOp l op r _ => decide (op = opB o) && ckE sc blk a l && ckE sc blk b r
    | _ => false
  | .neg a, e => match e with
    | .UnaryOp .USub x _ => ckE sc blk a x
    | _ => false
  | .not a, e => match e with
    | .UnaryOp .Not x _ => unif x && ckE sc blk a x
    | _ => false
  | .cmp o a b, e => match e with
    | .Compare l [op] [r] _ => decide (op = opC o) && !behindInMarks op r && ckE sc blk a l && ckE sc blk b r
    | _ => false
  | .chain o1 o2 a b c, e => match e with
    | .Compare l [p1, p2] [m, r] _ => decide (p1 = opC o1) && decide (p2 = opC o2) && !lastMarks [p1, p2] [m, r] && ckE sc blk a l && ckE sc blk b m && ckE sc blk c r
    | _ => false
  | .isN a, e => match e with
    | .Compare l [.Is] [.Constant .none _ _] _ => ckE sc blk a l
    | _ => false
  | .notN a, e => match e with
    | .Compare l [.IsNot] [.Constant .none _ _] _ => ckE sc blk a l
    | _ => false
  | .and a b, e => match e with
    | .BoolOp .And (x :: y :: rest) pos => unif x && ckE sc blk a x && (match rest with
      | [] => unif y && ckE sc blk b y
      | z :: zs => ckE sc blk b (.BoolOp .And (y :: z :: zs) pos))
    | _ => false
  | .or a b, e => match e with
    | .BoolOp .Or (x :: y :: rest) pos => unif x && ckE sc blk a x && (match rest with
      | [] => unif y && ckE sc blk b y
      | z :: zs => ckE sc blk b (.BoolOp .Or (y :: z :: zs) pos))
    | _ => false
  | .ife t a b, e => match e with
    | .IfExp c x y _ => unif c && ckE sc blk t c && ckE sc blk a x && ckE sc blk b y
    | _ => false
  | .tup es, e => match e with
    | .Tuple l _ _ => ckEs sc blk es l
    | _ => false
  | .frz f, e => ckF sc blk f e
  | .mut f, e => ckF sc blk f e
  | .call f es, e => match e with
    | .Call (.Name x _) args [] _ => gloB sc x && nmB x && decide (T.fn[f]? = some x) && ckEs sc blk es args
    | _ => false
  | .callk f es, e => match e with
    | .Call (.Name x _) args [] _ => gloB sc x && nmB x && decide (T.fn[f]? = some x) && ckEs sc blk es args
    | _ => false
  | .callv i n es, e => match e with
    | .Call (.Name x _) args [] _ => decide (N[i]? = some x) && visB sc x && nmB x && decide (n = T.fn.length) && ckEs sc blk es args
    | _ => false
  | .bi b es, e => match e with
    | .Call (.Name x _) (a :: r) [] _ => decide (x = biNm b) && gloB sc x && ckEs sc blk es (a :: r)
    | _ => false
  | .meth m o es, e => match e with
    | .Call (.Attribute oe x apos) (a :: r) [] pos => decide (x = meNm m) && uncall oe && argsB (a :: r) && (apos.endLine == pos.line) && ckE sc blk o oe && ckEs sc blk es (a :: r) && (match m, r with
      | .append, [] => true
      | .append, _ => false
      | _, _ => true)
    | _ => false
  | .ix a b, e => match e with
    | .Subscript l i _ => unslice i && ckE sc blk a l && ckE sc blk b i
    | _ => false
  | .dget a b, e => match e with
    | .Subscript l i _ => unslice i && ckE sc blk a l && ckE sc blk b i
    | _ => false
  | .sl a lo hi, e => match e with
    | .Subscript l (.Slice lo' hi' none _) _ => ckE sc blk a l && ckO sc blk lo lo' && ckO sc blk hi hi'
    | _ => false
  | .isi a t, e => match e with
    | .Call (.Name f _) [x, .Name y _] [] _ => decide (f = ("isinstance" : Str)) && gloB sc f && decide (y = tyNm t) && gloB sc y && unstar x && ckE sc blk a x
    | _ => false
  | .dnew kt kvs, e => match e with
    | .Dict keys vals _ => (match keys with
      | [] => vals.isEmpty && (match kvs with
        | .nil => true
        | _ => false)
      | k :: ks => !kt && (k :: ks).all (·.isSome) && ((k :: ks).length == vals.length) && decide ((k :: ks).length ≤ 15) && ckK sc blk kvs (k :: ks) vals)
    | _ => false
  | .xfld _ _, _ => false
  | .mkx c f m kw a, e => match e with
    | .Call (.Name x _) args kws _ => (match T.xv[c]? with
      | some z => decide (z.cls = x) && decide (z.fld = f) && decide (z.msg = m)
      | none => false) && gloB sc x && nmB x && (match args, kws with
      | [v], [] => !kw && unstar v && ckE sc blk a v
      | [], [⟨some k, v, _⟩] => kw && decide (k = f) && ckE sc blk a v
      | _, _ => false)
    | _ => false
  | .mk0 c f m, e => match e with
    | .Call (.Name x _) [] [] _ => (match T.xv[c]? with
      | some z => decide (z.cls = x) && decide (z.fld = f) && decide (z.msg = m) && z.df
      | none => false) && gloB sc x && nmB x
    | _ => false
  | .isx x ks a, e => match e with
    | .Call (.Name f _) [v, .Name y _] [] _ => decide (f = ("isinstance" : Str)) && gloB sc f && decide (y = x) && gloB sc y && nmB y && decide (T.is.lookup x = some ks) && unstar v && ckE sc blk a v
    | _ => false
  | .xfl n f a, e => match e with
    | .Attribute o g _ => decide (g = f) && uncall o && (n == T.xv.length) && (T.xv.map (·.fld)).contains f && ckE sc blk a o
    | _ => false
  | .strx n a, e => match e with
    | .Call (.Name g _) [v] [] _ => decide (g = ("str" : Str)) && gloB sc g && (n == T.xv.length) && unstar v && ckE sc blk a v
    | _ => false
  | .tupr a, e => match e with
    | .Call (.Name f _) [.Call (.Name g _) [x] [] _] [] _ => decide (f = ("tuple" : Str)) && gloB sc f && decide (g = ("range" : Str)) && gloB sc g && unstar x && ckE sc blk a x
    | _ => false
def ckEs (sc : Scope) (blk : Bool) : Es → List Expr → Bool
  | .nil, l => l.isEmpty
  | .cons c r, l => match l with
    | e :: es => unstar e && ckE sc blk c e && ckEs sc blk r es
    | [] => false
def ckO (sc : Scope) (blk : Bool) : Oe → Option Expr → Bool
  | .none, o => o.isNone
  | .some c, o => match o with
    | some e => ckE sc blk c e
    | none => false
def ckK (sc : Scope) (blk : Bool) : Kvs → List (Option Expr) → List Expr → Bool
  | .nil, ks, vs => ks.isEmpty && vs.isEmpty
  | .cons ck cv r, ks, vs => match ks, vs with
    | some k :: ks, v :: vs => ckE sc blk ck k && ckE sc blk cv v && ckK sc blk r ks vs
    | _, _ => false
def ckF (sc : Scope) (blk : Bool) : F → Expr → Bool
  | .disp es, e => match e with
    | .List l _ => ckEs sc blk es l
    | _ => false
  | .lc n elt tg it t own, e => match e with
    | .ListComp ee gs scope _ => (match gs with
      | [⟨tge, ite, ifs, a⟩] => (a == 0) && (n == blk) && L2.blkC N sc scope (ownOf N own) && subB (tgIx tg) own && unset ite && ckI sc blk it tge ite && ckTg N (L2.relS scope sc) true tg tge && ckT (L2.relS scope sc) true t ifs && ckE (L2.relS scope sc) true elt ee
      | _ => false)
    | _ => false
  | .sl a lo hi, e => match e with
    | .Subscript l (.Slice lo' hi' none _) _ => ckE sc blk a l && ckO sc blk lo lo' && ckO sc blk hi hi'
    | _ => false
  | .rev _, _ => false
  | .cat a b, e => match e with
    | .BinOp l .Add r _ => ckE sc blk a l && ckE sc blk b r
    | _ => false
  | .lis a, e => match e with
    | .Call (.Name f _) [x] [] _ => decide (f = ("list" : Str)) && gloB sc f && unstar x && ckE sc blk a x
    | _ => false
def ckT (sc : Scope) (blk : Bool) : Oe → List Expr → Bool
  | .none, l => l.isEmpty
  | .some c, l => match l with
    | [e] => unif e && ckE sc blk c e
    | _ => false
def ckI (sc : Scope) (blk : Bool) : It → Expr → Expr → Bool
  | .val c, _, e => ckE sc blk c e
  | .range1 a, _, e => match e with
    | .Call (.Name f _) [x] [] _ => decide (f = ("range" : Str)) && gloB sc f && unstar x && ckE sc blk a x
    | _ => false
  | .range2 a b, _, e => match e with
    | .Call (.Name f _) [x, y] [] _ => decide (f = ("range" : Str)) && gloB sc f && unstar x && unstar y && ckE sc blk a x && ckE sc blk b y
    | _ => false
  | .enum a, tg, e => match tg, e with
    | .Tuple _ _ _, .Call (.Name f _) [x] [] _ => decide (f = ("enumerate" : Str)) && gloB sc f && unstar x && ckE sc blk a x
    | _, _ => false
  | .zip a b, tg, e => match tg, e with
    | .Tuple _ _ _, .Call (.Name f _) [x, y] [] _ => decide (f = ("zip" : Str)) && gloB sc f && unstar x && unstar y && ckE sc blk a x && ckE sc blk b y
    | _, _ => false
end

/-! ### statements -/
/-- name = [..] goes the other way -/
def swB (sc : Scope) (x : Str) (px : Pos) : Expr → Bool
  | .ListComp _ _ scope pos => locB sc x && (px.line == pos.line) && !(scope.names.any fun (n, k) => n == x && (k == .local || k == .cell))
  | _ => false
def parNm (sc : Scope) (line : Nat) : List Nat → List Expr → Bool
  | [], [] => true
  | i :: is, .Name x p :: r => decide (N[i]? = some x) && locB sc x && (p.line == line) && parNm sc line is r
  | _, _ => false
/-- the targets that are plain local names of one line -/
def locNms (sc : Scope) (ts : List Expr) : List Str := ts.filterMap fun
  | .Name x p => if locB sc x && p.line == (ts.head?.map (·.pos.line)).getD 0 then some x else none
  | _ => none
/-- a suite's expressions -/
def ckX (sc : Scope) : E → Expr → Bool
  | .slot i, e => ckE T N sc false (.slot i) e
  | .cst d, e => ckE T N sc false (.cst d) e
  | .glob d, e => ckE T N sc false (.glob d) e
  | .xfld i c, e => match e with
    | .Attribute (.Name x _) f _ => decide (N[i]? = some x) && visB sc x && nmB x && decide (T.fl[c]? = some f) && decide (c < T.ex.length)
    | _ => false
  | _, _ => false
def ckXs (sc : Scope) : Es → List Expr → Bool
  | .nil, l => l.isEmpty
  | .cons c r, l => match l with
    | e :: es => unstar e && ckX T N sc c e && ckXs sc r es
    | [] => false
def ckXt (sc : Scope) (c : E) (e : Expr) : Bool := match c, e with
  | .tup es, .Tuple l _ _ => ckXs T N sc es l
  | c, e => ckX T N sc c e
/-- an unnamed clause's suite -/
def ckU (sc : Scope) (s : Ss) (l : List Stmt) : Bool := match s, l with
  | .cons (.ret c) .nil, [.Return (some e) _] => ckXt T N sc c e
  | .cons .pass .nil, [.Pass _] => true
  | .cons .cont .nil, [.Continue _] => true
  | .cons (.set i c) .nil, [.Assign [.Name x _] e _] => decide (N[i]? = some x) && locCB sc false x && uncomp e && ckXt T N sc c e
  | _, _ => false
def ckH (sc : Scope) : Hs → List ExceptHandler → Bool
  | .nil, l => l.isEmpty
  | .cons n c i s r, l => match l with
    | .ExceptHandler (some (.Name x _)) nm body _ :: hds => decide (n = T.ex.length) && decide (c < n) && decide (T.ex[c]? = some x) && gloB sc x && nmB x && ckH sc r hds && (match i, nm with
      | none, none => (match body with
        | b :: bs => ckU T N sc s (b :: bs)
        | [] => false)
      | some j, some y => decide (N[j]? = some y) && locB sc y && (match s, body with
        | .cons (.ret ce) .nil, [.Return (some e) _] => ckXt T N sc ce e
        | _, _ => false)
      | _, _ => false)
    | _ => false
mutual
def ckS (sc : Scope) : S → Stmt → Bool
  | .set i c, st => match st with
    | .Assign [.Name x px] e pos => decide (N[i]? = some x) && locCB sc false x && (uncomp e || (match e with
      | .ListComp _ _ _ _ => true
      | _ => false)) && ckE T N sc false c e
    | _ => false
  | .par is es, st => match st with
    | .Assign [.Tuple ts _ _] (.Tuple vs _ _) _ => (ts.length == is.length) && (vs.length == is.length) && (is.length == 2 || is.length == 3) && parNm N sc ((ts.head?.map (·.pos.line)).getD 0) is ts && decide is.Nodup && !vs.all (foldedForSure 8) && !vs.all (constantsAlone 8) && ckEs T N sc false es vs
    | _ => false
  | .asg t c, st => match st with
    | .Assign [.Tuple ts k p] e _ => ckTg N sc false t (.Tuple ts k p) && uncomp e && ckE T N sc false c e && (untup e || (match e with
      | .Tuple vs _ _ => vs.all (foldedForSure 8) || ((locNms sc ts).length != ts.length)
      | _ => false))
    | _ => false
  | .setIx o i c, st => match st with
    | .Assign [.Subscript oe ie _] e _ => unslice ie && ckE T N sc false o oe && ckE T N sc false i ie && ckE T N sc false c e
    | _ => false
  | .setK o i c, st => match st with
    | .Assign [.Subscript oe ie _] e _ => unslice ie && ckE T N sc false o oe && ckE T N sc false i ie && ckE T N sc false c e
    | _ => false
  | .aug i o c, st => match st with
    | .AugAssign (.Name x _) op e _ => decide (N[i]? = some x) && locCB sc false x && ckE T N sc false c e && (match o, op with
      | .add, .Add => true
      | .sub, .Sub => true
      | _, _ => false)
    | _ => false
  | .ex c, st => match st with
    | .Expr e _ => uncomp e && ckE T N sc false c e
    | _ => false
  | .ife t a b, st => match st with
    | .If c x y _ => unif c && ckE T N sc false t c && ckSs sc a x && ckSs sc b y
    | _ => false
  | .for_ t it b, st => match st with
    | .For tg ie body [] _ => unset ie && ckTg N sc false t tg && ckI T N sc false it tg ie && ckSs sc b body
    | _ => false
  | .while_ t b, st => match st with
    | .While c body [] _ => unif c && ckE T N sc false t c && ckSs sc b body
    | _ => false
  | .ret c, st => match st with
    | .Return (some e) _ => ckE T N sc false c e
    | _ => false
  | .retN, st => match st with
    | .Return none _ => true
    | _ => false
  | .raise c a, st => match st with
    | .Raise (some (.Call (.Name x _) [e] [] _)) none _ => decide (T.ex[c]? = some x) && gloB sc x && nmB x && unstar e && ckE T N sc false a e
    | _ => false
  | .try_ b hs, st => match st with
    | .Try body (h :: hds) [] [] _ => ckSs sc b body && ckH T N sc hs (h :: hds)
    | _ => false
  | .pass, st => match st with
    | .Pass _ => true
    | _ => false
  | .brk, st => match st with
    | .Break _ => true
    | _ => false
  | .cont, st => match st with
    | .Continue _ => true
    | _ => false
def ckSs (sc : Scope) : Ss → List Stmt → Bool
  | .nil, l => l.isEmpty
  | .cons c r, l => match l with
    | s :: ss => ckS sc c s && ckSs sc r ss
    | [] => false
end
/-- a body, its docstring left out -/
def ckB (sc : Scope) (c : Ss) (body : List Stmt) : Bool := match body with
  | .Expr (.Constant (.str _) _ _) _ :: r => ckSs T N sc c r
  | b => ckSs T N sc c b
end
end EV
end

section
set_option autoImplicit false
/-! The checker's yes: the text says what the evaluator says. -/
namespace EV
open PySem PySem.Spec PyProof.Rows

def blts : List Str := ["len", "tuple", "all", "any", "sum", "str", "int", "bool", "list", "isinstance", "range", "enumerate", "zip"]
structure CtxE (C : Cfg) (T : Tb) (cf : Nat → List D → M D) (N : List Str) (sc : Scope) (blk : Bool) (X : L2.Cx) : Prop where
  K : X.K = C.K
  calm : X.calm = true
  hu : X.A.units + 65 < cLine
  nN : X.N = N
  nd : N.Nodup
  scp : X.env.scope = sc
  kind : sc.kind = .function
  gl : ∀ x d, T.gl.lookup x = some d → ∃ u v, X.mg x = some u ∧ L2.RelV v u ∧ ∀ Z ι H, RV C Z ι H d v
  bl : ∀ x ∈ blts, X.mg x = none
  fn : ∀ f x, T.fn[f]? = some x → X.mg x = some (.ref (C.adr f)) ∧ Cal X C cf f
  fnT : blk = false → ∀ x, X.fn x = true
  xv : ∀ c z, T.xv[c]? = some z → Xva X C c z.cls z.fld z.msg z.df
  is : ∀ x ks, T.is.lookup x = some ks → IsC X C x ks
  xl : ∀ c, c < T.xv.length → XvL X.K (C.xcl c) ∧ ∀ f, (T.xv.map (·.fld)).contains f = true → PySem.W.findIn X.K (.ref (C.xcl c)) f = some none
structure Own (X : L2.Cx) (W : L2.WX) : Prop where
  stk : X.stack = X.env :: X.outer
  fr : X.env.frame = some X.env.locals
  tk : L2.Takes X W
  po : PassesOwn (model X.prog X.w) X.A X.env X.xe
section
variable {C : Cfg} {T : Tb} {cf : Nat → List D → M D} {N : List Str} {sc : Scope} {blk : Bool} {X : L2.Cx} {W : L2.WX}
theorem CtxE.blkc (c : CtxE C T cf N sc blk X) {scope : Scope} {own : List (Str × Nat)} (ok : L2.BlkOk N sc scope own) (s : Shared) (H : L2.Hp) (C' : Addr) (cl : List (Str × Addr)) (fp : List Addr) (xe : Value → Shared → Prop) :
    CtxE C T cf N (L2.relS scope sc) true (blkX X s H scope (compEnvC scope cl C' X.env) fp xe) where
  K := c.K
  calm := c.calm
  hu := c.hu
  nN := c.nN
  nd := c.nd
  scp := by rw [← c.scp]; rfl
  kind := ok.kind
  gl := c.gl
  bl := c.bl
  fn := fun f x h => ⟨(c.fn f x h).1, ⟨(c.fn f x h).2.ex, (c.fn f x h).2.keep⟩⟩
  fnT := fun h => nomatch h
  xv := fun x z h => ⟨(c.xv x z h).mg, (c.xv x z h).am, (c.xv x z h).T, (c.xv x z h).ex⟩
  is := fun x ks h => ⟨(c.is x ks h).ex, (c.is x ks h).il⟩
  xl := c.xl
theorem CtxE.trc (c : CtxE C T cf N sc blk X) (pn : List (Addr × Obj)) (xe : Value → Shared → Prop) : CtxE C T cf N sc blk (X.tr pn xe) where
  K := c.K
  calm := c.calm
  hu := c.hu
  nN := c.nN
  nd := c.nd
  scp := c.scp
  kind := c.kind
  gl := c.gl
  bl := c.bl
  fn := fun f x h => ⟨(c.fn f x h).1, ⟨(c.fn f x h).2.ex, (c.fn f x h).2.keep⟩⟩
  fnT := c.fnT
  xv := fun x z h => ⟨(c.xv x z h).mg, (c.xv x z h).am, (c.xv x z h).T, (c.xv x z h).ex⟩
  is := fun x ks h => ⟨(c.is x ks h).ex, (c.is x ks h).il⟩
  xl := c.xl
theorem CtxE.vis (c : CtxE C T cf N sc blk X) {x : Str} (h : visB sc x = true) : L2.Vis X.env.scope x := by rw [c.scp]; exact visB_ok h
theorem CtxE.glo (c : CtxE C T cf N sc blk X) {x : Str} (h : gloB sc x = true) : L2.Gl X x := by
  show X.env.scope.names.lookup x = _
  rw [c.scp]; exact gloB_ok h
theorem CtxE.ix (c : CtxE C T cf N sc blk X) {x : Str} {i : Nat} (h : decide (N[i]? = some x) = true) : X.N[i]? = some x := by rw [c.nN]; exact of_decide_eq_true h
theorem CtxE.ndX (c : CtxE C T cf N sc blk X) : X.N.Nodup := by rw [c.nN]; exact c.nd
theorem CtxE.loc (c : CtxE C T cf N sc blk X) {x : Str} (h : locCB sc blk x = true) : L2.Loc X.env.scope x ∧ (X.fn x = true ∨ X.env.scope.names.lookup x = some .local) := by
  obtain ⟨h1, h2⟩ := locCB_ok h
  refine ⟨by rw [c.scp]; exact h1, ?_⟩
  cases blk with
  | false => exact .inl (c.fnT rfl x)
  | true => exact .inr (by rw [c.scp]; exact h2 rfl)
end

section
variable {C : Cfg} {T : Tb} {cf : Nat → List D → M D} {N : List Str}
theorem assign_un {e : Expr} {es : List Expr} {env : PySem.Env} (h : unstar e = true) : assignEach (e :: es) env = (false, assign e env) :: assignEach es env := by
  cases e <;> first | rfl | cases h
theorem assign_len {env : PySem.Env} : ∀ (es : List Expr), (assignEach es env).length = es.length
  | [] => rfl
  | e :: es => by
    have : ∃ b t, assignEach (e :: es) env = (b, t) :: assignEach es env := by cases e <;> exact ⟨_, _, rfl⟩
    obtain ⟨b, t, h⟩ := this
    rw [h, List.length_cons, assign_len es, List.length_cons]
theorem assign_nostar {env : PySem.Env} : ∀ {es : List Expr}, es.all unstar = true → (assignEach es env).findIdx? (·.1) = none
  | [], _ => rfl
  | e :: es, h => by
    rw [List.all_cons, Bool.and_eq_true] at h
    rw [assign_un h.1, List.findIdx?_cons]
    simp [assign_nostar h.2]
mutual
theorem sndTg : ∀ (t : Tg) {X : L2.Cx} {sc : Scope} {blk : Bool} {e : Expr}, CtxE C T cf N sc blk X → ckTg N sc blk t e = true → L2.PG X e (rB C t)
  | .name i, X, sc, blk, e, c, h => by
    unfold ckTg at h
    split at h
    · rw [Bool.and_eq_true] at h
      obtain ⟨h1, h2⟩ := c.loc h.2
      exact g_name c.ndX (c.ix h.1) h1 h2
    · cases h
  | .tup ts, X, sc, blk, e, c, h => by
    unfold ckTg at h
    split at h
    · rename_i es k p
      simp only [Bool.and_eq_true] at h
      obtain ⟨⟨h1, h2⟩, h3⟩ := h
      exact g_tup c.K c.calm (sndTgs ts c h1 h3) (by rw [assign_len]; exact (beq_iff_eq.mp h2).symm) (assign_nostar h1)
    · cases h
theorem sndTgs : ∀ (t : Tgs) {X : L2.Cx} {sc : Scope} {blk : Bool} {es : List Expr}, CtxE C T cf N sc blk X → es.all unstar = true → ckTgs N sc blk t es = true → L2.PGs X es (rBs C t)
  | .nil, X, sc, blk, es, c, _, h => by
    unfold ckTgs at h
    cases es with
    | nil => exact gs_nil
    | cons _ _ => cases h
  | .cons t r, X, sc, blk, es, c, hu, h => by
    unfold ckTgs at h
    cases es with
    | nil => cases h
    | cons e es =>
      simp only [Bool.and_eq_true] at h
      rw [List.all_cons, Bool.and_eq_true] at hu
      exact gs_cons (by rw [assign_un hu.1]; rfl) (sndTg t c h.1) (sndTgs r c hu.2 h.2)
end
theorem subB_ok {a b : List Nat} (h : subB a b = true) : ∀ i ∈ a, i ∈ b := fun i hi => by
  have := List.all_eq_true.mp h i hi
  simpa using this
theorem pw_of {X : L2.Cx} {op : BoolOp} {x : Expr} {xs : List Expr} {pos : Pos} {t : L2.TT} (h : L2.PT X (.BoolOp op (x :: xs) pos) t) : L2.PW X (.BoolOp op (x :: xs) pos) t := ⟨fun whole pins s σ H Q I w => h.run pins s σ H Q I w⟩
theorem ckEs_un {sc : Scope} {blk : Bool} : ∀ {c : Es} {es : List Expr}, ckEs T N sc blk c es = true → es.all unstar = true := by
  intro c es
  induction es generalizing c with
  | nil => intro _; rfl
  | cons e es ih =>
    intro h
    cases c with
    | nil => unfold ckEs at h; cases h
    | cons c r =>
      unfold ckEs at h
      simp only [Bool.and_eq_true] at h
      rw [List.all_cons, h.1.1, ih h.2]
      rfl
end
end EV
end

section
set_option autoImplicit false
namespace EV
open PySem PySem.Spec PyProof.Rows
section
variable {C : Cfg} {T : Tb} {cf : Nat → List D → M D} {N : List Str}
theorem pePT {X : L2.Cx} {W : L2.WX} {e : Expr} {m : Env → M D} (h : L2.PE X e (rE C W m)) (hp : plainT e = true) : L2.PE X e (rE C W m) ∧ (unif e = true → L2.PT X e (rT C W m)) := ⟨h, fun _ => st_val h (plainT_of hp)⟩
theorem CtxE.free {sc : Scope} {blk : Bool} {X : L2.Cx} (c : CtxE C T cf N sc blk X) {x : Str} (h : blts.contains x = true) : X.mg x = none := c.bl x (by simpa using h)
theorem biNm_blt (b : Bi) : blts.contains (biNm b) = true := by cases b <;> decide +kernel
theorem tyNm_blt (t : Ty) : blts.contains (tyNm t) = true := by cases t <;> decide +kernel
theorem opB_dec {b : Bool} (h : (!b) = true) : b = false := by cases b <;> simp_all
set_option maxHeartbeats 4000000 in
mutual
theorem sndE : ∀ (t : E) {X : L2.Cx} {W : L2.WX} {sc : Scope} {blk : Bool} {e : Expr}, CtxE C T cf N sc blk X → Takes2 X W → (blk = false → Own X W) → ckE T N sc blk t e = true → L2.PE X e (rE C W (evE cf t)) ∧ (unif e = true → L2.PT X e (rT C W (evE cf t)))
  | .slot i, X, W, sc, blk, e, c, tk, ow, h => by
    unfold ckE at h
    split at h
    · simp only [Bool.and_eq_true] at h
      obtain ⟨⟨h1, h2⟩, h3⟩ := h
      exact pePT (s_slot (c.ix h1) (c.vis h2) (nmB_ok h3).1 (nmB_ok h3).2) rfl
    · cases h
  | .cst d, X, W, sc, blk, e, c, tk, ow, h => by
    unfold ckE at h
    split at h
    · exact pePT (s_cst h) rfl
    · cases h
  | .glob d, X, W, sc, blk, e, c, tk, ow, h => by
    unfold ckE at h
    split at h
    · simp only [Bool.and_eq_true] at h
      obtain ⟨⟨h1, h2⟩, h3⟩ := h
      split at h3
      · rename_i d' hd
        obtain ⟨u, v, m, r, rv⟩ := c.gl _ _ hd
        rw [same_eq _ _ h3] at rv
        exact pePT (s_glob (c.glo h1) m r (nmB_ok h2).1 rv) rfl
      · cases h3
    · cases h
  | .fnv f, X, W, sc, blk, e, c, tk, ow, h => by
    unfold ckE at h
    split at h
    · simp only [Bool.and_eq_true] at h
      obtain ⟨⟨h1, h2⟩, h3⟩ := h
      exact pePT (s_fnv (c.glo h1) (c.fn _ _ (of_decide_eq_true h3)).1 (nmB_ok h2).1) rfl
    · cases h
  | .bin o a b, X, W, sc, blk, e, c, tk, ow, h => by
    unfold ckE at h
    split at h
    · simp only [Bool.and_eq_true] at h
      obtain ⟨⟨h1, h2⟩, h3⟩ := h
      exact pePT (s_bin c.K (of_decide_eq_true h1) (sndE a c tk ow h2).1 (sndE b c tk ow h3).1) rfl
    · cases h
  | .neg a, X, W, sc, blk, e, c, tk, ow, h => by
    unfold ckE at h
    split at h
    · exact pePT (s_neg (sndE a c tk ow h).1) rfl
    · cases h
  | .not a, X, W, sc, blk, e, c, tk, ow, h => by
    unfold ckE at h
    split at h
    · simp only [Bool.and_eq_true] at h
      have := sndE a c tk ow h.2
      exact ⟨s_not this.1, fun _ => st_not (this.2 h.1)⟩
    · cases h
  | .cmp o a b, X, W, sc, blk, e, c, tk, ow, h => by
    unfold ckE at h
    split at h
    · simp only [Bool.and_eq_true] at h
      obtain ⟨⟨⟨h1, h2⟩, h3⟩, h4⟩ := h
      have ha := (sndE a c tk ow h3).1
      have hb := (sndE b c tk ow h4).1
      exact ⟨s_cmp c.K c.hu (of_decide_eq_true h1) (opB_dec h2) ha hb, fun _ => st_cmp c.K c.hu (of_decide_eq_true h1) (opB_dec h2) ha hb⟩
    · cases h
  | .chain o1 o2 a b d, X, W, sc, blk, e, c, tk, ow, h => by
    unfold ckE at h
    split at h
    · simp only [Bool.and_eq_true] at h
      obtain ⟨⟨⟨⟨⟨h1, h2⟩, h3⟩, h4⟩, h5⟩, h6⟩ := h
      have ha := (sndE a c tk ow h4).1
      have hb := (sndE b c tk ow h5).1
      have hd := (sndE d c tk ow h6).1
      exact ⟨s_chain c.K c.hu (of_decide_eq_true h1) (of_decide_eq_true h2) (opB_dec h3) ha hb hd, fun _ => st_chain c.K c.hu (of_decide_eq_true h1) (of_decide_eq_true h2) (opB_dec h3) ha hb hd⟩
    · cases h
  | .isN a, X, W, sc, blk, e, c, tk, ow, h => by
    unfold ckE at h
    split at h
    · have := (sndE a c tk ow h).1
      exact ⟨s_isN this, fun _ => st_isN this⟩
    · cases h
  | .notN a, X, W, sc, blk, e, c, tk, ow, h => by
    unfold ckE at h
    split at h
    · have := (sndE a c tk ow h).1
      exact ⟨s_notN this, fun _ => st_notN this⟩
    · cases h
  | .and a b, X, W, sc, blk, e, c, tk, ow, h => by
    unfold ckE at h
    split at h
    · rename_i x y rest pos
      simp only [Bool.and_eq_true] at h
      obtain ⟨⟨h1, h2⟩, h3⟩ := h
      have ha := sndE a c tk ow h2
      split at h3
      · simp only [Bool.and_eq_true] at h3
        have hb := sndE b c tk ow h3.2
        exact ⟨s_and ha.1 (s_one hb.1), fun _ => (sw_and (ha.2 h1) (sw_and1 (hb.2 h3.1))).pt⟩
      · have hb := sndE b c tk ow h3
        exact ⟨s_and ha.1 hb.1, fun _ => (sw_and (ha.2 h1) (pw_of (hb.2 rfl))).pt⟩
    · cases h
  | .or a b, X, W, sc, blk, e, c, tk, ow, h => by
    unfold ckE at h
    split at h
    · rename_i x y rest pos
      simp only [Bool.and_eq_true] at h
      obtain ⟨⟨h1, h2⟩, h3⟩ := h
      have ha := sndE a c tk ow h2
      split at h3
      · simp only [Bool.and_eq_true] at h3
        have hb := sndE b c tk ow h3.2
        exact ⟨s_or ha.1 (s_one hb.1), fun _ => (sw_or (ha.2 h1) (sw_or1 (hb.2 h3.1))).pt⟩
      · have hb := sndE b c tk ow h3
        exact ⟨s_or ha.1 hb.1, fun _ => (sw_or (ha.2 h1) (pw_of (hb.2 rfl))).pt⟩
    · cases h
  | .ife t a b, X, W, sc, blk, e, c, tk, ow, h => by
    unfold ckE at h
    split at h
    · simp only [Bool.and_eq_true] at h
      obtain ⟨⟨⟨h1, h2⟩, h3⟩, h4⟩ := h
      exact ⟨s_ife ((sndE t c tk ow h2).2 h1) (sndE a c tk ow h3).1 (sndE b c tk ow h4).1, fun q => by cases q⟩
    · cases h
  | .tup es, X, W, sc, blk, e, c, tk, ow, h => by
    unfold ckE at h
    split at h
    · exact pePT (s_tup (sndEs es c tk ow h)) rfl
    · cases h
  | .frz f, X, W, sc, blk, e, c, tk, ow, h => by
    unfold ckE at h
    have := sndF f c tk ow h
    exact pePT (s_frz this.1) this.2
  | .mut f, X, W, sc, blk, e, c, tk, ow, h => by
    unfold ckE at h
    have := sndF f c tk ow h
    exact pePT (s_mut this.1) this.2
  | .call f es, X, W, sc, blk, e, c, tk, ow, h => by
    unfold ckE at h
    split at h
    · rename_i x p args pos
      simp only [Bool.and_eq_true] at h
      obtain ⟨⟨⟨h1, h2⟩, h3⟩, h4⟩ := h
      obtain ⟨m, cal⟩ := c.fn _ _ (of_decide_eq_true h3)
      have ha := sndEs es c tk ow h4
      have hu := ckEs_un h4
      cases args with
      | nil =>
        have e0 : es = .nil := by
          cases es with
          | nil => rfl
          | cons _ _ => unfold ckEs at h4; cases h4
        subst e0
        exact pePT (s_call0 cal tk (c.glo h1) m (nmB_ok h2).1) rfl
      | cons a r =>
        rw [List.all_cons, Bool.and_eq_true] at hu
        exact pePT (s_call cal tk (c.glo h1) m (nmB_ok h2).1 ha (star_of hu.1) (star_any hu.2)) rfl
    · cases h
  | .callk f es, X, W, sc, blk, e, c, tk, ow, h => by
    unfold ckE at h
    split at h
    · rename_i x p args pos
      simp only [Bool.and_eq_true] at h
      obtain ⟨⟨⟨h1, h2⟩, h3⟩, h4⟩ := h
      obtain ⟨m, cal⟩ := c.fn _ _ (of_decide_eq_true h3)
      have ha := sndEs es c tk ow h4
      have hu := ckEs_un h4
      cases args with
      | nil =>
        have e0 : es = .nil := by
          cases es with
          | nil => rfl
          | cons _ _ => unfold ckEs at h4; cases h4
        subst e0
        exact pePT (s_callk0 cal tk (c.glo h1) m (nmB_ok h2).1) rfl
      | cons a r =>
        rw [List.all_cons, Bool.and_eq_true] at hu
        exact pePT (s_callk cal tk (c.glo h1) m (nmB_ok h2).1 ha (star_of hu.1) (star_any hu.2)) rfl
    · cases h
  | .callv i n es, X, W, sc, blk, e, c, tk, ow, h => by
    unfold ckE at h
    split at h
    · rename_i x p args pos
      simp only [Bool.and_eq_true] at h
      obtain ⟨⟨⟨⟨h1, h2⟩, h3⟩, hn⟩, h4⟩ := h
      have cal : ∀ f, f < n → Cal X C cf f := fun f hf => by
        rw [of_decide_eq_true hn] at hf
        exact (c.fn f _ (List.getElem?_eq_getElem hf)).2
      have ha := sndEs es c tk ow h4
      have hu := ckEs_un h4
      cases args with
      | nil =>
        have e0 : es = .nil := by
          cases es with
          | nil => rfl
          | cons _ _ => unfold ckEs at h4; cases h4
        subst e0
        exact pePT (s_callv0 cal tk (c.ix h1) (c.vis h2) (nmB_ok h3).1 (nmB_ok h3).2) rfl
      | cons a r =>
        rw [List.all_cons, Bool.and_eq_true] at hu
        exact pePT (s_callv cal tk (c.ix h1) (c.vis h2) (nmB_ok h3).1 (nmB_ok h3).2 ha (star_of hu.1) (star_any hu.2)) rfl
    · cases h
  | .bi b es, X, W, sc, blk, e, c, tk, ow, h => by
    unfold ckE at h
    split at h
    · rename_i x p a r pos
      simp only [Bool.and_eq_true] at h
      obtain ⟨⟨h1, h2⟩, h3⟩ := h
      have hx := of_decide_eq_true h1
      have hu := ckEs_un h3
      rw [List.all_cons, Bool.and_eq_true] at hu
      exact pePT (s_bi hx c.K c.calm (c.glo h2) (c.free (by rw [hx]; exact biNm_blt b)) (sndEs es c tk ow h3) (star_of hu.1) (star_any hu.2)) rfl
    · cases h
  | .meth m o es, X, W, sc, blk, e, c, tk, ow, h => by
    unfold ckE at h
    split at h
    · rename_i oe x apos a r pos
      simp only [Bool.and_eq_true] at h
      obtain ⟨⟨⟨⟨⟨⟨h1, h2⟩, h3⟩, h4⟩, h5⟩, h6⟩, h7⟩ := h
      have hx := of_decide_eq_true h1
      have hu := ckEs_un h6
      rw [List.all_cons, Bool.and_eq_true] at hu
      have ho := (sndE o c tk ow h5).1
      have ha := sndEs es c tk ow h6
      split at h7
      · exact pePT (s_append hx c.K ho ha (base_of h2) (few_of h3) h4 (star_of hu.1)) rfl
      · cases h7
      · rename_i hm0 hm
        by_cases hm' : m = .append
        · subst hm'
          first
            | exact absurd rfl hm
            | exact absurd rfl hm0
            | exact (hm0 rfl).elim
        · exact pePT (s_meth hx hm' c.K ho ha (base_of h2) (few_of h3) h4 (star_of hu.1) (star_any hu.2)) rfl
    · cases h
  | .ix a b, X, W, sc, blk, e, c, tk, ow, h => by
    unfold ckE at h
    split at h
    · simp only [Bool.and_eq_true] at h
      obtain ⟨⟨h1, h2⟩, h3⟩ := h
      exact pePT (s_ix c.K (plainIx_of h1) (sndE a c tk ow h2).1 (sndE b c tk ow h3).1) rfl
    · cases h
  | .dget a b, X, W, sc, blk, e, c, tk, ow, h => by
    unfold ckE at h
    split at h
    · simp only [Bool.and_eq_true] at h
      obtain ⟨⟨h1, h2⟩, h3⟩ := h
      exact pePT (s_dget c.hu (noSl_of h1) (sndE a c tk ow h2).1 (sndE b c tk ow h3).1) rfl
    · cases h
  | .sl a lo hi, X, W, sc, blk, e, c, tk, ow, h => by
    unfold ckE at h
    split at h
    · simp only [Bool.and_eq_true] at h
      obtain ⟨⟨h1, h2⟩, h3⟩ := h
      exact pePT (s_sl c.K (sndE a c tk ow h1).1 (sndO lo c tk ow h2) (sndO hi c tk ow h3)) rfl
    · cases h
  | .isi a t, X, W, sc, blk, e, c, tk, ow, h => by
    unfold ckE at h
    split at h
    · simp only [Bool.and_eq_true] at h
      obtain ⟨⟨⟨⟨⟨h1, h2⟩, h3⟩, h4⟩, h5⟩, h6⟩ := h
      have hf := of_decide_eq_true h1
      have hy := of_decide_eq_true h3
      subst hf
      exact pePT (s_isi hy c.K (c.glo h2) (c.free (by decide +kernel)) (c.glo h4) (c.free (by rw [hy]; exact tyNm_blt t)) (sndE a c tk ow h6).1 (star_of h5)) rfl
    · cases h
  | .dnew kt kvs, X, W, sc, blk, e, c, tk, ow, h => by
    unfold ckE at h
    split at h
    · rename_i keys vals pos
      cases keys with
      | nil =>
        simp only [Bool.and_eq_true] at h
        obtain ⟨h1, h2⟩ := h
        cases vals with
        | cons _ _ => cases h1
        | nil =>
          cases kvs with
          | cons _ _ _ => cases h2
          | nil => exact pePT s_dnewT rfl
      | cons k ks =>
        simp only [Bool.and_eq_true] at h
        obtain ⟨⟨⟨⟨h1, h2⟩, h3⟩, h4⟩, h5⟩ := h
        have hk : kt = false := opB_dec h1
        subst hk
        exact pePT (s_dnew (sndK kvs c tk ow h5) h2 (beq_iff_eq.mp h3) (by simp) (of_decide_eq_true h4)) rfl
    · cases h
  | .xfld _ _, X, W, sc, blk, e, c, tk, ow, h => by
    unfold ckE at h
    cases h
  | .mkx n f m kw a, X, W, sc, blk, e, c, tk, ow, h => by
    unfold ckE at h
    split at h
    · rename_i x p args kws pos
      simp only [Bool.and_eq_true] at h
      obtain ⟨⟨⟨h1, h2⟩, h3⟩, h4⟩ := h
      split at h1
      · rename_i z hz
        simp only [Bool.and_eq_true, decide_eq_true_eq] at h1
        obtain ⟨⟨rfl, rfl⟩, rfl⟩ := h1
        have r := c.xv _ _ hz
        split at h4
        · simp only [Bool.and_eq_true, Bool.not_eq_true'] at h4
          obtain ⟨⟨rfl, h6⟩, h7⟩ := h4
          exact pePT (z_mkx r (c.glo h2) (nmB_ok h3).1 (sndE a c tk ow h7).1 (star_of h6)) rfl
        · simp only [Bool.and_eq_true, decide_eq_true_eq] at h4
          obtain ⟨⟨rfl, rfl⟩, h7⟩ := h4
          exact pePT (z_mkk r (c.glo h2) (nmB_ok h3).1 (L2.pk_cons (sndE a c tk ow h7).1 L2.pk_nil) rfl rfl rfl) rfl
        · cases h4
      · cases h1
    · cases h
  | .mk0 n f m, X, W, sc, blk, e, c, tk, ow, h => by
    unfold ckE at h
    split at h
    · rename_i x p pos
      simp only [Bool.and_eq_true] at h
      obtain ⟨⟨h1, h2⟩, h3⟩ := h
      split at h1
      · rename_i z hz
        simp only [Bool.and_eq_true, decide_eq_true_eq] at h1
        obtain ⟨⟨⟨rfl, rfl⟩, rfl⟩, h4⟩ := h1
        have r := c.xv _ _ hz
        rw [h4] at r
        exact pePT (z_mk0 r (c.glo h2) (nmB_ok h3).1) rfl
      · cases h1
    · cases h
  | .isx x ks a, X, W, sc, blk, e, c, tk, ow, h => by
    unfold ckE at h
    split at h
    · simp only [Bool.and_eq_true, decide_eq_true_eq] at h
      obtain ⟨⟨⟨⟨⟨⟨⟨h1, h2⟩, h3⟩, h4⟩, h5⟩, h6⟩, h7⟩, h8⟩ := h
      subst h1 h3
      exact pePT (z_isx (c.is _ _ h6) (c.glo h2) (c.free (by decide +kernel)) (c.glo h4) (nmB_ok h5).1 (sndE a c tk ow h8).1 (star_of h7)) rfl
    · cases h
  | .xfl n f a, X, W, sc, blk, e, c, tk, ow, h => by
    unfold ckE at h
    split at h
    · simp only [Bool.and_eq_true, decide_eq_true_eq] at h
      obtain ⟨⟨⟨⟨h1, h2⟩, h3⟩, h4⟩, h5⟩ := h
      subst h1
      exact pePT (z_xfl (fun k hk => by rw [beq_iff_eq.mp h3] at hk; exact ⟨(c.xl k hk).1, (c.xl k hk).2 _ h4⟩) (sndE a c tk ow h5).1 (base_of h2)) rfl
    · cases h
  | .strx n a, X, W, sc, blk, e, c, tk, ow, h => by
    unfold ckE at h
    split at h
    · simp only [Bool.and_eq_true, decide_eq_true_eq] at h
      obtain ⟨⟨⟨⟨h1, h2⟩, h3⟩, h4⟩, h5⟩ := h
      subst h1
      exact pePT (z_strx (fun k hk => by rw [beq_iff_eq.mp h3] at hk; exact (c.xl k hk).1) c.hu (c.glo h2) (c.free (by decide +kernel)) (sndE a c tk ow h5).1 (star_of h4)) rfl
    · cases h
  | .tupr a, X, W, sc, blk, e, c, tk, ow, h => by
    unfold ckE at h
    split at h
    · simp only [Bool.and_eq_true] at h
      obtain ⟨⟨⟨⟨⟨h1, h2⟩, h3⟩, h4⟩, h5⟩, h6⟩ := h
      have hf := of_decide_eq_true h1
      have hy := of_decide_eq_true h3
      subst hf hy
      exact pePT (s_tupr c.calm (c.glo h2) (c.free (by decide +kernel)) (c.glo h4) (c.free (by decide +kernel)) (sndE a c tk ow h6).1 (star_of h5)) rfl
    · cases h
theorem sndEs : ∀ (t : Es) {X : L2.Cx} {W : L2.WX} {sc : Scope} {blk : Bool} {es : List Expr}, CtxE C T cf N sc blk X → Takes2 X W → (blk = false → Own X W) → ckEs T N sc blk t es = true → L2.PA X es (rA C W (evEs cf t))
  | .nil, X, W, sc, blk, es, c, tk, ow, h => by
    unfold ckEs at h
    cases es with
    | nil => exact s_nil
    | cons _ _ => cases h
  | .cons t r, X, W, sc, blk, es, c, tk, ow, h => by
    unfold ckEs at h
    cases es with
    | nil => cases h
    | cons e es =>
      simp only [Bool.and_eq_true] at h
      exact s_cons (star_of h.1.1) (sndE t c tk ow h.1.2).1 (sndEs r c tk ow h.2)
theorem sndO : ∀ (t : Oe) {X : L2.Cx} {W : L2.WX} {sc : Scope} {blk : Bool} {o : Option Expr}, CtxE C T cf N sc blk X → Takes2 X W → (blk = false → Own X W) → ckO T N sc blk t o = true → L2.PO X o (rO C W (evO cf t))
  | .none, X, W, sc, blk, o, c, tk, ow, h => by
    unfold ckO at h
    cases o with
    | none => exact s_onone
    | some _ => cases h
  | .some t, X, W, sc, blk, o, c, tk, ow, h => by
    unfold ckO at h
    cases o with
    | none => cases h
    | some e => exact s_osome (sndE t c tk ow h).1
theorem sndK : ∀ (t : Kvs) {X : L2.Cx} {W : L2.WX} {sc : Scope} {blk : Bool} {ks : List (Option Expr)} {vs : List Expr} {pos : Pos}, CtxE C T cf N sc blk X → Takes2 X W → (blk = false → Own X W) → ckK T N sc blk t ks vs = true → L2.PPs X pos ks vs (trsOf C W cf t)
  | .nil, X, W, sc, blk, ks, vs, pos, c, tk, ow, h => by
    unfold ckK at h
    cases ks with
    | cons _ _ => cases h
    | nil => cases vs with
      | cons _ _ => cases h
      | nil => exact pps_nil'
  | .cons a b r, X, W, sc, blk, ks, vs, pos, c, tk, ow, h => by
    unfold ckK at h
    split at h
    · simp only [Bool.and_eq_true] at h
      exact pps_cons' (sndE a c tk ow h.1.1).1 (sndE b c tk ow h.1.2).1 (sndK r c tk ow h.2)
    · cases h
theorem sndF : ∀ (t : F) {X : L2.Cx} {W : L2.WX} {sc : Scope} {blk : Bool} {e : Expr}, CtxE C T cf N sc blk X → Takes2 X W → (blk = false → Own X W) → ckF T N sc blk t e = true → L2.PE X e (rF C W (evF cf t)) ∧ plainT e = true
  | .disp es, X, W, sc, blk, e, c, tk, ow, h => by
    unfold ckF at h
    split at h
    · exact ⟨f_disp (sndEs es c tk ow h), rfl⟩
    · cases h
  | .lc n elt tg it t own, X, W, sc, blk, e, c, tk, ow, h => by
    unfold ckF at h
    split at h
    · rename_i ee gs scope pos
      split at h
      · rename_i tge ite ifs a
        simp only [Bool.and_eq_true] at h
        obtain ⟨⟨⟨⟨⟨⟨⟨⟨h0, h1⟩, h2⟩, h3⟩, h4⟩, h5⟩, h6⟩, h7⟩, h8⟩ := h
        have e0 : a = 0 := beq_iff_eq.mp h0
        have e1 : n = blk := beq_iff_eq.mp h1
        subst e0 e1
        have ok0 : L2.BlkOk N sc scope (ownOf N own) := L2.blkOk_by h2
        have ok : L2.BlkOk X.N X.env.scope scope (ownOf N own) := by rw [c.nN, c.scp]; exact ok0
        have hown : ∀ i ∈ tgIx tg, i ∈ (ownOf N own).map (·.2) := by rw [ownOf_map]; exact subB_ok h3
        have hg : ∀ (s : Shared) (H : L2.Hp) (C' : Addr) (cl : List (Str × Addr)) (fp : List Addr) (xe : Value → Shared → Prop), L2.PG (blkX X s H scope (compEnvC scope cl C' X.env) fp xe) tge (rB C tg) := fun s H C' cl fp xe => sndTg tg (c.blkc ok0 s H C' cl fp xe) h6
        have ht : ∀ (s : Shared) (H : L2.Hp) (C' : Addr) (cl : List (Str × Addr)) (fp : List Addr) (xe : Value → Shared → Prop) (W' : L2.WX), Takes2 (blkX X s H scope (compEnvC scope cl C' X.env) fp xe) W' → L2.PTs (blkX X s H scope (compEnvC scope cl C' X.env) fp xe) ifs (rTo C W' (evT cf t)) :=
          fun s H C' cl fp xe W' tk' => sndT t (c.blkc ok0 s H C' cl fp xe) tk' (fun z => nomatch z) h7
        have he : ∀ (s : Shared) (H : L2.Hp) (C' : Addr) (cl : List (Str × Addr)) (fp : List Addr) (xe : Value → Shared → Prop) (W' : L2.WX), Takes2 (blkX X s H scope (compEnvC scope cl C' X.env) fp xe) W' → L2.PE (blkX X s H scope (compEnvC scope cl C' X.env) fp xe) ee (rE C W' (evE cf elt)) :=
          fun s H C' cl fp xe W' tk' => (sndE elt (c.blkc ok0 s H C' cl fp xe) tk' (fun z => nomatch z) h8).1
        have hi := sndI it (tg := tge) c tk ow h5
        refine ⟨?_, rfl⟩
        cases n with
        | true =>
          have := f_lcn (pos := pos) c.calm c.ndX hown hi ok hg ht he (folded_of h4)
          rw [ownOf_map] at this
          exact this
        | false =>
          obtain ⟨o1, o2, o3, _⟩ := ow rfl
          have := f_lc (pos := pos) o1 o2 o3 c.calm c.ndX hown hi ok hg ht he (folded_of h4)
          rw [ownOf_map] at this
          exact this
      · cases h
    · cases h
  | .sl a lo hi, X, W, sc, blk, e, c, tk, ow, h => by
    unfold ckF at h
    split at h
    · simp only [Bool.and_eq_true] at h
      obtain ⟨⟨h1, h2⟩, h3⟩ := h
      exact ⟨f_sl (sndE a c tk ow h1).1 (sndO lo c tk ow h2) (sndO hi c tk ow h3), rfl⟩
    · cases h
  | .rev _, X, W, sc, blk, e, c, tk, ow, h => by
    unfold ckF at h
    cases h
  | .cat a b, X, W, sc, blk, e, c, tk, ow, h => by
    unfold ckF at h
    split at h
    · simp only [Bool.and_eq_true] at h
      exact ⟨f_cat (sndE a c tk ow h.1).1 (sndE b c tk ow h.2).1, rfl⟩
    · cases h
  | .lis a, X, W, sc, blk, e, c, tk, ow, h => by
    unfold ckF at h
    split at h
    · simp only [Bool.and_eq_true] at h
      obtain ⟨⟨⟨h1, h2⟩, h3⟩, h4⟩ := h
      have hf := of_decide_eq_true h1
      exact ⟨f_lis hf c.K (c.glo h2) (c.free (by rw [hf]; decide +kernel)) (sndE a c tk ow h4).1 (star_of h3), rfl⟩
    · cases h
theorem sndT : ∀ (t : Oe) {X : L2.Cx} {W : L2.WX} {sc : Scope} {blk : Bool} {l : List Expr}, CtxE C T cf N sc blk X → Takes2 X W → (blk = false → Own X W) → ckT T N sc blk t l = true → L2.PTs X l (rTo C W (evT cf t))
  | .none, X, W, sc, blk, l, c, tk, ow, h => by
    unfold ckT at h
    cases l with
    | nil => exact ts_nil
    | cons _ _ => cases h
  | .some t, X, W, sc, blk, l, c, tk, ow, h => by
    unfold ckT at h
    split at h
    · simp only [Bool.and_eq_true] at h
      exact ts_one ((sndE t c tk ow h.2).2 h.1)
    · cases h
theorem sndI : ∀ (t : It) {X : L2.Cx} {W : L2.WX} {sc : Scope} {blk : Bool} {tg e : Expr}, CtxE C T cf N sc blk X → Takes2 X W → (blk = false → Own X W) → ckI T N sc blk t tg e = true → L2.PI X tg e (rI C W (evI cf t))
  | .val t, X, W, sc, blk, tg, e, c, tk, ow, h => by
    unfold ckI at h
    exact i_val c.K (sndE t c tk ow h).1
  | .range1 a, X, W, sc, blk, tg, e, c, tk, ow, h => by
    unfold ckI at h
    split at h
    · simp only [Bool.and_eq_true] at h
      obtain ⟨⟨⟨h1, h2⟩, h3⟩, h4⟩ := h
      have hf := of_decide_eq_true h1
      subst hf
      exact i_range1 (c.glo h2) (c.free (by decide +kernel)) (star_of h3) (sndE a c tk ow h4).1
    · cases h
  | .range2 a b, X, W, sc, blk, tg, e, c, tk, ow, h => by
    unfold ckI at h
    split at h
    · simp only [Bool.and_eq_true] at h
      obtain ⟨⟨⟨⟨⟨h1, h2⟩, h3⟩, h4⟩, h5⟩, h6⟩ := h
      have hf := of_decide_eq_true h1
      subst hf
      exact i_range2 (c.glo h2) (c.free (by decide +kernel)) (star_of h3) (star_of h4) (sndE a c tk ow h5).1 (sndE b c tk ow h6).1
    · cases h
  | .enum a, X, W, sc, blk, tg, e, c, tk, ow, h => by
    unfold ckI at h
    split at h
    · simp only [Bool.and_eq_true] at h
      obtain ⟨⟨⟨h1, h2⟩, h3⟩, h4⟩ := h
      have hf := of_decide_eq_true h1
      subst hf
      exact i_enum c.K (c.glo h2) (c.free (by decide +kernel)) (star_of h3) (sndE a c tk ow h4).1
    · cases h
  | .zip a b, X, W, sc, blk, tg, e, c, tk, ow, h => by
    unfold ckI at h
    split at h
    · simp only [Bool.and_eq_true] at h
      obtain ⟨⟨⟨⟨⟨h1, h2⟩, h3⟩, h4⟩, h5⟩, h6⟩ := h
      have hf := of_decide_eq_true h1
      subst hf
      exact i_zip c.K (c.glo h2) (c.free (by decide +kernel)) (star_of h3) (star_of h4) (sndE a c tk ow h5).1 (sndE b c tk ow h6).1
    · cases h
end
end
end EV
end

section
set_option autoImplicit false
namespace EV
open PySem PySem.Spec PyProof.Rows

structure Exs (C : Cfg) (T : Tb) (X : L2.Cx) : Prop where
  rai : ∀ c x, T.ex[c]? = some x → Rai X C c x
  h0 : ∀ a c dx, ¬ C.EX a c dx
  hex : ∀ c c', c < T.ex.length → c' < T.ex.length → PySem.W.exmOne X.K (.ref (C.cls c)) (.ref (C.cls c')) = some (decide (c = c'))
  fl : ∀ c f, T.fl[c]? = some f → c < T.ex.length → C.fld c = f ∧ L2.XfC X.K (C.cls c) ∧ PySem.W.findIn X.K (.ref (C.cls c)) f = some none
theorem Exs.trc {C : Cfg} {T : Tb} {X : L2.Cx} (e : Exs C T X) (pn : List (Addr × Obj)) (xe : Value → Shared → Prop) : Exs C T (X.tr pn xe) :=
  ⟨fun c x h => ⟨(e.rai c x h).mg, (e.rai c x h).oex, (e.rai c x h).ex⟩, e.h0, e.hex, e.fl⟩
section
variable {C : Cfg} {T : Tb} {cf : Nat → List D → M D} {N : List Str}
/-! ### suites -/
section
variable {X Y : L2.Cx} {C' : Cfg} {W : L2.WX} {sc : Scope}
theorem sndX (c : CtxE C T cf N sc false X) (hN : Y.N = X.N) (he : Y.env = X.env) (hm : Y.mg = X.mg) (gl' : ∀ x d, T.gl.lookup x = some d → ∃ u v, X.mg x = some u ∧ L2.RelV v u ∧ ∀ Z ι H, RV C' Z ι H d v)
    (xf : ∀ (i c : Nat) (x f : Str) (p p' : Pos), X.N[i]? = some x → visB sc x = true → nmB x = true → T.fl[c]? = some f → c < T.ex.length → L2.PE Y (.Attribute (.Name x p) f p') (rE C' W (evE cf (.xfld i c)))) :
    ∀ {t : E} {e : Expr}, ckX T N sc t e = true → L2.PE Y e (rE C' W (evE cf t)) := by
  intro t e h
  have vis : ∀ {x : Str}, visB sc x = true → L2.Vis Y.env.scope x := fun {x} h => by rw [he]; exact c.vis h
  cases t <;> simp only [ckX] at h <;> try cases h
  · unfold ckE at h
    split at h
    · simp only [Bool.and_eq_true] at h
      obtain ⟨⟨h1, h2⟩, h3⟩ := h
      exact s_slot (by rw [hN]; exact c.ix h1) (vis h2) (nmB_ok h3).1 (nmB_ok h3).2
    · cases h
  · unfold ckE at h
    split at h
    · exact s_cst h
    · cases h
  · unfold ckE at h
    split at h
    · simp only [Bool.and_eq_true] at h
      obtain ⟨⟨h1, h2⟩, h3⟩ := h
      split at h3
      · rename_i d' hd
        obtain ⟨u, v, m, r, rv⟩ := gl' _ _ hd
        rw [same_eq _ _ h3] at rv
        have hg : ∀ {x : Str}, gloB sc x = true → L2.Gl Y x := fun {x} h => by
          show Y.env.scope.names.lookup x = _
          rw [he]
          exact c.glo h
        exact s_glob (hg h1) (by rw [hm]; exact m) r (nmB_ok h2).1 rv
      · cases h3
    · cases h
  · rename_i i cc
    split at h
    · simp only [Bool.and_eq_true] at h
      obtain ⟨⟨⟨⟨h1, h2⟩, h3⟩, h4⟩, h5⟩ := h
      exact xf i cc _ _ _ _ (c.ix h1) h2 h3 (of_decide_eq_true h4) (of_decide_eq_true h5)
    · cases h
theorem sndXs (hx : ∀ {t : E} {e : Expr}, ckX T N sc t e = true → L2.PE Y e (rE C' W (evE cf t))) : ∀ {es : Es} {l : List Expr}, ckXs T N sc es l = true → L2.PA Y l (rA C' W (evEs cf es)) := by
  intro es l
  induction l generalizing es with
  | nil =>
    intro h
    cases es with
    | nil => exact s_nil
    | cons _ _ => unfold ckXs at h; cases h
  | cons e l ih =>
    intro h
    cases es with
    | nil => unfold ckXs at h; cases h
    | cons t r =>
      unfold ckXs at h
      simp only [Bool.and_eq_true] at h
      exact s_cons (star_of h.1.1) (hx h.1.2) (ih h.2)
theorem sndXt (hx : ∀ {t : E} {e : Expr}, ckX T N sc t e = true → L2.PE Y e (rE C' W (evE cf t))) {t : E} {e : Expr} (h : ckXt T N sc t e = true) : L2.PE Y e (rE C' W (evE cf t)) := by
  unfold ckXt at h
  split at h
  · exact s_tup (sndXs hx h)
  · exact hx h
end
section
variable {X : L2.Cx} {W : L2.WX} {sc : Scope}
theorem xf_no (h0 : ∀ a c dx, ¬ C.EX a c dx) {Y : L2.Cx} {i c : Nat} {e : Expr} : L2.PE Y e (rE C W (evE cf (.xfld i c))) := ⟨fun pins s σ H Q I ⟨Z, ι, L, ρ, S, E, h⟩ => by
  exfalso
  simp only [evE] at h
  split at h
  · rename_i c' d1 e
    obtain ⟨v, ev, r⟩ := E.get _ _ e
    unfold RV at r
    obtain ⟨b, dx, y, _, q, _⟩ := r
    exact h0 _ _ _ q
  · exact h⟩
theorem sndU (c : CtxE C T cf N sc false X) (ex : Exs C T X) {s : Ss} {l : List Stmt} (h : ckU T N sc s l = true) (a : Addr) (oe : Obj) (pn : List (Addr × Obj)) : L2.PSs (X.suite a ((a, oe) :: pn)) l (rS C Wno (evSs cf s)) := by
  have hx : ∀ {t : E} {e : Expr}, ckX T N sc t e = true → L2.PE (X.suite a ((a, oe) :: pn)) e (rE C Wno (evE cf t)) := fun {t e} h => sndX (Y := X.suite a ((a, oe) :: pn)) c rfl rfl rfl c.gl (fun _ _ _ _ _ _ _ _ _ _ _ => xf_no ex.h0) h
  unfold ckU at h
  split at h
  · exact z_cons (z_ret (sndXt hx h)) z_nil
  · exact z_cons z_pass z_nil
  · exact z_cons z_cont z_nil
  · simp only [Bool.and_eq_true] at h
    obtain ⟨⟨⟨h1, h2⟩, h3⟩, h4⟩ := h
    obtain ⟨k1, k2⟩ := c.loc h2
    exact z_cons (z_set (X := X.suite a ((a, oe) :: pn)) c.ndX (c.ix h1) k1 k2 (swaps_of h3) (sndXt hx h4)) z_nil
  · cases h
theorem sndH (c : CtxE C T cf N sc false X) (ex : Exs C T X) : ∀ (hs : Hs) {hds : List ExceptHandler}, ckH T N sc hs hds = true → ∃ l, HR X C cf T.ex.length hs hds l
  | .nil, hds, h => by
    cases hds with
    | nil => exact ⟨[], .nil⟩
    | cons _ _ => unfold ckH at h; cases h
  | .cons n cc i s r, hds, h => by
    unfold ckH at h
    split at h
    · rename_i x p nm body pos hds
      simp only [Bool.and_eq_true] at h
      obtain ⟨⟨⟨⟨⟨⟨h1, h2⟩, h3⟩, h4⟩, h5⟩, h6⟩, h7⟩ := h
      obtain ⟨l, hl⟩ := sndH c ex r h6
      have en : n = T.ex.length := of_decide_eq_true h1
      have hc := of_decide_eq_true h2
      have hx := of_decide_eq_true h3
      subst en
      have nms : L2.Names X x (.ref (C.cls cc)) := ⟨c.glo h4, (nmB_ok h5).1, .inl (ex.rai cc x hx).mg⟩
      split at h7
      · split at h7
        · rename_i b bs
          exact ⟨_, .plain nms hc (fun a oe pn => sndU c ex h7 a oe pn) hl⟩
        · cases h7
      · rename_i j y
        simp only [Bool.and_eq_true] at h7
        obtain ⟨⟨k1, k2⟩, k3⟩ := h7
        split at k3
        · rename_i ce e rp
          refine ⟨_, .named nms hc (c.ix k1) (by show X.env.scope.names.lookup y = _; rw [c.scp]; exact locB_ok k2) (fun a oe cls d pn hz hf => ?_) hl⟩
          refine sndXt (fun {t e} h => sndX (Y := X.suite a ((a, oe) :: pn)) c rfl rfl rfl (fun x d hd => ?_) (fun i' c' x' f' p1 p2 q1 q2 q3 q4 q5 => ?_) h) k3
          · obtain ⟨u, v, m, r, rv⟩ := c.gl x d hd
            exact ⟨u, v, m, r, fun Z ι H => RV.cfg ex.h0 _ _ (rv Z ι H)⟩
          · obtain ⟨f1, f2, f3⟩ := ex.fl c' f' q4 q5
            exact s_xfld f2 f3 f1.symm hz hf q1 (c.vis q2) (nmB_ok q3).1 (nmB_ok q3).2
        · cases k3
      · cases h7
    · cases h
end
end
end EV
end

section
set_option autoImplicit false
namespace EV
open PySem PySem.Spec PyProof.Rows

section
variable {sc : Scope} {env : PySem.Env}
theorem blockF (hs : env.scope = sc) (hk : sc.kind = .function) : env.blockKind = .function := by
  unfold Env.blockKind
  rw [hs, hk]
  rfl
theorem locB_eq (hs : env.scope = sc) (x : Str) : (env.kindOf x == some .local) = locB sc x := by
  show (env.scope.names.lookup x == some .local) = _
  rw [hs]
  unfold locB
  cases sc.names.lookup x with
  | none => rfl
  | some k => cases k <;> rfl
theorem sw_eq (hs : env.scope = sc) (hk : sc.kind = .function) {elt : Expr} {gs : List Comprehension} {scope : Scope} {lp px : Pos} {x : Str} {l : Nat} :
    swapsWith (.ListComp elt gs scope lp) (some (.Name x px)) l env = pure (swB sc x px (.ListComp elt gs scope lp)) := by
  unfold swapsWith swB
  simp only [blockF hs hk, locB_eq hs, Expr.pos]
  simp
theorem swapped_consts {ts vs : List Expr} {k k2 : Nat} {p p2 : Pos} (h : vs.all (foldedForSure 8) = true) : swappedStores [.Tuple ts k p] (.Tuple vs k2 p2) env = pure none := by
  unfold swappedStores
  simp only [h, if_true]
  split
  · rfl
  · split
    · rfl
    · split
      · rfl
      · rfl
theorem swapped_cell (hs : env.scope = sc) {ts vs : List Expr} {k k2 : Nat} {p p2 : Pos} (h : ((locNms sc ts).length != ts.length) = true) : swappedStores [.Tuple ts k p] (.Tuple vs k2 p2) env = pure none := by
  unfold locNms at h
  unfold swappedStores
  simp only [locB_eq hs]
  split
  · rfl
  · split
    · rfl
    · refine if_pos ?_
      rw [Bool.or_eq_true]
      exact .inl h
theorem swap2 (hs : env.scope = sc) (hk : sc.kind = .function) {x y : Str} {px py pt pt2 : Pos} {a b : Expr} {kt k2 : Nat} (hx : locB sc x = true) (hy : locB sc y = true) (ly : (py.line == px.line) = true) (ne : x ≠ y) (ua : unstar a = true) (ub : unstar b = true)
    (hf : [a, b].all (foldedForSure 8) = false) (hc : [a, b].all (constantsAlone 8) = false) : swappedStores [.Tuple [.Name x px, .Name y py] kt pt] (.Tuple [a, b] k2 pt2) env = pure (some [x, y]) := by
  have lx : (px.line == px.line) = true := beq_self_eq_true _
  have nd : [x, y].eraseDups.length = 2 := by
    have : (y == x) = false := by simpa using Ne.symm ne
    simp [List.eraseDups_cons, this]
  unfold swappedStores
  simp only [blockF hs hk, hf, hc, List.any_cons, List.any_nil, List.head?_cons, Option.map_some, Option.getD_some, Expr.pos, List.filterMap_cons, List.filterMap_nil, locB_eq hs, hx, hy, lx, ly, Bool.and_true, if_true, List.length_cons, List.length_nil, nd]
  simp
  intro h
  rcases h with h | h
  · cases a <;> first | exact Bool.noConfusion (show false = true from h) | exact Bool.noConfusion (show false = true from ua)
  · cases b <;> first | exact Bool.noConfusion (show false = true from h) | exact Bool.noConfusion (show false = true from ub)
theorem swap3 (hs : env.scope = sc) (hk : sc.kind = .function) {x y z : Str} {px py pz pt pt2 : Pos} {a b c : Expr} {kt k2 : Nat} (hx : locB sc x = true) (hy : locB sc y = true) (hz : locB sc z = true) (ly : (py.line == px.line) = true) (lz : (pz.line == px.line) = true) (ne : x ≠ y) (ne2 : x ≠ z) (ne3 : y ≠ z)
    (ua : unstar a = true) (ub : unstar b = true) (uc : unstar c = true)
    (hf : [a, b, c].all (foldedForSure 8) = false) (hc : [a, b, c].all (constantsAlone 8) = false) : swappedStores [.Tuple [.Name x px, .Name y py, .Name z pz] kt pt] (.Tuple [a, b, c] k2 pt2) env = pure (some [x, y, z]) := by
  have lx : (px.line == px.line) = true := beq_self_eq_true _
  have nd : [x, y, z].eraseDups.length = 3 := by
    have h1 : (y == x) = false := by simpa using Ne.symm ne
    have h2 : (z == x) = false := by simpa using Ne.symm ne2
    have h3 : (z == y) = false := by simpa using Ne.symm ne3
    simp [List.eraseDups_cons, h1, h2, h3]
  unfold swappedStores
  simp only [blockF hs hk, hf, hc, List.any_cons, List.any_nil, List.head?_cons, Option.map_some, Option.getD_some, Expr.pos, List.filterMap_cons, List.filterMap_nil, locB_eq hs, hx, hy, hz, lx, ly, lz, Bool.and_true, if_true, List.length_cons, List.length_nil, nd]
  simp
  intro h
  rcases h with h | h | h
  · cases a <;> first | exact Bool.noConfusion (show false = true from h) | exact Bool.noConfusion (show false = true from ua)
  · cases b <;> first | exact Bool.noConfusion (show false = true from h) | exact Bool.noConfusion (show false = true from ub)
  · cases c <;> first | exact Bool.noConfusion (show false = true from h) | exact Bool.noConfusion (show false = true from uc)
theorem sole_sub {o i e : Expr} {p : Pos} {l : Nat} : swapsWithSole [.Subscript o i p] e l env = pure false := by cases e <;> rfl
theorem sole_tup {ts : List Expr} {k : Nat} {e : Expr} {p : Pos} {l : Nat} : swapsWithSole [.Tuple ts k p] e l env = pure false := by cases e <;> rfl
theorem stores_sub {o i e : Expr} {p : Pos} : swappedStores [.Subscript o i p] e env = pure none := by cases e <;> rfl
theorem asg_sub {o i : Expr} {p : Pos} (h : unslice i = true) : ∀ v, assign (.Subscript o i p) env v = (do
      let ov ← holding [v] (eval o env)
      let iv ← holding [v, ov] (eval i env)
      standAt p
      holding [v, ov, iv] (setItem ov iv v)
      release [v, ov, iv] []) := by
  intro v
  cases i <;> first | rfl | cases h
end
end EV
end

section
set_option autoImplicit false
namespace EV
open PySem PySem.Spec PyProof.Rows
section
variable {C : Cfg} {T : Tb} {cf : Nat → List D → M D} {N : List Str}
/-- name = [..] the other way -/
theorem sndLc {X : L2.Cx} {W : L2.WX} {sc : Scope} {i : Nat} {x : Str} {px pos : Pos} {e : Expr} {f : F} {t : L2.TE} (c : CtxE C T cf N sc false X) (ow : Own X W) (hi : X.N[i]? = some x) (h : ckF T N sc false f e = true) (hsw : swB sc x px e = true)
    (k : ∀ σ H Q, t σ H Q → rF C W (evF cf f) σ H Q) : L2.PS X (.Assign [.Name x px] e pos) (L2.tAsg t (L2.gName i)) := by
  have tk := Takes2.of ow.tk
  cases e <;> simp only [swB] at hsw <;> try cases hsw
  rename_i ee gs scope lp
  have hsw0 := hsw
  simp only [Bool.and_eq_true] at hsw
  cases f <;> simp only [ckF] at h <;> try cases h
  rename_i n elt tg it tt own
  split at h
  · rename_i tge ite ifs a
    simp only [Bool.and_eq_true] at h
    obtain ⟨⟨⟨⟨⟨⟨⟨⟨h0, h1⟩, h2⟩, h3⟩, h4⟩, h5⟩, h6⟩, h7⟩, h8⟩ := h
    have e0 : a = 0 := beq_iff_eq.mp h0
    have e1 : n = false := beq_iff_eq.mp h1
    subst e0 e1
    have ok0 : L2.BlkOk N sc scope (ownOf N own) := L2.blkOk_by h2
    have ok : L2.BlkOk X.N X.env.scope scope (ownOf N own) := by rw [c.nN, c.scp]; exact ok0
    have hown : ∀ i ∈ tgIx tg, i ∈ (ownOf N own).map (·.2) := by rw [ownOf_map]; exact subB_ok h3
    have hs : swapsWith (.ListComp ee [⟨tge, ite, ifs, 0⟩] scope lp) (some (.Name x px)) pos.line X.env = pure true := by
      rw [sw_eq c.scp c.kind]
      exact congrArg pure (show swB sc x px (.ListComp ee [⟨tge, ite, ifs, 0⟩] scope lp) = true from hsw0)
    refine f_setLc (celt := elt) (ctg := tg) (cit := it) (ct := tt) (own := ownOf N own) ow.stk ow.fr ow.tk c.calm c.ndX hi (by rw [c.scp]; exact locB_ok hsw.1.1) hs hown (sndI it c tk (fun _ => ow) h5) ok
      (fun s H C' cl fp xe => sndTg tg (c.blkc ok0 s H C' cl fp xe) h6) (fun s H C' cl fp xe W' tk' => sndT tt (c.blkc ok0 s H C' cl fp xe) tk' (fun z => nomatch z) h7)
      (fun s H C' cl fp xe W' tk' => (sndE elt (c.blkc ok0 s H C' cl fp xe) tk' (fun z => nomatch z) h8).1) (folded_of h4) (by rw [ownOf_map]; exact k)
  · cases h
theorem parNm_ix {X : L2.Cx} {sc : Scope} (c : CtxE C T cf N sc false X) {l i : Nat} {is : List Nat} {e : Expr} {r : List Expr} (h : parNm N sc l (i :: is) (e :: r) = true) : ∃ x p, e = .Name x p ∧ X.N[i]? = some x ∧ locB sc x = true ∧ (p.line == l) = true ∧ parNm N sc l is r = true := by
  unfold parNm at h
  split at h
  · rename_i z1 z2
    cases z1
  · rename_i i' is' x p r' z1 z2
    cases z1; cases z2
    simp only [Bool.and_eq_true] at h
    exact ⟨x, p, rfl, c.ix h.1.1.1, h.1.1.2, h.1.2, h.2⟩
  · cases h
theorem ne_of_ix {X : L2.Cx} (nd : X.N.Nodup) {i j : Nat} {x y : Str} (hi : X.N[i]? = some x) (hj : X.N[j]? = some y) (hij : i ≠ j) : x ≠ y := fun e => hij (L2.nodup_ix nd hi (e ▸ hj))
set_option maxHeartbeats 4000000 in
mutual
theorem sndS : ∀ (t : S) {X : L2.Cx} {W : L2.WX} {sc : Scope} {st : Stmt}, CtxE C T cf N sc false X → Exs C T X → Own X W → ckS T N sc t st = true → L2.PS X st (rS C W (evS cf t))
  | .set i t, X, W, sc, st, c, ex, ow, h => by
    have tk := Takes2.of ow.tk
    unfold ckS at h
    split at h
    · rename_i x px e pos
      simp only [Bool.and_eq_true] at h
      obtain ⟨⟨⟨h1, h2⟩, h3⟩, h4⟩ := h
      obtain ⟨k1, k2⟩ := c.loc h2
      have he := (sndE t c tk (fun _ => ow) h4).1
      cases hu : uncomp e with
      | true => exact z_set c.ndX (c.ix h1) k1 k2 (swaps_of hu) he
      | false =>
        rw [hu, Bool.false_or] at h3
        split at h3
        · rename_i ee gs scope lp
          cases hw : swB sc x px (.ListComp ee gs scope lp) with
          | false => exact z_set c.ndX (c.ix h1) k1 k2 (by rw [sw_eq c.scp c.kind, hw]) he
          | true =>
            cases t <;> simp only [ckE] at h4 <;> try cases h4
            · rename_i f
              exact ps_imp (sndLc c ow (c.ix h1) h4 hw fun σ H Q h => frz_of h) fun D σ H h => set_of h
            · rename_i f
              exact ps_imp (sndLc c ow (c.ix h1) h4 hw fun σ H Q h => mut_of h) fun D σ H h => set_of h
        · cases h3
    · cases h
  | .par is es, X, W, sc, st, c, ex, ow, h => by
    have tk := Takes2.of ow.tk
    unfold ckS at h
    split at h
    · rename_i ts kt pt vs k2 pt2 pos
      simp only [Bool.and_eq_true] at h
      obtain ⟨⟨⟨⟨⟨⟨⟨h1, h2⟩, h3⟩, h4⟩, h5⟩, h6⟩, h7⟩, h8⟩ := h
      have ha := sndEs es c tk (fun _ => ow) h8
      have hu := ckEs_un h8
      have nd : is.Nodup := of_decide_eq_true h5
      have l1 : ts.length = is.length := beq_iff_eq.mp h1
      have l2 : vs.length = is.length := beq_iff_eq.mp h2
      have hf := opB_dec h6
      have hc := opB_dec h7
      match is, ts, vs, l1, l2, h3 with
      | [i, j], [t1, t2], [a, b], _, _, _ =>
        obtain ⟨x, px, rfl, i1, lx, q1, h4⟩ := parNm_ix c h4
        obtain ⟨y, py, rfl, i2, ly, q2, _⟩ := parNm_ix c h4
        have hij : i ≠ j := by
          intro e; subst e; simp at nd
        simp only [List.all_cons, List.all_nil, Bool.and_true, Bool.and_eq_true] at hu
        exact z_par2 c.calm c.ndX i1 i2 hij (by rw [c.scp]; exact locB_ok lx) (by rw [c.scp]; exact locB_ok ly) ha (swap2 c.scp c.kind lx ly (by simpa [Expr.pos] using q2) (ne_of_ix c.ndX i1 i2 hij) hu.1 hu.2 hf hc)
      | [i, j, k], [t1, t2, t3], [a, b, d], _, _, _ =>
        obtain ⟨x, px, rfl, i1, lx, q1, h4⟩ := parNm_ix c h4
        obtain ⟨y, py, rfl, i2, ly, q2, h4⟩ := parNm_ix c h4
        obtain ⟨z, pz, rfl, i3, lz, q3, _⟩ := parNm_ix c h4
        have hij : i ≠ j := by
          intro e; subst e; simp at nd
        have hik : i ≠ k := by
          intro e; subst e; simp at nd
        have hjk : j ≠ k := by
          intro e; subst e; simp at nd
        simp only [List.all_cons, List.all_nil, Bool.and_true, Bool.and_eq_true] at hu
        exact z_par3 c.calm c.ndX i1 i2 i3 hij hik hjk (by rw [c.scp]; exact locB_ok lx) (by rw [c.scp]; exact locB_ok ly) (by rw [c.scp]; exact locB_ok lz) ha
          (swap3 c.scp c.kind lx ly lz (by simpa [Expr.pos] using q2) (by simpa [Expr.pos] using q3) (ne_of_ix c.ndX i1 i2 hij) (ne_of_ix c.ndX i1 i3 hik) (ne_of_ix c.ndX i2 i3 hjk) hu.1 hu.2.1 hu.2.2 hf hc)
      | [], _, _, _, _, h3 => cases h3
      | [_], _, _, _, _, h3 => cases h3
      | _ :: _ :: _ :: _ :: _, _, _, _, _, h3 => simp at h3
    · cases h
  | .asg t e, X, W, sc, st, c, ex, ow, h => by
    have tk := Takes2.of ow.tk
    unfold ckS at h
    split at h
    · rename_i ts k p v pos
      simp only [Bool.and_eq_true] at h
      obtain ⟨⟨⟨h1, h2⟩, h3⟩, h4⟩ := h
      have hw : swappedStores [.Tuple ts k p] v X.env = pure none := by
        cases hu : untup v with
        | true => exact swapped_of hu
        | false =>
          rw [hu, Bool.false_or] at h4
          split at h4
          · rw [Bool.or_eq_true] at h4
            rcases h4 with h4 | h4
            · exact swapped_consts h4
            · exact swapped_cell c.scp h4
          · cases h4
      exact z_asg (sndE e c tk (fun _ => ow) h3).1 (sndTg t c h1) sole_tup hw rfl
    · cases h
  | .setIx o i e, X, W, sc, st, c, ex, ow, h => by
    have tk := Takes2.of ow.tk
    unfold ckS at h
    split at h
    · simp only [Bool.and_eq_true] at h
      obtain ⟨⟨⟨h1, h2⟩, h3⟩, h4⟩ := h
      exact z_setIx (sndE o c tk (fun _ => ow) h2).1 (sndE i c tk (fun _ => ow) h3).1 (sndE e c tk (fun _ => ow) h4).1 (asg_sub h1) sole_sub stores_sub
    · cases h
  | .setK o i e, X, W, sc, st, c, ex, ow, h => by
    have tk := Takes2.of ow.tk
    unfold ckS at h
    split at h
    · simp only [Bool.and_eq_true] at h
      obtain ⟨⟨⟨h1, h2⟩, h3⟩, h4⟩ := h
      exact z_setK c.hu (sndE o c tk (fun _ => ow) h2).1 (sndE i c tk (fun _ => ow) h3).1 (sndE e c tk (fun _ => ow) h4).1 (asg_sub h1) sole_sub stores_sub
    · cases h
  | .aug i o e, X, W, sc, st, c, ex, ow, h => by
    have tk := Takes2.of ow.tk
    unfold ckS at h
    split at h
    · rename_i x px op v pos
      simp only [Bool.and_eq_true] at h
      obtain ⟨⟨⟨h1, h2⟩, h3⟩, h4⟩ := h
      obtain ⟨k1, k2⟩ := c.loc h2
      refine z_aug ?_ c.ndX (c.ix h1) k1 k2 (sndE e c tk (fun _ => ow) h3).1
      split at h4
      · exact .inl ⟨rfl, rfl⟩
      · exact .inr ⟨rfl, rfl⟩
      · cases h4
    · cases h
  | .ex e, X, W, sc, st, c, ex, ow, h => by
    have tk := Takes2.of ow.tk
    unfold ckS at h
    split at h
    · simp only [Bool.and_eq_true] at h
      exact z_ex (swaps_of h.1) (sndE e c tk (fun _ => ow) h.2).1
    · cases h
  | .ife t a b, X, W, sc, st, c, ex, ow, h => by
    have tk := Takes2.of ow.tk
    unfold ckS at h
    split at h
    · simp only [Bool.and_eq_true] at h
      obtain ⟨⟨⟨h1, h2⟩, h3⟩, h4⟩ := h
      exact z_ife ((sndE t c tk (fun _ => ow) h2).2 h1) (sndSs a c ex ow h3) (sndSs b c ex ow h4)
    · cases h
  | .for_ t it b, X, W, sc, st, c, ex, ow, h => by
    have tk := Takes2.of ow.tk
    unfold ckS at h
    split at h
    · simp only [Bool.and_eq_true] at h
      obtain ⟨⟨⟨h1, h2⟩, h3⟩, h4⟩ := h
      exact z_for ow.po c.calm (sndI it c tk (fun _ => ow) h3) (sndTg t c h2) (sndSs b c ex ow h4) (folded_of h1)
    · cases h
  | .while_ t b, X, W, sc, st, c, ex, ow, h => by
    have tk := Takes2.of ow.tk
    unfold ckS at h
    split at h
    · simp only [Bool.and_eq_true] at h
      obtain ⟨⟨h1, h2⟩, h3⟩ := h
      exact z_while ow.po ((sndE t c tk (fun _ => ow) h2).2 h1) (sndSs b c ex ow h3)
    · cases h
  | .ret e, X, W, sc, st, c, ex, ow, h => by
    have tk := Takes2.of ow.tk
    unfold ckS at h
    split at h
    · exact z_ret (sndE e c tk (fun _ => ow) h).1
    · cases h
  | .retN, X, W, sc, st, c, ex, ow, h => by
    unfold ckS at h
    split at h
    · exact z_retN
    · cases h
  | .raise cc e, X, W, sc, st, c, ex, ow, h => by
    have tk := Takes2.of ow.tk
    unfold ckS at h
    split at h
    · simp only [Bool.and_eq_true] at h
      obtain ⟨⟨⟨⟨h1, h2⟩, h3⟩, h4⟩, h5⟩ := h
      exact z_raise (ex.rai _ _ (of_decide_eq_true h1)) c.calm ow.tk (c.glo h2) (nmB_ok h3).1 (sndE e c tk (fun _ => ow) h5).1 (star_of h4)
    · cases h
  | .try_ b hs, X, W, sc, st, c, ex, ow, h => by
    unfold ckS at h
    split at h
    · simp only [Bool.and_eq_true] at h
      obtain ⟨l, hl⟩ := sndH c ex hs h.2
      exact z_try ow.stk ow.fr c.ndX ow.tk (fun W' pn xe tk' po => sndSs b (c.trc pn xe) (ex.trc pn xe) ⟨ow.stk, ow.fr, tk', po⟩ h.1) hl ex.h0 ex.hex
    · cases h
  | .pass, X, W, sc, st, c, ex, ow, h => by
    unfold ckS at h
    split at h
    · exact z_pass
    · cases h
  | .brk, X, W, sc, st, c, ex, ow, h => by
    unfold ckS at h
    split at h
    · exact z_brk
    · cases h
  | .cont, X, W, sc, st, c, ex, ow, h => by
    unfold ckS at h
    split at h
    · exact z_cont
    · cases h
theorem sndSs : ∀ (t : Ss) {X : L2.Cx} {W : L2.WX} {sc : Scope} {l : List Stmt}, CtxE C T cf N sc false X → Exs C T X → Own X W → ckSs T N sc t l = true → L2.PSs X l (rS C W (evSs cf t))
  | .nil, X, W, sc, l, c, ex, ow, h => by
    unfold ckSs at h
    cases l with
    | nil => exact z_nil
    | cons _ _ => cases h
  | .cons t r, X, W, sc, l, c, ex, ow, h => by
    unfold ckSs at h
    cases l with
    | nil => cases h
    | cons s ss =>
      simp only [Bool.and_eq_true] at h
      exact z_cons (sndS t c ex ow h.1) (sndSs r c ex ow h.2)
end
theorem sndB {t : Ss} {X : L2.Cx} {W : L2.WX} {sc : Scope} {l : List Stmt} (c : CtxE C T cf N sc false X) (ex : Exs C T X) (ow : Own X W) (h : ckB T N sc t l = true) : L2.PSs X l (rS C W (evSs cf t)) := by
  unfold ckB at h
  split at h
  · exact z_doc (sndSs t c ex ow h)
  · exact sndSs t c ex ow h
end
end EV
end

section
set_option autoImplicit false
/-! All defs of a text keep the evaluator's promise. -/
namespace EV
open PySem PySem.Spec PyProof.Rows

/-- a def of the text beside its core -/
structure DfOk (K : PySem.W.Frag) (T : Tb) (a : Addr) (F : Fd) (fd : FuncData) (ps : List Str) : Prop where
  ex : ∃ (N : List Str) (name qual : Str) (params : Arguments) (body : List Stmt) (scope : Scope), L2.FunD K name qual params body scope [] [] a fd ∧ L2.FnScope N ps scope ∧ F.nl = N.length ∧ F.np = ps.length ∧ ckB T N scope F.body body = true
  binds : L2.Binds K fd ps []
/-- what the head tells -/
structure World0 (P : Program) (w : World) (K : PySem.W.Frag) (mg : Str → Option Value) (base : Heap) (C : Cfg) (T : Tb) (fs : List Fd) : Prop where
  kk : K = C.K
  gl : ∀ x d, T.gl.lookup x = some d → ∃ u v, mg x = some u ∧ L2.RelV v u ∧ ∀ Z ι H, RV C Z ι H d v
  bl : ∀ x ∈ blts, mg x = none
  fn : ∀ f x, T.fn[f]? = some x → mg x = some (.ref (C.adr f)) ∧ PySem.W.keepIn K (.ref (C.adr f)) = true ∧ ∃ F fd ps, fs[f]? = some F ∧ DfOk K T (C.adr f) F fd ps
  h0 : ∀ a c dx, ¬ C.EX a c dx
  hex : ∀ c c', c < T.ex.length → c' < T.ex.length → PySem.W.exmOne K (.ref (C.cls c)) (.ref (C.cls c')) = some (decide (c = c'))
  fl : ∀ c f, T.fl[c]? = some f → c < T.ex.length → C.fld c = f ∧ L2.XfC K (C.cls c) ∧ PySem.W.findIn K (.ref (C.cls c)) f = some none
  xv : ∀ c z, T.xv[c]? = some z → mg z.cls = some (.ref (C.xcl c)) ∧ asc z.msg ∧ (∃ (B newId initId : String) (bmB : List Value), XvC K (C.xcl c) B newId initId bmB) ∧
    ∃ (fI : Addr) (fd : FuncData) (ps : List Str), PySem.W.findIn K (.ref (C.xcl c)) "__init__" = some (some (.ref fI)) ∧ PySem.W.typeIn K (.ref fI) = some (.type "function") ∧
      L2.FnOk P w K mg base (L2.CX P w) 1 fI fd ps (spX (C.xcl c) z.fld (SX.S z.msg)) ∧ L2.Binds K fd ps [] ∧ (∃ g : List Value → List Value → List Value, L2.KBn K fd ps 1 [z.fld] g fun vs zs => vs ++ zs) ∧ (z.df = true → L2.Binds K fd ps [.none])
  is : ∀ x ks, T.is.lookup x = some ks → ((∃ A, mg x = some (.ref A) ∧ ∀ c b, ks[c]? = some b → PySem.W.kitOne K (.ref (C.xcl c)) (.ref A) = some b) ∨ (∃ N : String, mg x = none ∧ bootBuiltins x = some (.type N) ∧ x ≠ "__name__" ∧ ∀ c b, ks[c]? = some b → PySem.W.kitOne K (.ref (C.xcl c)) (.type N) = some b)) ∧
    ∀ c b, ks[c]? = some b → XvL K (C.xcl c)
  xl : ∀ c, c < T.xv.length → XvL K (C.xcl c) ∧ ∀ f, (T.xv.map (·.fld)).contains f = true → PySem.W.findIn K (.ref (C.xcl c)) f = some none
  rai : ∀ c x, T.ex[c]? = some x → mg x = some (.ref (C.cls c)) ∧ L2.OexC K (C.cls c) ∧ ∃ (fI : Addr) (fd : FuncData) (ps : List Str), PySem.W.findIn K (.ref (C.cls c)) "__init__" = some (some (.ref fI)) ∧ PySem.W.typeIn K (.ref fI) = some (.type "function") ∧
    L2.FnOk P w K mg base (L2.CX P w) 1 fI fd ps (spI (C.cls c) (C.fld c)) ∧ L2.Binds K fd ps []
section
variable {P : Program} {w : World} {K : PySem.W.Frag} {mg : Str → Option Value} {base : Heap} {C : Cfg} {T : Tb} {fs : List Fd}
theorem er_start {Z : Addr → Prop} {ι : List Addr} {H : L2.Hp} {ds : List D} {vs : List L2.V} {N : List Str} {nl : Nat} (h : nl = N.length) (r : RVs C Z ι H ds vs) : ER C Z ι H (startD nl ds) (L2.start N vs) := by
  have hl := r.length
  refine ⟨?_, fun i d e => ?_⟩
  · unfold startD L2.start
    simp only [List.length_append, List.length_map, List.length_replicate]
    rw [h, hl]
  · unfold startD at e
    by_cases hi : i < ds.length
    · rw [List.getElem?_append_left (by simpa using hi), List.getElem?_map] at e
      cases q : ds[i]? with
      | none => rw [q] at e; cases e
      | some d' =>
        rw [q] at e
        cases e
        obtain ⟨v, hv, rv⟩ := r.get q
        refine ⟨v, ?_, rv⟩
        unfold L2.start
        rw [List.getElem?_append_left (by simp; omega), List.getElem?_map, hv]
        rfl
    · rw [List.getElem?_append_right (by simpa using Nat.le_of_not_lt hi), List.getElem?_replicate] at e
      split at e <;> cases e
theorem all_ok (A : World0 P w K mg base C T fs) : ∀ (n f : Nat) (F : Fd) (fd : FuncData) (ps : List Str), fs[f]? = some F → DfOk K T (C.adr f) F fd ps → L2.FnOk P w K mg base (L2.CX P w) (n + 2) (C.adr f) fd ps (spF C (evFn fs n) f)
  | 0, f, F, fd, ps, hF, dd => ⟨fun vs H Q E ⟨Z, ι, L, ds, S, r, h⟩ => h.elim, fun _ _ _ _ _ _ _ _ _ _ _ _ _ ⟨Z, ι, L, ds, S, r, h⟩ => h.elim⟩
  | n + 1, f, F, fd, ps, hF, dd => by
    obtain ⟨N, name, qual, params, body, scope, FD, SC, hnl, hnp, hck⟩ := dd.ex
    refine FD.ok SC (fun vs H Q E h => ?_) (fun cdv A0 outer s H vs Q E hr h => ⟨rS C (fun cls d _ H' => E cls d H') (evSs (evFn fs n) F.body), ?_, ?_⟩)
    · obtain ⟨Z, ι, L, ds, S, r, h⟩ := h
      unfold evFn at h
      rw [hF] at h
      simp only at h
      by_cases hl : ds.length = F.np
      · rw [← r.length, hl, hnp]
      · rw [if_neg hl] at h
        exact h.elim
    · refine sndB (T := T) (N := N) (sc := scope) ?_ ?_ ?_ hck
      · exact { K := A.kk, calm := rfl, hu := by have := hr.un; show (A0.deeper _).units + 65 < cLine; omega, nN := rfl, nd := SC.nd, scp := rfl, kind := SC.kind, gl := A.gl, bl := A.bl, fnT := fun _ _ => rfl,
                fn := fun g x hg => by
                  obtain ⟨m, kp, G, fdg, psg, hG, dg⟩ := A.fn g x hg
                  exact ⟨m, ⟨⟨n + 2, fdg, psg, all_ok A n g G fdg psg hG dg, hr, dg.binds⟩, kp⟩⟩,
                xv := fun c z hz => by
                  obtain ⟨m, am, TT, fI, fdi, psi, h1, h2, h3, h4, h5, h6⟩ := A.xv c z hz
                  exact ⟨m, am, TT, ⟨1, fI, fdi, psi, h1, h2, h3, hr.mono (by omega), h4, h5, h6⟩⟩,
                is := fun x ks hx => ⟨(A.is x ks hx).1, (A.is x ks hx).2⟩, xl := A.xl }
      · exact { h0 := A.h0, hex := A.hex, fl := A.fl, rai := fun c x hx => by
                  obtain ⟨m, ox, fI, fdi, psi, h1, h2, h3, h4⟩ := A.rai c x hx
                  exact ⟨m, ox, ⟨1, fI, fdi, psi, h1, h2, h3, hr.mono (by omega), h4⟩⟩ }
      · exact ⟨rfl, rfl, L2.takes_of rfl rfl rfl rfl, L2.passes_of rfl⟩
    · obtain ⟨Z, ι, L, ds, S, r, h⟩ := h
      refine ⟨Z, ι, L, startD F.nl ds, S, er_start hnl r, ?_⟩
      unfold evFn at h
      rw [hF] at h
      simp only at h
      by_cases hl : ds.length = F.np
      · rw [if_pos hl] at h
        cases q : evSs (evFn fs n) F.body (startD F.nl ds) L with
        | bad => rw [q] at h; exact h.elim
        | brk _ _ => rw [q] at h; exact h.elim
        | cont _ _ => rw [q] at h; exact h.elim
        | next ρ L1 =>
          rw [q] at h
          exact fun σ' ι' H' x s _ => h _ ι' H' x s rv_non
        | ret d L1 =>
          rw [q] at h
          exact fun v ι' H' x s rv => h v ι' H' x s rv
        | exc c d ρ L1 =>
          rw [q] at h
          exact fun v σ' ι' H' dx x s _ rv hd => h v ι' H' dx x s rv hd
      · rw [if_neg hl] at h
        exact h.elim
end
end EV
end

section
set_option autoImplicit false
/-! From what the head tells of the text to what the evaluator needs. -/
namespace EV
open PySem PySem.Spec PyProof.Rows

/-! ### the Hook: facts of the written part, lists left out -/
def isL (o : Obj) : Bool := match o.cls with
  | .type c => c == "list"
  | _ => false
def frL (g : Addr → Option Obj) (as : List Addr) : PySem.W.Frag := (He.frG g as).filter fun q => !isL q.2
theorem lookup_memF {a : Addr} {o : Obj} : ∀ {l : List (Addr × Obj)}, l.lookup a = some o → (a, o) ∈ l
  | [], h => by cases h
  | (b, u) :: r, h => by
    have h2 : (match a == b with | true => some u | false => r.lookup a) = some o := h
    cases q : (a == b) with
    | true =>
      rw [q] at h2
      have e : u = o := Option.some.inj h2
      rw [beq_iff_eq.mp q, e]
      exact List.mem_cons_self
    | false =>
      rw [q] at h2
      exact List.mem_cons_of_mem _ (lookup_memF h2)
theorem frL_mem {g : Addr → Option Obj} {as : List Addr} {a : Addr} {o : Obj} (h : (frL g as).lookup a = some o) : g a = some o ∧ isL o = false := by
  obtain ⟨h1, h2⟩ := List.mem_filter.mp (lookup_memF h)
  refine ⟨?_, by simpa using h2⟩
  unfold He.frG at h1
  obtain ⟨b, _, e⟩ := List.mem_filterMap.mp h1
  cases hb : g b with
  | none => rw [hb] at e; cases e
  | some u =>
    rw [hb] at e
    have e2 : (b, u) = (a, o) := Option.some.inj e
    injection e2 with e3 e4
    rw [← e3, ← e4]
    exact hb
theorem frL_in {as : List Addr} {h : Heap} : (frL h.get? as).In h := fun _ _ e => (frL_mem e).1
structure SaysL (fa : List He.Fa) (fn : List He.DefD) (ex : PySem.W.Frag → Bool) (K : PySem.W.Frag) : Prop where
  d : He.SaysD fa fn K
  more : ex K = true
  nol : ∀ a o, K.lookup a = some o → o.cls ≠ .type "list"
abbrev AlL : Type := He.AlD × Bool
def obsL (n : Nat) (fa : List He.Fa) (fn : List He.DefD) (ex : PySem.W.Frag → Bool) (g : Addr → Option Obj) : AlL := (He.obsD fa fn (frL g (He.asD g n ++ [PySem.cStatics])), ex (frL g (He.asD g n ++ [PySem.cStatics])))
def hookL (n : Nat) (fa : List He.Fa) (fn : List He.DefD) (ex : PySem.W.Frag → Bool) : PySem.W.Hook where
  α := AlL
  obs := fun s => obsL n fa fn ex s.heap.get?
  val := fun _ => (He.valD fn, true)
  says := fun _ h => ∃ K : PySem.W.Frag, K.In h ∧ SaysL fa fn ex K
  of := fun _ h e => ⟨_, frL_in, ⟨congrArg (fun z : AlL => z.1) e, congrArg (fun z : AlL => z.2) e, fun a o q => by
    have := (frL_mem q).2
    intro z
    unfold isL at this
    rw [z] at this
    cases this⟩⟩
  keeps := fun _ _ _ ⟨K, hK, c⟩ k => ⟨K, PySem.W.Frag.In.keeps hK k, c⟩
theorem obsL_eq {n : Nat} {fa : List He.Fa} {fn : List He.DefD} {ex : PySem.W.Frag → Bool} {g : Addr → Option Obj} {s : Shared} (h : ∀ a, g a = s.heap.get? a) : obsL n fa fn ex g = (hookL n fa fn ex).obs s := by
  have e : g = s.heap.get? := funext h
  rw [e] <;> rfl

/-! ### exceptions -/
def oexB (K : PySem.W.Frag) (C : Addr) : Bool := (match K.lookup C with
  | some ⟨.type "type", _, .cls cd, sl⟩ => (match cd.mro, sl.toList with
    | .ref C' :: bm, [_, _, _, _, some (.builtin n), _] => C' == C && n == "ValueError.__new__" && !cd.hasDel && cd.hasDict && PySem.HandSPX.refsVE bm
    | _, _ => false)
  | _ => false) && (He.eqO (PySem.W.findIn K (.ref C) "__setattr__") (some (some (.builtin "object.__setattr__"))) && (decide (PySem.W.subIn K (.ref C) (.type "BaseException") = some true) && (decide (PySem.W.typeIn K (.ref C) = some (.type "type")) && PySem.W.keepIn K (.ref C))))
theorem oexB_ok {K : PySem.W.Frag} {C : Addr} (h : oexB K C = true) : L2.OexC K C := by
  unfold oexB at h
  obtain ⟨q, h2⟩ := He.ba h
  obtain ⟨h3, h4⟩ := He.ba h2
  obtain ⟨h5, h6⟩ := He.ba h4
  obtain ⟨h7, h8⟩ := He.ba h6
  refine ⟨?_, He.eqO_ok h3, of_decide_eq_true h5, of_decide_eq_true h7, h8⟩
  split at q
  · rename_i dd cd sl ho
    split at q
    · rename_i C' bm k0 k1 k2 k3 n k5 hm hs
      simp only [Bool.and_eq_true, beq_iff_eq, Bool.not_eq_true'] at q
      obtain ⟨⟨⟨⟨rfl, rfl⟩, hdel⟩, hdi⟩, hv⟩ := q
      obtain ⟨nm, bs, mro, ns, qn, hd, sn, sub, ab, col, del⟩ := cd
      dsimp only at hm hdel hdi
      subst hm hdel hdi
      have hsl : sl = #[k0, k1, k2, k3, some (.builtin "ValueError.__new__"), k5] := by
        obtain ⟨l⟩ := sl
        simp only at hs
        rw [hs]
      subst hsl
      exact ⟨nm, qn, ns, bs, bm, sn, sub, ab, col, dd, k0, k1, k2, k3, k5, ho, hv⟩
    · cases q
  · cases q
def eqC (a b : Option PySem.W.CFound) : Bool := match a, b with
  | some (.val u), some (.val v) => u == v
  | _, _ => false
def ownBB (K : PySem.W.Frag) (B : Addr) : Bool := PySem.W.readsIn K B (.type "type") && (eqC (PySem.W.findCls K (.ref B) (.type "type") "__init__") (some (.val (.builtin "ValueError.__init__"))) && He.eqO (PySem.W.specialIn K (.ref B) "__getattribute__") (some (some (.builtin "type.__getattribute__"))))
theorem ownBB_ok {K : PySem.W.Frag} {B : Addr} (h : ownBB K B = true) : OwnB K B := by
  unfold ownBB at h
  obtain ⟨h1, h2⟩ := He.ba h
  obtain ⟨h3, h4⟩ := He.ba h2
  refine ⟨h1, ?_, He.eqO_ok h4⟩
  unfold eqC at h3
  split at h3
  · rename_i u v e1 e2
    cases e2
    rw [e1, beq_iff_eq.mp h3]
  · cases h3

/-! ### constants of the module -/
def dvOf : D → He.Dv
  | .str x => .str (SX.S x)
  | .int i => .int i
  | .bl b => .bl b
  | _ => .non
def flatD : D → Bool
  | .str x => x.all (· < 128)
  | .int _ => true
  | .bl _ => true
  | .non => true
  | _ => false
def glB : D → Bool
  | .str x => x.all (· < 128)
  | .int _ => true
  | .ktup ds => ds.all flatD
  | _ => false
def glF (p : Str × D) : He.Fa := match p.2 with
  | .str x => .str p.1 (SX.S x)
  | .int i => .int p.1 i
  | _ => .glo p.1
def glX (K : PySem.W.Frag) (p : Str × D) : Bool := match p.2 with
  | .ktup ds => He.tupB K p.1 (ds.map dvOf)
  | _ => true
theorem rvs_dv {K : PySem.W.Frag} {C : Cfg} {Z : Addr → Prop} {ι : List Addr} {H : L2.Hp} : ∀ {ds : List D}, ds.all flatD = true → RVs C Z ι H ds ((ds.map dvOf).map (He.Dv.v K))
  | [], _ => .nil
  | d :: ds, h => by
    rw [List.all_cons, Bool.and_eq_true] at h
    refine .cons ?_ (rvs_dv h.2)
    cases d <;> simp only [flatD] at h <;> first | exact rv_non | exact rv_bl | exact rv_int | exact rv_str (asc_of h.1) | cases h.1
theorem gl_ok {K : PySem.W.Frag} {h : Heap} {mg : Str → Option Value} {C : Cfg} (X : K.In h) (G : h.Ns mainGlobals mg) (hK : C.K = K) {p : Str × D} (b : glB p.2 = true) (f : (glF p).ok K = true) (x : glX K p = true) :
    ∃ u v, mg p.1 = some u ∧ L2.RelV v u ∧ ∀ Z ι H, RV C Z ι H p.2 v := by
  subst hK
  obtain ⟨x0, d⟩ := p
  cases d <;> simp only [glB] at b <;> try cases b
  · rename_i i
    obtain ⟨t, e⟩ := He.int_ok X G f
    exact ⟨_, .int i, e, ⟨t, rfl⟩, fun _ _ _ => rv_int⟩
  · rename_i i
    obtain ⟨t, e⟩ := He.str_ok X G f
    exact ⟨_, .str (SX.S i), e, ⟨t, rfl⟩, fun _ _ _ => rv_str (asc_of b)⟩
  · refine ⟨_, .ref (He.ga C.K x0), He.glo_ok X G f, rfl, fun Z ι H => ?_⟩
    unfold RV
    refine ⟨_, _, rfl, ?_, rvs_dv (K := C.K) b⟩
    have q := He.tupB_ok x (fun _ => none)
    rcases q with q | q
    · rcases q with q | ⟨_, q⟩ <;> cases q
    · exact q

/-! ### binding: every parameter is given -/
theorem lookup_zip : ∀ {ps : List Str} {us : List Value}, us.length = ps.length → ∀ n ∈ ps, ((ps.zip us).lookup n).isNone = false
  | [], _, _, n, h => by cases h
  | p :: ps, [], h, _, _ => by simp at h
  | p :: ps, u :: us, h, n, hn => by
    rw [List.zip_cons_cons, List.lookup_cons]
    cases e : (n == p) with
    | true => rfl
    | false =>
      simp only
      refine lookup_zip (by simpa using h) n ?_
      rcases List.mem_cons.mp hn with z | z
      · subst z; simp at e
      · exact z
theorem filter_zip {ps : List Str} {us : List Value} (h : us.length = ps.length) : ∀ {qs : List Str}, (∀ q ∈ qs, q ∈ ps) → (qs.filter fun n => ((ps.zip us).lookup n).isNone) = []
  | [], _ => rfl
  | q :: qs, hq => by
    rw [List.filter_cons, if_neg (by rw [lookup_zip h q (hq q List.mem_cons_self)]; decide)]
    exact filter_zip h fun r hr => hq r (List.mem_cons_of_mem _ hr)
theorem fm_zip : ∀ {ps : List Str} {us : List Value}, us.length = ps.length → ps.Nodup → (ps.filterMap fun n => ((ps.zip us).lookup n).map (n, ·)) = ps.zip us := by
  intro ps us hl nd
  have key : ∀ (qs : List Str) (ws : List Value) (pre : List (Str × Value)), ws.length = qs.length → qs.Nodup → (∀ q ∈ qs, pre.lookup q = none) → (qs.filterMap fun n => ((pre ++ qs.zip ws).lookup n).map (n, ·)) = qs.zip ws := by
    intro qs
    induction qs with
    | nil => intro ws pre _ _ _; rfl
    | cons q qs ih =>
      intro ws pre h nd hp
      cases ws with
      | nil => simp at h
      | cons w ws =>
        have nd' := List.nodup_cons.mp nd
        have e1 : (pre ++ (q :: qs).zip (w :: ws)).lookup q = some w := by
          have : pre.lookup q = none := hp q List.mem_cons_self
          rw [List.lookup_append, this]
          simp
        rw [List.filterMap_cons, e1]
        simp only [Option.map_some]
        rw [List.zip_cons_cons]
        congr 1
        have := ih ws (pre ++ [(q, w)]) (by simpa using h) nd'.2 fun r hr => by
          rw [List.lookup_append, hp r (List.mem_cons_of_mem _ hr)]
          have : (r == q) = false := by
            have : r ≠ q := fun e => nd'.1 (e ▸ hr)
            simpa using this
          simp [List.lookup_cons, this]
        rw [List.append_assoc] at this
        exact this
  exact key ps us [] hl nd (fun q _ => rfl)
theorem bind_plain {x qual : Str} {as : List Arg} {body : List Stmt} {scope : Scope} {kV doc pm : Value} {an : Option Addr} {cdv ct : Value} {us : List Value} (nd : (as.map (·.arg)).Nodup) (hl : us.length = (as.map (·.arg)).length) :
    bindArgs (PySem.W.fnOf x qual ⟨[], as, none, [], [], none, []⟩ body scope .none kV doc pm an cdv ct) ⟨us, []⟩ = pure ((as.map (·.arg)).zip us) := by
  have h1 : ¬ (us.length > (as.map (·.arg)).length) := by omega
  have hs : seqItems? Value.none = pure none := rfl
  have h2 := filter_zip hl (qs := (as.map (·.arg)).take (as.map (·.arg)).length) fun q hq => List.mem_of_mem_take hq
  have h3 := fm_zip hl nd
  unfold bindArgs
  simp only [PySem.W.fnOf, List.map_nil, List.nil_append, List.append_nil, hs, pure_bind, Option.getD_none, List.length_nil, Nat.sub_zero, List.drop_nil, List.drop_length, h1, false_and, if_false, h2]
  simp
  rw [if_neg (by rw [h2]; decide), ← List.filterMap_map, h3]
/-! ### scopes -/
def scB (N ps : List Str) (sc : Scope) : Bool := decide (sc.kind = .function) && !sc.isCoroutine && !sc.isGenerator && decide N.Nodup && decide (N.take ps.length = ps) && ps.all (fun x => decide (sc.names.lookup x = some .local) || decide (sc.names.lookup x = some .cell)) && sc.names.all fun y => decide (y.2 ≠ .free)
theorem scB_ok {N ps : List Str} {sc : Scope} (h : scB N ps sc = true) : L2.FnScope N ps sc := by
  unfold scB at h
  simp only [Bool.and_eq_true, List.all_eq_true, decide_eq_true_eq, Bool.or_eq_true, Bool.not_eq_true'] at h
  obtain ⟨⟨⟨⟨⟨⟨h1, h2⟩, h3⟩, h4⟩, h5⟩, h6⟩, h7⟩ := h
  exact ⟨h1, h2, h3, h4, h5, h6, h7⟩
end EV
end

section
set_option maxHeartbeats 2000000
set_option autoImplicit false
/-! From what the head tells of exceptions as values. -/
namespace EV
open PySem PySem.Spec PyProof.Rows
/-- an exception as a value: its class, its base, its field, its message, its __init__ -/
structure XvD where
  cls : Str
  base : Str
  fld : Str
  msg : List Nat
  df : Bool
  st : Stmt
def xvcB (K : PySem.W.Frag) (C : Addr) (newId : String) (bmB : List Value) : Bool := PySem.W.excInitIn K C bmB newId && (PySem.W.excOver K C bmB && (PySem.W.hasDictIn K C && (He.eqO (PySem.W.findIn K (.ref C) "__setattr__") (some (some (.builtin "object.__setattr__"))) && PySem.W.keepIn K (.ref C))))
theorem xvcB_ok {K : PySem.W.Frag} {C : Addr} {B newId initId : String} {bmB : List Value} (F : ExcBaseFacts B newId initId bmB) (S : StoreFacts B bmB "object.__setattr__" "object") (h : xvcB K C newId bmB = true) : XvC K C B newId initId bmB := by
  unfold xvcB at h
  obtain ⟨h1, h2⟩ := He.ba h
  obtain ⟨h3, h4⟩ := He.ba h2
  obtain ⟨h5, h6⟩ := He.ba h4
  obtain ⟨h7, h8⟩ := He.ba h6
  exact ⟨F, S, h1, h3, h5, He.eqO_ok h7, h8⟩
def xvlB (K : PySem.W.Frag) (C : Addr) : Bool := He.eqO (PySem.W.findIn K (.ref C) "__getattribute__") (some (some (.builtin "BaseException.__getattribute__"))) && (He.eqO (PySem.W.findIn K (.ref C) "__getattr__") (some none) && (decide (PySem.W.subIn K (.ref C) (.type "BaseException") = some true) && (PySem.W.hasDictIn K C &&
  (He.eqO (PySem.W.findIn K (.ref C) "__class__") (some (some (.builtin "object.__class__"))) && (He.eqO (PySem.W.specialIn K (.builtin "object.__class__") "__get__") (some (some (.builtin "getset_descriptor.__get__"))) && (decide (PySem.W.takesIn K (.builtin "object.__class__") = some true) && (decide (PySem.W.mroIn K C (.type "object") = some true) &&
  (He.eqO (PySem.W.findIn K (.ref C) "__str__") (some (some (.builtin "BaseException.__str__"))) && (PySem.W.clsIn K C).isSome))))))))
theorem xvlB_ok {K : PySem.W.Frag} {C : Addr} (h : xvlB K C = true) : XvL K C := by
  unfold xvlB at h
  obtain ⟨h1, h⟩ := He.ba h
  obtain ⟨h2, h⟩ := He.ba h
  obtain ⟨h3, h⟩ := He.ba h
  obtain ⟨h4, h⟩ := He.ba h
  obtain ⟨h5, h⟩ := He.ba h
  obtain ⟨h6, h⟩ := He.ba h
  obtain ⟨h7, h⟩ := He.ba h
  obtain ⟨h8, h⟩ := He.ba h
  obtain ⟨h9, h10⟩ := He.ba h
  exact ⟨He.eqO_ok h1, He.eqO_ok h2, of_decide_eq_true h3, h4, He.eqO_ok h5, He.eqO_ok h6, of_decide_eq_true h7, of_decide_eq_true h8, He.eqO_ok h9, h10⟩
/-- the base: an own class over ValueError, LookupError, OverflowError -/
inductive Bk where | own | look | over
  deriving DecidableEq
def XvD.kind (d : XvD) : Bk := if d.base = ("LookupError" : Str) then .look else if d.base = ("OverflowError" : Str) then .over else .own
def Bk.new : Bk → String
  | .own => "ValueError.__new__"
  | .look => "LookupError.__new__"
  | .over => "OverflowError.__new__"
def Bk.bm : Bk → List Value
  | .own => [.type "ValueError", .type "Exception", .type "BaseException", .type "object"]
  | .look => [.type "LookupError", .type "Exception", .type "BaseException", .type "object"]
  | .over => [.type "OverflowError", .type "ArithmeticError", .type "Exception", .type "BaseException", .type "object"]
def Bk.B : Bk → String
  | .own => "ValueError"
  | .look => "LookupError"
  | .over => "OverflowError"
def Bk.ini : Bk → String
  | .own => "ValueError.__init__"
  | .look => "LookupError.__init__"
  | .over => "OverflowError.__init__"
theorem Bk.F : ∀ k : Bk, ExcBaseFacts k.B k.new k.ini k.bm
  | .own => PySem.F.excBase_ValueError
  | .look => PySem.F.excBase_LookupError
  | .over => PySem.F.excBase_OverflowError
theorem Bk.S : ∀ k : Bk, StoreFacts k.B k.bm "object.__setattr__" "object"
  | .own => PySem.F.store_ValueError
  | .look => PySem.F.store_LookupError
  | .over => PySem.F.store_OverflowError
/-- the base's facts in the written part -/
def xvbB (K : PySem.W.Frag) (d : XvD) : Bool := match d.kind with
  | .own => ownBB K (He.ga K d.base)
  | .look => eqC (PySem.W.findCls K (.type "LookupError") (.type "type") "__init__") (some (.val (.builtin "LookupError.__init__")))
  | .over => eqC (PySem.W.findCls K (.type "OverflowError") (.type "type") "__init__") (some (.val (.builtin "OverflowError.__init__")))
def XvD.fa (d : XvD) : He.Fa := match d.kind with
  | .own => .glo d.base
  | _ => .free d.base
def xvB (K : PySem.W.Frag) (d : XvD) : Bool := xvcB K (He.ga K d.cls) d.kind.new d.kind.bm && (xvlB K (He.ga K d.cls) && (xvbB K d && (He.eqO (PySem.W.findIn K (.ref (He.ga K d.cls)) "__init__") (some (some (.ref (He.ma K (He.ga K d.cls) "__init__")))) &&
  (decide (PySem.W.typeIn K (.ref (He.ma K (He.ga K d.cls) "__init__")) = some (.type "function")) && He.eqO (PySem.W.takerIn K (He.ga K d.cls) d.fld) (some none)))))
theorem eqC_ok {a : Option PySem.W.CFound} {v : Value} (h : eqC a (some (.val v)) = true) : a = some (.val v) := by
  unfold eqC at h
  split at h
  · rename_i u v e1 e2
    cases e2
    rw [beq_iff_eq.mp h]
  · cases h
theorem bind_two {x qual : Str} {a1 a2 : Arg} {dfl : List Expr} {body : List Stmt} {scope : Scope} {T : Addr} {kV doc pm : Value} {an : Option Addr} {cdv ct u1 u2 i : Value} (ne : a1.arg ≠ a2.arg) :
    ∃ k, bindArgs (PySem.W.fnOf x qual ⟨[], [a1, a2], none, [], [], none, dfl⟩ body scope (.ref T) kV doc pm an cdv ct) ⟨[u1, u2], []⟩ = seqItems? (.ref T) >>= k ∧ k (some #[i]) = pure [(a1.arg, u1), (a2.arg, u2)] := by
  refine ⟨_, rfl, ?_⟩
  have e : (a2.arg == a1.arg) = false := by simpa using Ne.symm ne
  simp [List.lookup, e]
theorem bind_one {x qual : Str} {a1 a2 : Arg} {df : Expr} {body : List Stmt} {scope : Scope} {T : Addr} {kV doc pm : Value} {an : Option Addr} {cdv ct u1 i : Value} (ne : a1.arg ≠ a2.arg) :
    ∃ k, bindArgs (PySem.W.fnOf x qual ⟨[], [a1, a2], none, [], [], none, [df]⟩ body scope (.ref T) kV doc pm an cdv ct) ⟨[u1], []⟩ = seqItems? (.ref T) >>= k ∧ k (some #[i]) = pure [(a1.arg, u1), (a2.arg, i)] := by
  refine ⟨_, rfl, ?_⟩
  have e : (a2.arg == a1.arg) = false := by simpa using Ne.symm ne
  have e2 : (a1.arg == a2.arg) = false := by simpa using ne
  simp [List.lookup, e, e2]
theorem bind_kw {x qual : Str} {a1 a2 : Arg} {dfl : List Expr} {body : List Stmt} {scope : Scope} {dV kV doc pm : Value} {an : Option Addr} {cdv ct u1 w : Value} (ne : a1.arg ≠ a2.arg) :
    ∃ k, bindArgs (PySem.W.fnOf x qual ⟨[], [a1, a2], none, [], [], none, dfl⟩ body scope dV kV doc pm an cdv ct) ⟨[u1], [(a2.arg, w)]⟩ = seqItems? dV >>= k ∧ (k none = pure [(a1.arg, u1), (a2.arg, w)] ∧ ∀ i, k (some #[i]) = pure [(a1.arg, u1), (a2.arg, w)]) := by
  have e : (a2.arg == a1.arg) = false := by simpa using Ne.symm ne
  have e2 : (a1.arg == a2.arg) = false := by simpa using ne
  apply Exists.intro
  apply And.intro
  · unfold bindArgs
    simp only [PySem.W.fnOf, List.map_cons, List.map_nil, List.nil_append, List.zip_cons_cons, List.zip_nil_right, List.forIn_cons, List.forIn_nil, pure_bind, List.contains_cons, List.contains_nil, beq_self_eq_true, Bool.or_true, Bool.true_or, Bool.or_false, if_true, List.lookup_cons, List.lookup_nil, e, Option.isSome_none, Bool.false_eq_true, if_false, List.append_nil]
    rfl
  · constructor
    · simp [List.lookup, e, e2]
    · intro i
      simp [List.lookup, e, e2]
theorem kind_look {d : XvD} (h : d.kind = .look) : d.base = ("LookupError" : Str) := by
  unfold XvD.kind at h
  split at h
  · assumption
  · split at h <;> cases h
theorem kind_over {d : XvD} (h : d.kind = .over) : d.base = ("OverflowError" : Str) := by
  unfold XvD.kind at h
  split at h
  · cases h
  · split at h
    · assumption
    · cases h
/-- what the module says of the base's name -/
def XvD.bm (K : PySem.W.Frag) (mg : Str → Option Value) (d : XvD) : Prop := match d.kind with
  | .own => mg d.base = some (.ref (He.ga K d.base))
  | _ => mg d.base = none
theorem XvD.bm_of {K : PySem.W.Frag} {h : Heap} {mg : Str → Option Value} {d : XvD} (X : K.In h) (G : h.Ns mainGlobals mg) (f : d.fa.ok K = true) : d.bm K mg := by
  unfold XvD.bm
  unfold XvD.fa at f
  cases e : d.kind with
  | own => rw [e] at f; exact He.glo_ok X G f
  | look => rw [e] at f; exact He.free_ok X G f
  | over => rw [e] at f; exact He.free_ok X G f
theorem xv_hi {P : Program} {w : World} {K : PySem.W.Frag} {mg : Str → Option Value} {base : Heap} {d : XvD} {qual s v msg : Str} {scope : Scope} {fA : Addr} {p1 p2 p3 p4 p5 : Pos} {j : Nat} (hline : (p2.endLine == p5.line) = true) (hB : xvbB K d = true) (hm : d.bm K mg)
    (hgb : scope.names.lookup d.base = some .globalImplicit) (hs : scope.names.lookup s = some .local) (hd : (d.base == ("__debug__" : Str)) = false ∧ (s == ("__debug__" : Str)) = false ∧ (s == ("__classdict__" : Str)) = false) :
    ∀ (cdv : Value) (A : Around) (outer : List PySem.Env) (st : Shared) (H : L2.Hp) (E : L2.XK), L2.PE (L2.cxOf (L2.CX P w) P w K mg base [s, v] qual scope fA cdv A outer st H E) (.Call (.Attribute (.Name d.base p1) "__init__" p2) [.Name s p3, .Constant (.str msg) j p4] [] p5) (tXi K d.kind.new d.kind.ini d.kind.B d.kind.bm (L2.tCons (L2.tVar 0) (L2.tCons (L2.tC (.str msg)) L2.tNil))) := by
  intro cdv A outer st H E
  have ha : L2.PA (L2.cxOf (L2.CX P w) P w K mg base [s, v] qual scope fA cdv A outer st H E) [.Name s p3, .Constant (.str msg) j p4] (L2.tCons (L2.tVar 0) (L2.tCons (L2.tC (.str msg)) L2.tNil)) :=
    L2.pa_cons (L2.pe_var (i := 0) rfl (.inl hs) hd.2.1 hd.2.2) (L2.pa_cons L2.pe_str L2.pa_nil rfl) rfl
  obtain ⟨cls, b, fld, ms, df, stm⟩ := d
  unfold XvD.bm at hm
  unfold xvbB at hB
  simp only at hgb hd
  cases e : (XvD.mk cls b fld ms df stm).kind with
  | own =>
    rw [e] at hm hB
    have T := ownBB_ok hB
    exact pe_xiOwn (initId := "ValueError.__init__") T.rd T.at_ T.ga (by decide +kernel) hgb hm hd.1 ha (mcall_plain rfl rfl hline) rfl rfl
  | look =>
    have eb : b = ("LookupError" : Str) := kind_look e
    rw [e] at hm hB
    subst eb
    exact pe_xiLookupError hgb hm (eqC_ok hB) ha (mcall_plain rfl rfl hline) rfl rfl
  | over =>
    have eb : b = ("OverflowError" : Str) := kind_over e
    rw [e] at hm hB
    subst eb
    exact pe_xiOverflowError hgb hm (eqC_ok hB) ha (mcall_plain rfl rfl hline) rfl rfl
/-- an __init__ of the known form -/
def inX (d : XvD) : Bool := match d.st with
  | .FunctionDef _ ⟨[], [s, v], none, [], [], none, dfl⟩ [.Expr (.Call (.Attribute (.Name b _) m p2) [.Name s1 _, .Constant (.str ms) _ _] [] p5) _, .Assign [.Attribute (.Name s2 _) g _] (.Name v1 _) _] _ _ _ sc _ _ _ =>
    decide (b = d.base) && decide (m = ("__init__" : Str)) && decide (s1 = s.arg) && decide (s2 = s.arg) && decide (v1 = v.arg) && decide (g = d.fld) && decide (v.arg = d.fld) && decide (ms = SX.S d.msg) && d.msg.all (· < 128) && (p2.endLine == p5.line) && decide (s.arg ≠ v.arg) && scB [s.arg, v.arg] [s.arg, v.arg] sc && gloB sc d.base && locB sc s.arg && locB sc v.arg && nmB d.base && nmB s.arg && nmB v.arg && (match dfl with
      | [] => !d.df
      | [_] => d.df
      | _ => false)
  | _ => false
theorem inX_asc {d : XvD} (h : inX d = true) : asc d.msg := by
  unfold inX at h
  split at h
  · simp only [Bool.and_eq_true, decide_eq_true_eq] at h
    obtain ⟨⟨⟨⟨⟨⟨⟨⟨⟨⟨⟨_, h9⟩, _⟩, _⟩, _⟩, _⟩, _⟩, _⟩, _⟩, _⟩, _⟩, _⟩ := h
    exact asc_of h9
  · cases h
def XvD.dvs (d : XvD) : List L2.V := if d.df then [.non] else []
theorem inx_ok {P : Program} {w : World} {K : PySem.W.Frag} {mg : Str → Option Value} {base : Heap} {d : XvD} (h : inX d = true) {C : Addr} {f : Addr} {fd : FuncData} {nm qual : Str} (F : L2.FunD K nm qual (L2.defArgs d.st) (L2.defBody d.st) (L2.defScope d.st) d.dvs [] f fd)
    (hB : xvbB K d = true) (hm : d.bm K mg) (T : XvC K C d.kind.B d.kind.new d.kind.ini d.kind.bm) (hno : PySem.W.takerIn K C d.fld = some none) :
    ∃ ps, L2.FnOk P w K mg base (L2.CX P w) 1 f fd ps (spX C d.fld (SX.S d.msg)) ∧ L2.Binds K fd ps [] ∧ (∃ g : List Value → List Value → List Value, L2.KBn K fd ps 1 [d.fld] g fun vs zs => vs ++ zs) ∧ (d.df = true → L2.Binds K fd ps [.none]) := by
  have HI := @xv_hi P w K mg base d
  obtain ⟨cls, bs, fl, ms, df, st⟩ := d
  unfold inX at h
  simp only at h F hno
  split at h
  · rename_i _ nmx s v dfl b p1 m p2 s1 p3 msg j p4 p5 p6 s2 p7 g p8 v1 p9 p10 _ _ _ sc _ _ _
    simp only [Bool.and_eq_true, decide_eq_true_eq] at h
    obtain ⟨⟨⟨⟨⟨⟨⟨⟨⟨⟨⟨⟨⟨⟨⟨⟨⟨⟨h1, h2⟩, h3⟩, h4⟩, h5⟩, h6⟩, h7⟩, h8⟩, h9⟩, h10⟩, h11⟩, h12⟩, h13⟩, h14⟩, h15⟩, h16⟩, h17⟩, h18⟩, h19⟩ := h
    subst h1 h2 h3 h4 h5 h6 h8
    refine ⟨[s.arg, v.arg], ?_, ?_⟩
    · exact ok_xinit (HI h10 hB hm (gloB_ok h13) (locB_ok h14) ⟨(nmB_ok h16).1, (nmB_ok h17).1, (nmB_ok h17).2⟩) F (scB_ok h12) T hno (locB_ok h14) (locB_ok h15) ⟨(nmB_ok h17).1, (nmB_ok h17).2, (nmB_ok h18).1, (nmB_ok h18).2⟩
    · cases dfl with
      | nil =>
        have hdf : df = false := by simpa using h19
        subst hdf
        refine ⟨F.bindsN fun kV doc pm an cdv ct us hl => ?_, ⟨fun us ws => us ++ ws, ⟨fun st us ws X l1 l2 => ?_, fun r1 r2 => r1.append r2⟩⟩, fun z => nomatch z⟩
        · exact bind_plain (as := [s, v]) (by simpa using h11) hl
        · obtain ⟨oc, od, dV, kV, doc, pm, an, cdv, ct, osl, rfl, lk, hcd, hD, hK⟩ := F.ex
          rcases hD with ⟨_, rfl⟩ | ⟨e, _⟩
          · match us, ws, l1, l2 with
            | [u1], [w1], _, _ =>
              rw [← h7]
              obtain ⟨k, e1, e2, _⟩ := bind_kw (x := nm) (qual := qual) (a1 := s) (a2 := v) (dfl := []) (body := _) (scope := sc) (dV := Value.none) (kV := kV) (doc := doc) (pm := pm) (an := an) (cdv := cdv) (ct := ct) (u1 := u1) (w := w1) h11
              refine .of_eq ?_
              have hs : seqItems? Value.none = pure none := rfl
              rw [hs, pure_bind, e2] at e1
              exact e1
          · exact absurd rfl e
      | cons d0 dr =>
        cases dr with
        | cons _ _ => cases h19
        | nil =>
          have hdf : df = true := by simpa using h19
          subst hdf
          refine ⟨?_, ?_, fun _ => ?_⟩
          · obtain ⟨ds, r, b⟩ := F.binds1 (ps := [s.arg, v.arg]) 2 1 (by simp [XvD.dvs]) rfl fun T kV doc pm an cdv ct us its hu hi => by
              match us, its, hu, hi with
              | [u1, u2], [i], _, _ => exact bind_two h11
            cases r
            exact b
          · obtain ⟨its, b⟩ := F.kbindsD (ps := [s.arg, v.arg]) 1 [v.arg] (fun us _ ws => us ++ ws) (by simp [XvD.dvs]) (fun r1 _ r3 => r1.append r3) fun T kV doc pm an cdv ct us its ws hu hi hw => by
              match us, its, ws, hu, hi, hw with
              | [u1], [i], [w1], _, _, _ =>
                obtain ⟨k, e1, _, e2⟩ := bind_kw (x := nm) (qual := qual) (a1 := s) (a2 := v) (dfl := [d0]) (body := _) (scope := sc) (dV := Value.ref T) (kV := kV) (doc := doc) (pm := pm) (an := an) (cdv := cdv) (ct := ct) (u1 := u1) (w := w1) h11
                exact ⟨k, e1, e2 i⟩
            refine ⟨fun us ws => us ++ ws, ?_⟩
            · show L2.KBn K fd [s.arg, v.arg] 1 [g] _ _
              rw [← h7]
              exact b
          · obtain ⟨ds, r, b⟩ := F.binds1 (ps := [s.arg, v.arg]) 1 0 (by simp [XvD.dvs]) rfl fun T kV doc pm an cdv ct us its hu hi => by
              match us, its, hu, hi with
              | [u1], [i], _, _ => exact bind_one h11
            cases r with
            | cons ra rt =>
              cases rt
              cases ra
              exact b
  · cases h
/-! ### classes that isinstance asks for -/
def bltX : List (Str × String) := [("ValueError", "ValueError"), ("LookupError", "LookupError"), ("OverflowError", "OverflowError")]
theorem bltX_ok : ∀ p ∈ bltX, bootBuiltins p.1 = some (.type p.2) ∧ p.1 ≠ "__name__" := by
  intro p hp
  simp only [bltX, List.mem_cons, List.not_mem_nil, or_false] at hp
  rcases hp with rfl | rfl | rfl <;> exact ⟨by decide +kernel, by decide⟩
def isFa (p : Str × List Bool) : He.Fa := match bltX.lookup p.1 with
  | some _ => .free p.1
  | none => .glo p.1
def isU (K : PySem.W.Frag) (p : Str × List Bool) : Value := match bltX.lookup p.1 with
  | some n => .type n
  | none => .ref (He.ga K p.1)
def isB (K : PySem.W.Frag) (xs : List XvD) (p : Str × List Bool) : Bool := decide (p.2.length ≤ xs.length) && (xs.zip p.2).all fun q => decide (PySem.W.kitOne K (.ref (He.ga K q.1.cls)) (isU K p) = some q.2)
theorem isB_ok {K : PySem.W.Frag} {xs : List XvD} {p : Str × List Bool} (h : isB K xs p = true) {c : Nat} {b : Bool} (hc : p.2[c]? = some b) : ∃ z, xs[c]? = some z ∧ PySem.W.kitOne K (.ref (He.ga K z.cls)) (isU K p) = some b := by
  unfold isB at h
  obtain ⟨h1, h2⟩ := He.ba h
  have h1 := of_decide_eq_true h1
  have hl : c < p.2.length := (List.getElem?_eq_some_iff.mp hc).1
  have hz : xs[c]? = some xs[c] := List.getElem?_eq_getElem (by omega)
  refine ⟨xs[c]'(by omega), hz, ?_⟩
  have m : (xs[c]'(by omega), b) ∈ xs.zip p.2 := by
    refine List.mem_of_getElem? (i := c) ?_
    rw [List.getElem?_zip_eq_some]
    exact ⟨hz, hc⟩
  exact of_decide_eq_true (List.all_eq_true.mp h2 _ m)
theorem is_of {K : PySem.W.Frag} {h : Heap} {mg : Str → Option Value} {p : Str × List Bool} (X : K.In h) (G : h.Ns mainGlobals mg) (f : (isFa p).ok K = true) :
    (∃ A, mg p.1 = some (.ref A) ∧ isU K p = .ref A) ∨ (∃ N : String, mg p.1 = none ∧ bootBuiltins p.1 = some (.type N) ∧ p.1 ≠ "__name__" ∧ isU K p = .type N) := by
  unfold isFa at f
  unfold isU
  cases e : bltX.lookup p.1 with
  | none => rw [e] at f; exact .inl ⟨_, He.glo_ok X G f, rfl⟩
  | some n =>
    rw [e] at f
    have m : (p.1, n) ∈ bltX := by
      have : ∀ {l : List (Str × String)}, l.lookup p.1 = some n → (p.1, n) ∈ l := by
        intro l
        induction l with
        | nil => intro h; cases h
        | cons a r ih =>
          intro h
          rw [List.lookup_cons] at h
          cases q : (p.1 == a.1) with
          | true =>
            rw [q] at h
            have e1 : a.2 = n := Option.some.inj h
            have e2 : p.1 = a.1 := beq_iff_eq.mp q
            rw [e2, ← e1]
            exact List.mem_cons_self
          | false => rw [q] at h; exact List.mem_cons_of_mem _ (ih h)
      exact this e
    exact .inr ⟨n, He.free_ok X G f, (bltX_ok _ m).1, (bltX_ok _ m).2, rfl⟩
end EV
end

section
set_option autoImplicit false
namespace EV
open PySem PySem.Spec PyProof.Rows

/-- a def of the text: its name, its statement, its names by slot, its core -/
structure DfD where
  x : Str
  st : Stmt
  N : List Str
  F : Fd
/-- an exception's class: its name, its base's, its field, its __init__ -/
structure XcD where
  cls : Str
  base : Str
  fld : Str
  st : Stmt
structure Dat where
  ds : List DfD
  gl : List (Str × D)
  xs : List XcD
  xv : List XvD := []
  is : List (Str × List Bool) := []
def XvD.xz (d : XvD) : Xz := ⟨d.cls, d.fld, d.msg, d.df⟩
def Dat.T (d : Dat) : Tb := ⟨d.ds.map (·.x), d.gl, d.xs.map (·.cls), d.xs.map (·.fld), d.xv.map (·.xz), d.is⟩
def Dat.fs (d : Dat) : List Fd := d.ds.map (·.F)
def DfD.def_ (d : DfD) : He.DefD := ⟨(d.x, none), d.x, d.x, L2.defArgs d.st, L2.defBody d.st, L2.defScope d.st, [], []⟩
def XcD.def_ (d : XcD) : He.DefD := ⟨(d.cls, some "__init__"), "__init__", d.cls ++ ("." : Str) ++ ("__init__" : Str), L2.defArgs d.st, L2.defBody d.st, L2.defScope d.st, [.non], []⟩
def XvD.dv (d : XvD) : List He.Dv := if d.df then [.non] else []
theorem XvD.dv_v (K : PySem.W.Frag) (d : XvD) : d.dv.map (He.Dv.v K) = d.dvs := by
  unfold XvD.dv XvD.dvs
  split <;> rfl
def XvD.def_ (d : XvD) : He.DefD := ⟨(d.cls, some "__init__"), "__init__", d.cls ++ ("." : Str) ++ ("__init__" : Str), L2.defArgs d.st, L2.defBody d.st, L2.defScope d.st, d.dv, []⟩
def Dat.fn (d : Dat) : List He.DefD := (d.ds.map DfD.def_ ++ d.xs.map XcD.def_) ++ d.xv.map XvD.def_
def Dat.fa0 (d : Dat) : List He.Fa := d.ds.map (fun z => .glo z.x) ++ blts.map .free ++ d.gl.map glF ++ d.xs.map (fun z => .glo z.cls) ++ d.xs.map (fun z => .glo z.base)
def Dat.fa (d : Dat) : List He.Fa := d.fa0 ++ (d.xv.map (fun z => .glo z.cls) ++ (d.xv.map XvD.fa ++ d.is.map isFa))
def xcB (K : PySem.W.Frag) (d : XcD) : Bool := oexB K (He.ga K d.cls) && (ownBB K (He.ga K d.base) && (He.eqO (PySem.W.findIn K (.ref (He.ga K d.cls)) "__init__") (some (some (.ref (He.ma K (He.ga K d.cls) "__init__")))) &&
  (decide (PySem.W.typeIn K (.ref (He.ma K (He.ga K d.cls) "__init__")) = some (.type "function")) && (He.eqO (PySem.W.findIn K (.ref (He.ga K d.cls)) d.fld) (some none) && L2.xfB K (He.ga K d.cls)))))
def Dat.ex0 (d : Dat) (K : PySem.W.Frag) : Bool := d.gl.all (glX K) && (d.xs.all (xcB K) && d.xs.all fun x => d.xs.all fun y => decide (PySem.W.exmOne K (.ref (He.ga K x.cls)) (.ref (He.ga K y.cls)) = some (decide (x.cls = y.cls))))
def Dat.ex (d : Dat) (K : PySem.W.Frag) : Bool := d.ex0 K && (d.xv.all (xvB K) && (d.is.all (isB K d.xv) && d.xv.all fun x => d.xv.all fun y => He.eqO (PySem.W.findIn K (.ref (He.ga K x.cls)) y.fld) (some none)))
def Dat.cfg (d : Dat) (K : PySem.W.Frag) : Cfg := ⟨K, fun f => He.ga K ((d.ds.map (·.x)).getD f default), fun c => He.ga K ((d.xs.map (·.cls)).getD c default), fun c => (d.xs.map (·.fld)).getD c default, fun c => He.ga K ((d.xv.map (·.cls)).getD c default), fun _ _ _ => False⟩

/-! ### what is seen of the text alone -/
def plainA (a : Arguments) : Bool := a.posonlyargs.isEmpty && a.vararg.isNone && a.kwonlyargs.isEmpty && a.kw_defaults.isEmpty && a.kwarg.isNone && a.defaults.isEmpty
theorem plainA_ok {a : Arguments} (h : plainA a = true) : a = ⟨[], a.args, none, [], [], none, []⟩ := by
  obtain ⟨a1, a2, a3, a4, a5, a6, a7⟩ := a
  unfold plainA at h
  simp only [Bool.and_eq_true, List.isEmpty_iff, Option.isNone_iff_eq_none] at h
  obtain ⟨⟨⟨⟨⟨h1, h2⟩, h3⟩, h4⟩, h5⟩, h6⟩ := h
  subst h1 h2 h3 h4 h5 h6
  rfl
def dfB (T : Tb) (d : DfD) : Bool := plainA (L2.defArgs d.st) && scB d.N ((L2.defArgs d.st).args.map (·.arg)) (L2.defScope d.st) && decide (((L2.defArgs d.st).args.map (·.arg)).Nodup) && (d.F.nl == d.N.length) && (d.F.np == ((L2.defArgs d.st).args.map (·.arg)).length) && ckB T d.N (L2.defScope d.st) d.F.body (L2.defBody d.st)
theorem df_ok {K : PySem.W.Frag} {T : Tb} {d : DfD} (h : dfB T d = true) {a : Addr} {fd : FuncData} (F : L2.FunD K d.x d.x (L2.defArgs d.st) (L2.defBody d.st) (L2.defScope d.st) [] [] a fd) : DfOk K T a d.F fd ((L2.defArgs d.st).args.map (·.arg)) := by
  unfold dfB at h
  simp only [Bool.and_eq_true] at h
  obtain ⟨⟨⟨⟨⟨h1, h2⟩, h3⟩, h4⟩, h5⟩, h6⟩ := h
  refine ⟨⟨d.N, d.x, d.x, _, _, _, F, scB_ok h2, beq_iff_eq.mp h4, beq_iff_eq.mp h5, h6⟩, ?_⟩
  refine F.bindsN fun kV doc pm an cdv ct us hl => ?_
  have e := plainA_ok h1
  have := bind_plain (x := d.x) (qual := d.x) (as := (L2.defArgs d.st).args) (body := L2.defBody d.st) (scope := L2.defScope d.st) (kV := kV) (doc := doc) (pm := pm) (an := an) (cdv := cdv) (ct := ct) (us := us) (of_decide_eq_true h3) hl
  rw [← e] at this
  exact this
/-- an __init__ of the known form -/
def inB (d : XcD) : Bool := match d.st with
  | .FunctionDef _ ⟨[], [s, v], none, [], [], none, [_]⟩ [.Expr (.Call (.Attribute (.Name b _) m p2) [.Name s1 _, .Constant (.str _) _ _] [] p5) _, .Assign [.Attribute (.Name s2 _) g _] (.Name v1 _) _] _ _ _ sc _ _ _ =>
    decide (b = d.base) && decide (m = ("__init__" : Str)) && decide (s1 = s.arg) && decide (s2 = s.arg) && decide (v1 = v.arg) && decide (g = d.fld) && (p2.endLine == p5.line) && decide (s.arg ≠ v.arg) && scB [s.arg, v.arg] [s.arg, v.arg] sc && gloB sc d.base && locB sc s.arg && locB sc v.arg && nmB d.base && nmB s.arg && nmB v.arg && (d.base != ("super" : Str))
  | _ => false
theorem in_ok {P : Program} {w : World} {K : PySem.W.Frag} {mg : Str → Option Value} {base : Heap} {d : XcD} (h : inB d = true) {C : Addr} {f : Addr} {fd : FuncData} {nm qual : Str} (F : L2.FunD K nm qual (L2.defArgs d.st) (L2.defBody d.st) (L2.defScope d.st) [.non] [] f fd)
    (T : OwnB K (He.ga K d.base)) (hm : mg d.base = some (.ref (He.ga K d.base))) (TC : L2.OexC K C) (hno : PySem.W.findIn K (.ref C) d.fld = some none) :
    ∃ ps, L2.FnOk P w K mg base (L2.CX P w) 1 f fd ps (spI C d.fld) ∧ L2.Binds K fd ps [] := by
  obtain ⟨cls, bs, fl, st⟩ := d
  unfold inB at h
  simp only at h F T hm hno
  split at h
  · rename_i _ nmx s v dflx b p1 m p2 s1 p3 msg j p4 p5 p6 s2 p7 g p8 v1 p9 p10 _ _ _ sc _ _ _
    simp only [Bool.and_eq_true, decide_eq_true_eq] at h
    obtain ⟨⟨⟨⟨⟨⟨⟨⟨⟨⟨⟨⟨⟨⟨⟨h1, h2⟩, h3⟩, h4⟩, h5⟩, h6⟩, h7⟩, h8⟩, h9⟩, h10⟩, h11⟩, h12⟩, h13⟩, h14⟩, h15⟩, h16⟩ := h
    subst h1 h2 h3 h4 h5 h6
    refine ⟨[s.arg, v.arg], ok_init h7 F (scB_ok h9) T hm TC hno (gloB_ok h10) (locB_ok h11) (locB_ok h12) ⟨(nmB_ok h13).1, h16, (nmB_ok h14).1, (nmB_ok h14).2, (nmB_ok h15).1, (nmB_ok h15).2⟩, ?_⟩
    obtain ⟨ds, r, b⟩ := F.binds1 (ps := [s.arg, v.arg]) 2 1 (by simp) rfl fun T kV doc pm an cdv ct us its hu hi => by
      match us, its, hu, hi with
      | [u1, u2], [i], _, _ => exact bind_two h8
    cases r
    exact b
  · cases h
def Dat.okB (d : Dat) : Bool := d.ds.all (dfB d.T) && (d.gl.all (fun p => glB p.2) && (d.xs.all inB && (decide (d.xs.map (·.cls)).Nodup && d.xv.all inX)))
theorem lookup_memG {α : Type} {a : Str} {o : α} : ∀ {l : List (Str × α)}, l.lookup a = some o → (a, o) ∈ l
  | [], h => by cases h
  | (b, u) :: r, h => by
    rw [List.lookup_cons] at h
    cases q : (a == b) with
    | true =>
      rw [q] at h
      have e : u = o := Option.some.inj h
      rw [beq_iff_eq.mp q, e]
      exact List.mem_cons_self
    | false =>
      rw [q] at h
      exact List.mem_cons_of_mem _ (lookup_memG h)
theorem getD_of {α : Type} [Inhabited α] {l : List α} {i : Nat} {x : α} (h : l[i]? = some x) : l.getD i default = x := by
  rw [List.getD_eq_getElem?_getD, h]
  rfl
theorem world_of {P : Program} {w : World} {K : PySem.W.Frag} {h : Heap} {mg : Str → Option Value} {base : Heap} {d : Dat} (b : d.okB = true) (X : K.In h) (G : h.Ns mainGlobals mg) (S : SaysL d.fa d.fn d.ex K) : World0 P w K mg base (d.cfg K) d.T d.fs := by
  unfold Dat.okB at b
  obtain ⟨b1, b2⟩ := He.ba b
  obtain ⟨b3, b4⟩ := He.ba b2
  obtain ⟨b5, b60⟩ := He.ba b4
  obtain ⟨b6, b7⟩ := He.ba b60
  have m := S.more
  unfold Dat.ex at m
  obtain ⟨m0, mx⟩ := He.ba m
  obtain ⟨mx1, my⟩ := He.ba mx
  obtain ⟨my1, my2⟩ := He.ba my
  unfold Dat.ex0 at m0
  obtain ⟨m1, m2⟩ := He.ba m0
  obtain ⟨m3, m4⟩ := He.ba m2
  have fact : ∀ {f : He.Fa}, f ∈ d.fa → f.ok K = true := fun {f} hf => by
    obtain ⟨i, hi, e⟩ := List.mem_iff_getElem.mp hf
    exact S.d.fact i (f := f) (by rw [List.getElem?_eq_getElem hi, e])
  have defs : ∀ {z : He.DefD}, z ∈ d.fn → ∃ fd, L2.FunD K z.name z.qual z.params z.body z.scope (z.dvs K) (z.kws K) (He.fAd K z.at_) fd := fun {z} hz => by
    obtain ⟨i, hi, e⟩ := List.mem_iff_getElem.mp hz
    exact S.d.def_ i (d := z) (by rw [List.getElem?_eq_getElem hi, e])
  have xat : ∀ {c : Nat} {x : Str}, d.T.ex[c]? = some x → ∃ z, d.xs[c]? = some z ∧ z.cls = x ∧ (d.cfg K).cls c = He.ga K z.cls ∧ (d.cfg K).fld c = z.fld := fun {c x} hx => by
    have hx' : (d.xs.map (·.cls))[c]? = some x := hx
    rw [List.getElem?_map] at hx'
    cases q : d.xs[c]? with
    | none => rw [q] at hx'; cases hx'
    | some z =>
      rw [q] at hx'
      have e : z.cls = x := Option.some.inj hx'
      refine ⟨z, rfl, e, ?_, ?_⟩
      · show He.ga K ((d.xs.map (·.cls)).getD c default) = _
        rw [getD_of (x := z.cls) (by rw [List.getElem?_map, q]; rfl)]
      · show (d.xs.map (·.fld)).getD c default = _
        rw [getD_of (x := z.fld) (by rw [List.getElem?_map, q]; rfl)]
  have xlt : ∀ {c : Nat}, c < d.T.ex.length → ∃ z, d.xs[c]? = some z ∧ (d.cfg K).cls c = He.ga K z.cls := fun {c} hc => by
    obtain ⟨z, q, _, e, _⟩ := xat (List.getElem?_eq_getElem hc)
    exact ⟨z, q, e⟩
  have xc : ∀ {z : XcD}, z ∈ d.xs → L2.OexC K (He.ga K z.cls) ∧ OwnB K (He.ga K z.base) ∧ PySem.W.findIn K (.ref (He.ga K z.cls)) "__init__" = some (some (.ref (He.ma K (He.ga K z.cls) "__init__"))) ∧
      PySem.W.typeIn K (.ref (He.ma K (He.ga K z.cls) "__init__")) = some (.type "function") ∧ PySem.W.findIn K (.ref (He.ga K z.cls)) z.fld = some none ∧ L2.XfC K (He.ga K z.cls) := fun {z} hz => by
    have := List.all_eq_true.mp m3 z hz
    unfold xcB at this
    obtain ⟨q1, q2⟩ := He.ba this
    obtain ⟨q3, q4⟩ := He.ba q2
    obtain ⟨q5, q6⟩ := He.ba q4
    obtain ⟨q7, q8⟩ := He.ba q6
    obtain ⟨q9, q10⟩ := He.ba q8
    exact ⟨oexB_ok q1, ownBB_ok q3, He.eqO_ok q5, of_decide_eq_true q7, He.eqO_ok q9, L2.xfB_ok q10⟩
  have vat : ∀ {c : Nat} {z : Xz}, d.T.xv[c]? = some z → ∃ y, d.xv[c]? = some y ∧ y.xz = z ∧ (d.cfg K).xcl c = He.ga K y.cls := fun {c z} hz => by
    have hz' : (d.xv.map (·.xz))[c]? = some z := hz
    rw [List.getElem?_map] at hz'
    cases q : d.xv[c]? with
    | none => rw [q] at hz'; cases hz'
    | some y =>
      rw [q] at hz'
      refine ⟨y, rfl, Option.some.inj hz', ?_⟩
      show He.ga K ((d.xv.map (·.cls)).getD c default) = _
      rw [getD_of (x := y.cls) (by rw [List.getElem?_map, q]; rfl)]
  have vc : ∀ {z : XvD}, z ∈ d.xv → XvC K (He.ga K z.cls) z.kind.B z.kind.new z.kind.ini z.kind.bm ∧ XvL K (He.ga K z.cls) ∧ xvbB K z = true ∧ PySem.W.findIn K (.ref (He.ga K z.cls)) "__init__" = some (some (.ref (He.ma K (He.ga K z.cls) "__init__"))) ∧
      PySem.W.typeIn K (.ref (He.ma K (He.ga K z.cls) "__init__")) = some (.type "function") ∧ PySem.W.takerIn K (He.ga K z.cls) z.fld = some none := fun {z} hz => by
    have := List.all_eq_true.mp mx1 z hz
    unfold xvB at this
    obtain ⟨q1, q2⟩ := He.ba this
    obtain ⟨q3, q4⟩ := He.ba q2
    obtain ⟨q5, q6⟩ := He.ba q4
    obtain ⟨q7, q8⟩ := He.ba q6
    obtain ⟨q9, q10⟩ := He.ba q8
    exact ⟨xvcB_ok z.kind.F z.kind.S q1, xvlB_ok q3, q5, He.eqO_ok q7, of_decide_eq_true q9, He.eqO_ok q10⟩
  have vlt : ∀ {c : Nat}, c < d.xv.length → ∃ y, d.xv[c]? = some y ∧ (d.cfg K).xcl c = He.ga K y.cls := fun {c} hc => by
    obtain ⟨y, q, _, e⟩ := vat (c := c) (z := (d.xv[c]).xz) (by show (d.xv.map (·.xz))[c]? = _; rw [List.getElem?_map, List.getElem?_eq_getElem hc]; rfl)
    exact ⟨y, q, e⟩
  refine { xv := fun c z hz => ?xv, is := fun x ks hx => ?is, xl := fun c hc => ?xl, kk := rfl, gl := fun x e hx => ?_, bl := fun x hx => ?_, fn := fun f x hf => ?_, h0 := fun _ _ _ z => z, hex := fun c c' hc hc' => ?_, fl := fun c f hf hc => ?_, rai := fun c x hx => ?_ }
  case xv =>
    obtain ⟨y, q, rfl, e⟩ := vat hz
    have zm := List.mem_of_getElem? q
    obtain ⟨x1, x2, x3, x4, x5, x6⟩ := vc zm
    have hi := List.all_eq_true.mp b7 _ zm
    obtain ⟨fd, FD⟩ := defs (z := y.def_) (by unfold Dat.fn; exact List.mem_append_right _ (List.mem_map.mpr ⟨y, zm, rfl⟩))
    have FD' : L2.FunD K "__init__" (y.cls ++ ("." : Str) ++ ("__init__" : Str)) (L2.defArgs y.st) (L2.defBody y.st) (L2.defScope y.st) y.dvs [] (He.ma K (He.ga K y.cls) "__init__") fd := by
      rw [← XvD.dv_v K y]
      exact FD
    have hb : y.bm K mg := XvD.bm_of X G (fact (by unfold Dat.fa; simp only [List.mem_append, List.mem_map]; exact .inr (.inr (.inl ⟨_, zm, rfl⟩))))
    obtain ⟨ps, F1, F2, F3, F4⟩ := inx_ok (P := P) (w := w) (mg := mg) (base := base) hi FD' x3 hb x1 x6
    rw [e]
    refine ⟨He.glo_ok X G (fact (by unfold Dat.fa; simp only [List.mem_append, List.mem_map]; exact .inr (.inl ⟨_, zm, rfl⟩))), ?_, ⟨_, _, _, _, x1⟩, _, fd, ps, x4, x5, F1, F2, F3, F4⟩
    exact inX_asc hi
  case is =>
    have hm : (x, ks) ∈ d.is := EV.lookup_memG hx
    have hB := List.all_eq_true.mp my1 _ hm
    have key : ∀ (c : Nat) (b : Bool), ks[c]? = some b → ∃ z, d.xv[c]? = some z ∧ (d.cfg K).xcl c = He.ga K z.cls ∧ PySem.W.kitOne K (.ref ((d.cfg K).xcl c)) (isU K (x, ks)) = some b := fun c b hc => by
      obtain ⟨z, q, k⟩ := isB_ok hB hc
      obtain ⟨z', q', e⟩ := vlt (c := c) (List.getElem?_eq_some_iff.mp q).1
      rw [q] at q'
      cases q'
      exact ⟨z, q, e, by rw [e]; exact k⟩
    refine ⟨?_, fun c b hc => ?_⟩
    · rcases is_of (p := (x, ks)) X G (fact (by unfold Dat.fa; simp only [List.mem_append, List.mem_map]; exact .inr (.inr (.inr ⟨_, hm, rfl⟩)))) with ⟨A, h1, h2⟩ | ⟨N, h1, h2, h3, h4⟩
      · refine .inl ⟨A, h1, fun c b hc => ?_⟩
        obtain ⟨_, _, _, k⟩ := key c b hc
        rw [h2] at k
        exact k
      · refine .inr ⟨N, h1, h2, h3, fun c b hc => ?_⟩
        obtain ⟨_, _, _, k⟩ := key c b hc
        rw [h4] at k
        exact k
    · obtain ⟨z, q, e, _⟩ := key c b hc
      rw [e]
      exact (vc (List.mem_of_getElem? q)).2.1
  case xl =>
    have hc' : c < d.xv.length := by
      have z : c < (d.xv.map (·.xz)).length := hc
      simpa using z
    obtain ⟨y, q, e⟩ := vlt hc'
    rw [e]
    refine ⟨(vc (List.mem_of_getElem? q)).2.1, fun f hf => ?_⟩
    have hf' : f ∈ (d.xv.map (·.xz)).map (·.fld) := List.contains_iff_mem.mp hf
    rw [List.map_map] at hf'
    obtain ⟨y2, hm2, rfl⟩ := List.mem_map.mp hf'
    exact He.eqO_ok (List.all_eq_true.mp (List.all_eq_true.mp my2 y (List.mem_of_getElem? q)) y2 hm2)
  · have hm : (x, e) ∈ d.gl := EV.lookup_memG hx
    exact gl_ok (p := (x, e)) X G rfl (List.all_eq_true.mp b3 _ hm) (fact (by unfold Dat.fa Dat.fa0; simp only [List.mem_append, List.mem_map]; exact .inl (.inl (.inl (.inr ⟨_, hm, rfl⟩))))) (List.all_eq_true.mp m1 _ hm)
  · exact He.free_ok X G (fact (by unfold Dat.fa Dat.fa0; simp only [List.mem_append, List.mem_map]; exact .inl (.inl (.inl (.inl (.inr ⟨_, hx, rfl⟩))))))
  · have hf' : (d.ds.map (·.x))[f]? = some x := hf
    rw [List.getElem?_map] at hf'
    cases q : d.ds[f]? with
    | none => rw [q] at hf'; cases hf'
    | some z =>
      rw [q] at hf'
      have e : z.x = x := Option.some.inj hf'
      subst e
      have zm := List.mem_of_getElem? q
      have ea : (d.cfg K).adr f = He.ga K z.x := by
        show He.ga K ((d.ds.map (·.x)).getD f default) = _
        rw [getD_of (x := z.x) (by rw [List.getElem?_map, q]; rfl)]
      obtain ⟨fd, FD⟩ := defs (z := z.def_) (by unfold Dat.fn; exact List.mem_append_left _ (List.mem_append_left _ (List.mem_map.mpr ⟨z, zm, rfl⟩)))
      have FD' : L2.FunD K z.x z.x (L2.defArgs z.st) (L2.defBody z.st) (L2.defScope z.st) [] [] (He.ga K z.x) fd := FD
      rw [ea]
      refine ⟨He.glo_ok X G (fact (by unfold Dat.fa Dat.fa0; simp only [List.mem_append, List.mem_map]; exact .inl (.inl (.inl (.inl (.inl ⟨_, zm, rfl⟩)))))), FD'.kp, z.F, fd, _, ?_, df_ok (List.all_eq_true.mp b1 _ zm) FD'⟩
      unfold Dat.fs
      rw [List.getElem?_map, q]
      rfl
  · obtain ⟨z, q, e⟩ := xlt hc
    obtain ⟨z', q', e'⟩ := xlt hc'
    rw [e, e']
    have := List.all_eq_true.mp (List.all_eq_true.mp m4 z (List.mem_of_getElem? q)) z' (List.mem_of_getElem? q')
    rw [of_decide_eq_true this]
    congr 1
    have nd : (d.xs.map (·.cls)).Nodup := of_decide_eq_true b6
    have i1 : (d.xs.map (·.cls))[c]? = some z.cls := by rw [List.getElem?_map, q]; rfl
    have i2 : (d.xs.map (·.cls))[c']? = some z'.cls := by rw [List.getElem?_map, q']; rfl
    by_cases h : c = c'
    · subst h
      rw [i1] at i2
      simp [Option.some.inj i2]
    · have : z.cls ≠ z'.cls := fun e => h (L2.nodup_ix nd i1 (e ▸ i2))
      simp [h, this]
  · obtain ⟨z, q, _, e, e2⟩ := xat (List.getElem?_eq_getElem hc)
    have hf' : (d.xs.map (·.fld))[c]? = some f := hf
    rw [List.getElem?_map, q] at hf'
    have ef : z.fld = f := Option.some.inj hf'
    obtain ⟨x1, x2, x3, x4, x5, x6⟩ := xc (List.mem_of_getElem? q)
    rw [e, e2]
    exact ⟨ef, x6, by rw [← ef]; exact x5⟩
  · obtain ⟨z, q, ez, e, e2⟩ := xat hx
    subst ez
    have zm := List.mem_of_getElem? q
    obtain ⟨x1, x2, x3, x4, x5, x6⟩ := xc zm
    obtain ⟨fd, FD⟩ := defs (z := z.def_) (by unfold Dat.fn; exact List.mem_append_left _ (List.mem_append_right _ (List.mem_map.mpr ⟨z, zm, rfl⟩)))
    have FD' : L2.FunD K "__init__" (z.cls ++ ("." : Str) ++ ("__init__" : Str)) (L2.defArgs z.st) (L2.defBody z.st) (L2.defScope z.st) [.non] [] (He.ma K (He.ga K z.cls) "__init__") fd := FD
    obtain ⟨ps, F1, F2⟩ := in_ok (P := P) (w := w) (mg := mg) (base := base) (List.all_eq_true.mp b5 _ zm) FD' x2 (He.glo_ok X G (fact (by unfold Dat.fa Dat.fa0; simp only [List.mem_append, List.mem_map]; exact .inl (.inr ⟨_, zm, rfl⟩)))) x1 x5
    rw [e, e2]
    exact ⟨He.glo_ok X G (fact (by unfold Dat.fa Dat.fa0; simp only [List.mem_append, List.mem_map]; exact .inl (.inl (.inr ⟨_, zm, rfl⟩)))), x1, _, fd, ps, x3, x4, F1, F2⟩
end EV
end

section
set_option autoImplicit false
/-! The law's end: where the evaluator says True, the law holds. -/
namespace EV
open PySem PySem.Spec PyProof.Rows

theorem fn0_of {P : Program} {w : World} {K : PySem.W.Frag} {mg : Str → Option Value} {base : Heap} {k : Nat} {f : Addr} {fd : FuncData} {ps : List Str} {sp : L2.Sp} (F : L2.FnOk P w K mg base (L2.CX P w) k f fd ps sp) :
    L2.FnOk P w K mg base L2.CX0 k f fd ps (fun vs H Q _ => sp vs H Q (fun _ _ _ => False)) :=
  ⟨fun vs H Q E h => F.len vs H Q _ h, fun A outer s H args us vs Q E hr e0 hb hv h => codeAny_mono (F.run A outer s H args us vs Q (fun _ _ _ => False) hr e0 hb hv h) fun r s' hq => by
    cases r with
    | error e =>
      obtain ⟨_, _, _, _, _, _, _, _, _, _, _, _, z⟩ := hq
      exact z.elim
    | ok fl => cases fl <;> exact hq⟩
theorem end_of {l : PySem.W.OpenLaw} {q : Program} {loose : List Str} {XP : (Str → Option Value) → Heap → Prop} {dd : DefRec} {d : Dat} {n ix : Nat} {z : DfD} {x : Str} (hn : l.most = some 63) (hdf : dd.params.defaults = []) (b : d.okB = true)
    (hz : d.ds[ix]? = some z) (hzx : z.x = dd.name) (hps : (L2.defArgs z.st).args.map (·.arg) = [x]) (hr : L2.Room (n + 2) callerA)
    (pure : ∀ ns : List Int, ns.length ≤ 63 → ∃ L, evFn d.fs n ix [.lst (ns.map .int)] [] = .ok (.bl true) L) :
    PySem.W.WalkO q loose XP (fun _ h => ∃ K : PySem.W.Frag, K.In h ∧ SaysL d.fa d.fn d.ex K) l.row.toRowW dd [] (fun f vs => PySem.call f vs) := by
  refine L2.walk_ofE (l := l) (n := 63) (k := n + 2) (x := x) (CX := L2.CX0) hn (by decide) hdf hr (fun w mg fa h Y G hmg => ?_) (fun _ _ _ _ z => z)
  obtain ⟨K, KX, S⟩ := Y
  have A : ∀ base, World0 l.prog w K mg base (d.cfg K) d.T d.fs := fun base => world_of b KX G S
  have hfn : d.T.fn[ix]? = some z.x := by
    show (d.ds.map (·.x))[ix]? = _
    rw [List.getElem?_map, hz]
    rfl
  have hF : d.fs[ix]? = some z.F := by
    show (d.ds.map (·.F))[ix]? = _
    rw [List.getElem?_map, hz]
    rfl
  have zm := List.mem_of_getElem? hz
  have b1 : dfB d.T z = true := by
    unfold Dat.okB at b
    exact List.all_eq_true.mp (He.ba b).1 z zm
  have ea : (d.cfg K).adr ix = He.ga K z.x := by
    show He.ga K ((d.ds.map (·.x)).getD ix default) = _
    rw [getD_of (x := z.x) (by rw [List.getElem?_map, hz]; rfl)]
  obtain ⟨fd, FD⟩ : ∃ fd, L2.FunD K z.x z.x (L2.defArgs z.st) (L2.defBody z.st) (L2.defScope z.st) [] [] (He.ga K z.x) fd := by
    have hm : z.def_ ∈ d.fn := by unfold Dat.fn; exact List.mem_append_left _ (List.mem_append_left _ (List.mem_map.mpr ⟨z, zm, rfl⟩))
    obtain ⟨i, hi, e⟩ := List.mem_iff_getElem.mp hm
    exact S.d.def_ i (d := z.def_) (by rw [List.getElem?_eq_getElem hi, e])
  have gm : mg z.x = some (.ref (He.ga K z.x)) := by
    have := ((A h).fn ix z.x hfn).1
    rw [ea] at this
    exact this
  have efa : fa = He.ga K z.x := by
    rw [hzx, hmg] at gm
    rw [hzx]
    exact Value.ref.inj (Option.some.inj gm)
  subst efa
  have dk := df_ok (K := K) b1 FD
  rw [hps] at dk
  refine ⟨K, fd, fun vs H Q _ => spF (d.cfg K) (evFn d.fs n) ix vs H Q (fun _ _ _ => False), KX, fun s u => ?_, fun H a ns hl hO hS => ?_, fun base hK hG => ?_⟩
  · have b1' := b1
    unfold dfB at b1'
    simp only [Bool.and_eq_true] at b1'
    obtain ⟨⟨⟨⟨⟨h1, h2⟩, h3⟩, h4⟩, h5⟩, h6⟩ := b1'
    have := FD.bindsA (ps := [x]) (fun kV doc pm an cdv ct us hl => by
      have := bind_plain (x := z.x) (qual := z.x) (as := (L2.defArgs z.st).args) (body := L2.defBody z.st) (scope := L2.defScope z.st) (kV := kV) (doc := doc) (pm := pm) (an := an) (cdv := cdv) (ct := ct) (us := us) (of_decide_eq_true h3) (by rw [hps]; exact hl)
      rw [hps, ← plainA_ok h1] at this
      exact this) s [u] rfl
    exact this
  · obtain ⟨L, e⟩ := pure ns hl
    have rd : L2.Rd H a (.lst (ns.map L2.V.int)) := by
      rcases hS with hS | ⟨o, its, m, h1, h2, _⟩
      · exact hS
      · exact absurd h2 (S.nol _ _ h1)
    have rints : ∀ (ns : List Int) {Z : Addr → Prop}, RVs (d.cfg K) Z [] H (ns.map D.int) (ns.map L2.V.int) := fun ns {Z} => by
      induction ns with
      | nil => exact .nil
      | cons i r ih => exact .cons rv_int ih
    refine ⟨fun _ => False, [], [], [.lst (ns.map .int)], ⟨rfl, List.nodup_nil, fun k o e => by simp at e, fun _ z => z.elim⟩, .cons ?_ .nil, ?_⟩
    · unfold RV
      exact ⟨a, _, rfl, rd, fun z => z, by simp, rints ns⟩
    · rw [e]
      exact fun v ι' H' _ _ r => rv_unBl r
  · have A0 : World0 l.prog w K mg base (d.cfg K) d.T d.fs := world_of b KX G S
    have := all_ok A0 n ix z.F fd [x] hF (by rw [ea]; exact dk)
    rw [ea] at this
    exact fn0_of this
end EV
end

section
set_option autoImplicit false
/-! Lemmas for the pure side: loops, comprehensions, calls of the evaluator. -/
namespace EV
open PySem

@[simp] theorem bind_ok {α β : Type} {a : α} {L : Store} {f : α → M β} : (R.ok a L).bind f = f a L := rfl
@[simp] theorem bind_exc {α β : Type} {c : Nat} {d : D} {L : Store} {f : α → M β} : (R.exc c d L : R α).bind f = .exc c d L := rfl
@[simp] theorem bind_bad {α β : Type} {f : α → M β} : (R.bad : R α).bind f = .bad := rfl
@[simp] theorem then_ok {α : Type} {a : α} {L : Store} {ρ : Env} {f : α → Store → SR} : (R.ok a L).then ρ f = f a L := rfl
@[simp] theorem then_exc {α : Type} {c : Nat} {d : D} {L : Store} {ρ : Env} {f : α → Store → SR} : (R.exc c d L : R α).then ρ f = .exc c d ρ L := rfl
@[simp] theorem then_bad {α : Type} {ρ : Env} {f : α → Store → SR} : (R.bad : R α).then ρ f = .bad := rfl
@[simp] theorem seq_next {ρ : Env} {L : Store} {f : Env → Store → SR} : (SR.next ρ L).seq f = f ρ L := rfl
@[simp] theorem seq_ret {d : D} {L : Store} {f : Env → Store → SR} : (SR.ret d L).seq f = .ret d L := rfl
@[simp] theorem seq_exc {c : Nat} {d : D} {ρ : Env} {L : Store} {f : Env → Store → SR} : (SR.exc c d ρ L).seq f = .exc c d ρ L := rfl
@[simp] theorem seq_brk {ρ : Env} {L : Store} {f : Env → Store → SR} : (SR.brk ρ L).seq f = .brk ρ L := rfl
@[simp] theorem seq_cont {ρ : Env} {L : Store} {f : Env → Store → SR} : (SR.cont ρ L).seq f = .cont ρ L := rfl
@[simp] theorem seq_bad {f : Env → Store → SR} : (SR.bad).seq f = .bad := rfl
theorem look_some {α : Type} {f : Store → Option α} {L : Store} {a : α} (h : f L = some a) : look f L = .ok a L := by unfold look; rw [h]
/-- a test with a known answer's branches -/
theorem ite_bl {b : Bool} {x y : SR} : (match D.bl b with
    | .bl true => x
    | .bl false => y
    | _ => SR.bad) = if b = true then x else y := by cases b <;> rfl
theorem ite_bR {α : Type} {b : Bool} {x y : R α} : (match D.bl b with
    | .bl true => x
    | .bl false => y
    | _ => R.bad) = if b = true then x else y := by cases b <;> rfl
/-! ### what is walked: values -/
theorem compG_vals (f : D → M (Option D)) (ds : List D) : ∀ (n i : Nat) (L : Store), ds.length - i < n → compG f (.vals ds) n i L = compL f (ds.drop i) L := by
  intro n
  induction n with
  | zero => intro i L h; omega
  | succ n ih =>
    intro i L h
    unfold compG
    simp only [items]
    cases e : ds[i]? with
    | none =>
      have hl := List.getElem?_eq_none_iff.mp e
      rw [List.drop_eq_nil_of_le hl]
      rfl
    | some d =>
      have hl := (List.getElem?_eq_some_iff.mp e).1
      have hd : ds.drop i = d :: ds.drop (i + 1) := by
        rw [List.drop_eq_getElem_cons hl]
        congr 1
        exact (List.getElem?_eq_some_iff.mp e).2
      rw [hd]
      show (f d L).bind _ = (f d L).bind _
      congr 1
      funext o L1
      rw [ih (i + 1) L1 (by omega)]
theorem compW_vals {f : D → M (Option D)} {ds : List D} {L : Store} (h : ds.length ≤ big) : compW f (.vals ds) L = compL f ds L := by
  unfold compW smallW fuelW
  rw [if_pos (decide_eq_true h)]
  exact compG_vals f ds (ds.length + 1) 0 L (by omega)
theorem compL_nil {f : D → M (Option D)} {L : Store} : compL f [] L = .ok [] L := rfl
theorem compL_cons {f : D → M (Option D)} {d : D} {ds : List D} {L : Store} : compL f (d :: ds) L = (f d L).bind fun o L1 => (compL f ds L1).bind fun r L2 => .ok (match o with
    | some x => x :: r
    | none => r) L2 := rfl
/-- nothing is changed, nothing raised -/
theorem compL_fm {f : D → M (Option D)} {g : D → Option D} {L : Store} : ∀ {ds : List D}, (∀ d ∈ ds, f d L = .ok (g d) L) → compL f ds L = .ok (ds.filterMap g) L
  | [], _ => rfl
  | d :: ds, h => by
    rw [compL_cons, h d List.mem_cons_self]
    simp only [R.bind]
    rw [compL_fm fun x hx => h x (List.mem_cons_of_mem _ hx)]
    simp only [R.bind]
    rw [List.filterMap_cons]
    cases g d <;> rfl
theorem compL_map {f : D → M (Option D)} {g : D → D} {L : Store} {ds : List D} (h : ∀ d ∈ ds, f d L = .ok (some (g d)) L) : compL f ds L = .ok (ds.map g) L := by
  rw [compL_fm (g := fun d => some (g d)) h]
  congr 1
  induction ds with
  | nil => rfl
  | cons d r ih => rw [List.filterMap_cons, List.map_cons]; exact congrArg (g d :: ·) (ih fun x hx => h x (List.mem_cons_of_mem _ hx))
/-- the first that raises -/
theorem compL_exc {f : D → M (Option D)} {L : Store} {c : Nat} {e : D} : ∀ {as : List D} {d : D} {bs : List D}, (∀ a ∈ as, ∃ o, f a L = .ok o L) → f d L = .exc c e L → compL f (as ++ d :: bs) L = .exc c e L
  | [], d, bs, _, h => by
    rw [List.nil_append, compL_cons, h]
    rfl
  | a :: as, d, bs, h, k => by
    obtain ⟨o, ho⟩ := h a List.mem_cons_self
    rw [List.cons_append, compL_cons, ho]
    simp only [R.bind]
    rw [compL_exc (fun x hx => h x (List.mem_cons_of_mem _ hx)) k]
/-- with a store that changes: P stays true -/
theorem compL_st {f : D → M (Option D)} {P : Store → Prop} {Q : D → D → Prop} : ∀ {ds : List D} {L : Store}, P L → (∀ d ∈ ds, ∀ L, P L → ∃ x L', f d L = .ok (some x) L' ∧ P L' ∧ Q d x) → ∃ (xs : List D) (L' : Store), compL f ds L = .ok xs L' ∧ P L' ∧ xs.length = ds.length ∧ ∀ (i : Nat) (d x : D), ds[i]? = some d → xs[i]? = some x → Q d x
  | [], L, hp, _ => ⟨[], L, rfl, hp, rfl, fun i d x h => by simp at h⟩
  | d :: ds, L, hp, h => by
    obtain ⟨x, L1, e1, p1, q1⟩ := h d List.mem_cons_self L hp
    obtain ⟨xs, L2, e2, p2, l2, q2⟩ := compL_st p1 fun y hy => h y (List.mem_cons_of_mem _ hy)
    refine ⟨x :: xs, L2, ?_, p2, by simp [l2], fun i a b ha hb => ?_⟩
    · rw [compL_cons, e1]
      simp only [R.bind]
      rw [e2]
    · cases i with
      | zero => simp at ha hb; subst ha hb; exact q1
      | succ i => exact q2 i a b (by simpa using ha) (by simpa using hb)
theorem forG_vals (b : D → Env → Store → SR) (ds : List D) : ∀ (n i : Nat) (ρ : Env) (L : Store), ds.length - i < n → forG b (.vals ds) n i ρ L = forL b (ds.drop i) ρ L := by
  intro n
  induction n with
  | zero => intro i ρ L h; omega
  | succ n ih =>
    intro i ρ L h
    unfold forG
    simp only [items]
    cases e : ds[i]? with
    | none =>
      have hl := List.getElem?_eq_none_iff.mp e
      rw [List.drop_eq_nil_of_le hl]
      rfl
    | some d =>
      have hl := (List.getElem?_eq_some_iff.mp e).1
      have hd : ds.drop i = d :: ds.drop (i + 1) := by
        rw [List.drop_eq_getElem_cons hl]
        congr 1
        exact (List.getElem?_eq_some_iff.mp e).2
      rw [hd]
      show (match b d ρ L with
        | .next ρ1 L1 => _
        | .cont ρ1 L1 => _
        | .brk ρ1 L1 => _
        | r => r) = forL b (d :: ds.drop (i + 1)) ρ L
      unfold forL
      cases b d ρ L <;> first | rfl | exact ih (i + 1) _ _ (by omega)
theorem forW_vals {b : D → Env → Store → SR} {ds : List D} {ρ : Env} {L : Store} : forW b (.vals ds) ρ L = forL b ds ρ L := by
  exact forG_vals b ds (ds.length + 1) 0 ρ L (by omega)
theorem forL_nil {b : D → Env → Store → SR} {ρ : Env} {L : Store} : forL b [] ρ L = .next ρ L := rfl
theorem forL_cons {b : D → Env → Store → SR} {d : D} {ds : List D} {ρ : Env} {L : Store} : forL b (d :: ds) ρ L = match b d ρ L with
    | .next ρ1 L1 => forL b ds ρ1 L1
    | .cont ρ1 L1 => forL b ds ρ1 L1
    | .brk ρ1 L1 => .next ρ1 L1
    | r => r := rfl
/-- a loop that runs through or hands back -/
theorem forL_inv {b : D → Env → Store → SR} {I : List D → Env → Store → Prop} {Q : SR → Prop} (done : ∀ ρ L, I [] ρ L → Q (.next ρ L)) (turn : ∀ d r ρ L, I (d :: r) ρ L → (∃ ρ1 L1, (b d ρ L = .next ρ1 L1 ∨ b d ρ L = .cont ρ1 L1) ∧ I r ρ1 L1) ∨ (∃ x L1, b d ρ L = .ret x L1 ∧ Q (.ret x L1)) ∨ (∃ c x ρ1 L1, b d ρ L = .exc c x ρ1 L1 ∧ Q (.exc c x ρ1 L1)) ∨ ∃ ρ1 L1, b d ρ L = .brk ρ1 L1 ∧ Q (.next ρ1 L1)) :
    ∀ {ds : List D} {ρ : Env} {L : Store}, I ds ρ L → Q (forL b ds ρ L)
  | [], ρ, L, h => done ρ L h
  | d :: ds, ρ, L, h => by
    rw [forL_cons]
    rcases turn d ds ρ L h with ⟨ρ1, L1, e | e, i⟩ | ⟨x, L1, e, q⟩ | ⟨c, x, ρ1, L1, e, q⟩ | ⟨ρ1, L1, e, q⟩
    · rw [e]; exact forL_inv done turn i
    · rw [e]; exact forL_inv done turn i
    · rw [e]; exact q
    · rw [e]; exact q
    · rw [e]; exact q

/-! ### calls -/
theorem callF_pure {cf : Nat → List D → M D} {f : Nat} {xs : List D} {L L1 : Store} {d : D} (p : purAll xs = true) (h : cf f xs [] = .ok d L1) (pd : d.pure = true) : callF cf f xs L = .ok d L := by
  unfold callF
  rw [if_pos p, h]
  have : frozen 0 d L1 = some d := by
    cases d <;> first | (simp only [frozen]; rw [if_pos pd]) | (simp [D.pure] at pd)
  simp only [this]
theorem callF_exc {cf : Nat → List D → M D} {f : Nat} {xs : List D} {L L1 : Store} {c : Nat} {d : D} (p : purAll xs = true) (h : cf f xs [] = .exc c d L1) (pd : d.pure = true) : callF cf f xs L = .exc c d L := by
  unfold callF
  rw [if_pos p, h]
  simp only
  rw [if_pos pd]
end EV
namespace EV
@[simp] theorem ty_beq (a b : Ty) : (a == b) = decide (a = b) := by cases a <;> cases b <;> rfl
theorem purAll_cons {d : D} {r : List D} : purAll (d :: r) = (d.pure && purAll r) := rfl
end EV
end

section
set_option autoImplicit false
/-! Running the evaluator by rules: one for each construct, the value by unification. -/
namespace EV
open PySem
section
variable {cf : Nat → List D → M D} {ρ : Env} {L L1 L2 L3 : Store} {a b c : E} {x y z d : D} {p q : Bool}
theorem r_slot {i : Nat} (h : ρ[i]? = some (some d)) : evE cf (.slot i) ρ L = .ok d L := by simp only [evE, h]
theorem r_cst : evE cf (.cst d) ρ L = .ok d L := by simp only [evE]
theorem r_glob : evE cf (.glob d) ρ L = .ok d L := by simp only [evE]
theorem r_fnv {f : Nat} : evE cf (.fnv f) ρ L = .ok (.fn f) L := by simp only [evE]
theorem r_bin {o : Bin} (ha : evE cf a ρ L = .ok x L1) (hb : evE cf b ρ L1 = .ok y L2) (h : binV L2 o x y = some d) : evE cf (.bin o a b) ρ L = .ok d L2 := by simp only [evE, ha, hb, bind_ok, look, h]
theorem r_neg {i : Int} (ha : evE cf a ρ L = .ok (.int i) L1) : evE cf (.neg a) ρ L = .ok (.int (-i)) L1 := by simp only [evE, ha, bind_ok]
theorem r_not (ha : evE cf a ρ L = .ok (.bl p) L1) : evE cf (.not a) ρ L = .ok (.bl (!p)) L1 := by simp only [evE, ha, bind_ok]
theorem r_cmp {o : Cmp} (ha : evE cf a ρ L = .ok x L1) (hb : evE cf b ρ L1 = .ok y L2) (h : cmpV L2 o x y = some p) : evE cf (.cmp o a b) ρ L = .ok (.bl p) L2 := by simp only [evE, ha, hb, bind_ok, look, h]
theorem r_chain {o1 o2 : Cmp} (ha : evE cf a ρ L = .ok x L1) (hb : evE cf b ρ L1 = .ok y L2) (h : cmpV L2 o1 x y = some p) (hc : evE cf c ρ L2 = .ok z L2) (h2 : cmpV L2 o2 y z = some q) : evE cf (.chain o1 o2 a b c) ρ L = .ok (.bl (p && q)) L2 := by
  simp only [evE, ha, hb, bind_ok, look, h]
  cases p with
  | false => rfl
  | true => simp only [if_true, hc, bind_ok, h2]; rfl
theorem r_isN (ha : evE cf a ρ L = .ok x L1) : evE cf (.isN a) ρ L = .ok (.bl (match x with
    | .non => true
    | _ => false)) L1 := by simp only [evE, ha, bind_ok]; cases x <;> rfl
theorem r_notN (ha : evE cf a ρ L = .ok x L1) : evE cf (.notN a) ρ L = .ok (.bl (match x with
    | .non => false
    | _ => true)) L1 := by simp only [evE, ha, bind_ok]; cases x <;> rfl
theorem r_and (ha : evE cf a ρ L = .ok (.bl p) L1) (hb : p = true → evE cf b ρ L1 = .ok (.bl q) L1) : evE cf (.and a b) ρ L = .ok (.bl (p && q)) L1 := by
  simp only [evE, ha, bind_ok]
  cases p with
  | false => rfl
  | true => simp only [hb rfl, bind_ok]; rfl
theorem r_or (ha : evE cf a ρ L = .ok (.bl p) L1) (hb : p = false → evE cf b ρ L1 = .ok (.bl q) L1) : evE cf (.or a b) ρ L = .ok (.bl (p || q)) L1 := by
  simp only [evE, ha, bind_ok]
  cases p with
  | true => rfl
  | false => simp only [hb rfl, bind_ok]; rfl
theorem r_ife (hc : evE cf c ρ L = .ok (.bl p) L1) (ha : p = true → evE cf a ρ L1 = .ok x L2) (hb : p = false → evE cf b ρ L1 = .ok x L2) : evE cf (.ife c a b) ρ L = .ok x L2 := by
  simp only [evE, hc, bind_ok]
  cases p with
  | true => exact ha rfl
  | false => exact hb rfl
theorem r_tup {es : Es} {xs : List D} (h : evEs cf es ρ L = .ok xs L1) (hl : xs.length ≤ big) : evE cf (.tup es) ρ L = .ok (.tup xs) L1 := by simp only [evE, h, bind_ok, if_pos hl]
theorem r_frz {f : F} {xs : List D} (h : evF cf f ρ L = .ok xs L1) : evE cf (.frz f) ρ L = .ok (.lst xs) L1 := by simp only [evE, h, bind_ok]
theorem r_mut {f : F} {xs : List D} (h : evF cf f ρ L = .ok xs L1) : evE cf (.mut f) ρ L = .ok (.obj L1.length) (L1 ++ [.lst xs]) := by simp only [evE, h, bind_ok]
theorem r_call {f : Nat} {es : Es} {xs : List D} (h : evEs cf es ρ L = .ok xs L1) (k : callF cf f xs L1 = .ok d L2) : evE cf (.call f es) ρ L = .ok d L2 := by simp only [evE, h, bind_ok, k]
theorem r_callE {f : Nat} {es : Es} {xs : List D} {n : Nat} (h : evEs cf es ρ L = .ok xs L1) (k : callF cf f xs L1 = .exc n d L2) : evE cf (.call f es) ρ L = .exc n d L2 := by simp only [evE, h, bind_ok, k]
theorem r_bi {o : Bi} {es : Es} {xs : List D} (h : evEs cf es ρ L = .ok xs L1) (k : biV L1 o xs = some d) : evE cf (.bi o es) ρ L = .ok d L1 := by simp only [evE, h, bind_ok, look, k]
theorem r_meth {m : Me} {o : E} {es : Es} {xs : List D} (h0 : evE cf o ρ L = .ok x L1) (hr : recv m x L1 = true) (h : evEs cf es ρ L1 = .ok xs L2) (k : meV L2 m x xs = some d) : evE cf (.meth m o es) ρ L = .ok d L2 := by
  simp only [evE, h0, bind_ok, hr, if_true, h]
  have hm : m ≠ .append := by
    intro e
    subst e
    simp [meV] at k
  split
  · exact absurd rfl hm
  · simp only [look, k]
theorem r_append {o : E} {e : E} {k : Nat} {ds : List D} (h0 : evE cf o ρ L = .ok (.obj k) L1) (h1 : L1[k]? = some (.lst ds)) (h : evE cf e ρ L1 = .ok y L2) (h2 : L2[k]? = some (.lst ds)) (hl : ds.length < big) :
    evE cf (.meth .append o (.cons e .nil)) ρ L = .ok .non (L2.set k (.lst (ds ++ [y]))) := by
  simp only [evE, evEs, h0, bind_ok, recv, h1, if_true, h, h2, if_pos hl]
theorem r_ix (ha : evE cf a ρ L = .ok x L1) (hb : evE cf b ρ L1 = .ok y L2) (h : ixV L2 x y = some d) : evE cf (.ix a b) ρ L = .ok d L2 := by simp only [evE, ha, hb, bind_ok, look, h]
theorem r_dget (ha : evE cf a ρ L = .ok x L1) (hb : evE cf b ρ L1 = .ok y L2) (h : dictGet L2 x y = some (some d)) : evE cf (.dget a b) ρ L = .ok d L2 := by
  have : (dictGet L2 x y).bind id = some d := by rw [h]; rfl
  simp only [evE, ha, hb, bind_ok, look, this]
theorem r_sl {lo hi : Oe} {l h : Option Int} (ha : evE cf a ρ L = .ok x L1) (hl : evO cf lo ρ L1 = .ok l L2) (hh : evO cf hi ρ L2 = .ok h L3) (k : slV L3 x l h = some d) : evE cf (.sl a lo hi) ρ L = .ok d L3 := by simp only [evE, ha, hl, hh, bind_ok, look, k]
theorem r_isi {t : Ty} (ha : evE cf a ρ L = .ok x L1) (h : isiV t L1 x = some p) : evE cf (.isi a t) ρ L = .ok (.bl p) L1 := by simp only [evE, ha, bind_ok, look, h]
theorem r_nil : evEs cf .nil ρ L = .ok [] L := by simp only [evEs]
theorem r_cons {e : E} {r : Es} {xs : List D} (h : evE cf e ρ L = .ok x L1) (k : evEs cf r ρ L1 = .ok xs L2) : evEs cf (.cons e r) ρ L = .ok (x :: xs) L2 := by simp only [evEs, h, bind_ok, k]
theorem r_onone : evO cf .none ρ L = .ok none L := by simp only [evO]
theorem r_osome {i : Int} (h : evE cf a ρ L = .ok (.int i) L1) : evO cf (.some a) ρ L = .ok (some i) L1 := by simp only [evO, h, bind_ok]
theorem r_disp {es : Es} {xs : List D} (h : evEs cf es ρ L = .ok xs L1) (hl : xs.length ≤ big) : evF cf (.disp es) ρ L = .ok xs L1 := by simp only [evF, h, bind_ok, if_pos hl]
/-- one turn of a comprehension -/
def turnE (cf : Nat → List D → M D) (n : Bool) (elt : E) (tg : Tg) (t : Oe) (own : List Nat) (ρ : Env) : D → M (Option D) := fun d L => match bindT tg d (wipeD ρ own) with
  | none => .bad
  | some ρ' => noX n ((evT cf t ρ' L).bind fun b L2 => if b then (evE cf elt ρ' L2).bind fun x L3 => .ok (some x) L3 else .ok none L2)
theorem r_lc {n : Bool} {elt : E} {tg : Tg} {it : It} {t : Oe} {own : List Nat} {ds xs : List D} (hi : evI cf it ρ L = .ok (.vals ds) L1) (hl : ds.length ≤ big) (h : compL (turnE cf n elt tg t own ρ) ds L1 = .ok xs L2) : evF cf (.lc n elt tg it t own) ρ L = .ok xs L2 := by
  simp only [evF, hi, bind_ok]
  exact (compW_vals hl).trans h
theorem r_lcE {n : Bool} {elt : E} {tg : Tg} {it : It} {t : Oe} {own : List Nat} {ds : List D} {k : Nat} (hi : evI cf it ρ L = .ok (.vals ds) L1) (hl : ds.length ≤ big) (h : compL (turnE cf n elt tg t own ρ) ds L1 = .exc k d L2) : evF cf (.lc n elt tg it t own) ρ L = .exc k d L2 := by
  simp only [evF, hi, bind_ok]
  exact (compW_vals hl).trans h
theorem r_turn {n : Bool} {elt : E} {tg : Tg} {own : List Nat} {ρ' : Env} (hb : bindT tg y (wipeD ρ own) = some ρ') (h : evE cf elt ρ' L = .ok x L1) : turnE cf n elt tg .none own ρ y L = .ok (some x) L1 := by
  unfold turnE
  simp only [hb, evT, bind_ok, if_true, h, noX]
theorem r_turnT {n : Bool} {elt t : E} {tg : Tg} {own : List Nat} {ρ' : Env} {r : Option D} (hb : bindT tg y (wipeD ρ own) = some ρ') (ht : evE cf t ρ' L = .ok (.bl p) L1) (h : p = true → ∃ x, evE cf elt ρ' L1 = .ok x L2 ∧ r = some x) (k : p = false → L2 = L1 ∧ r = none) : turnE cf n elt tg (.some t) own ρ y L = .ok r L2 := by
  unfold turnE
  simp only [hb, evT, ht, bind_ok]
  cases p with
  | true =>
    obtain ⟨x, e, rfl⟩ := h rfl
    simp only [if_true, e, bind_ok, noX]
  | false =>
    obtain ⟨rfl, rfl⟩ := k rfl
    rfl
theorem r_vlst {ds : List D} (h : evE cf a ρ L = .ok (.lst ds) L1) : evI cf (.val a) ρ L = .ok (.vals ds) L1 := by simp only [evI, h, bind_ok]
theorem r_vtup {ds : List D} (h : evE cf a ρ L = .ok (.tup ds) L1) : evI cf (.val a) ρ L = .ok (.vals ds) L1 := by simp only [evI, h, bind_ok]
theorem r_vstr {t : List Nat} (h : evE cf a ρ L = .ok (.str t) L1) : evI cf (.val a) ρ L = .ok (.vals (signs t)) L1 := by simp only [evI, h, bind_ok]
theorem r_rng {i : Int} (h : evE cf a ρ L = .ok (.int i) L1) (hb : i < 2 ^ 62 ∧ -(2 ^ 62) ≤ i) : evI cf (.range1 a) ρ L = .ok (.vals (upto 0 i.toNat)) L1 := by simp only [evI, h, bind_ok, if_pos hb]
theorem r_enum {ds : List D} (h : evE cf a ρ L = .ok (.lst ds) L1) : evI cf (.enum a) ρ L = .ok (.vals (numbered 0 ds)) L1 := by simp only [evI, h, bind_ok]
/-! ### statements: X is what comes out -/
variable {X : SR} {r : Ss}
theorem q_nil : evSs cf .nil ρ L = .next ρ L := by simp only [evSs]
theorem q_set {i : Nat} (h : evE cf a ρ L = .ok x L1) (k : evSs cf r (ρ.set i (some x)) L1 = X) : evSs cf (.cons (.set i a) r) ρ L = X := by simp only [evSs, evS, h, then_ok, seq_next, k]
theorem q_setE {i n : Nat} (h : evE cf a ρ L = .exc n x L1) : evSs cf (.cons (.set i a) r) ρ L = .exc n x ρ L1 := by simp only [evSs, evS, h, then_exc, seq_exc]
theorem q_par {is : List Nat} {es : Es} {xs : List D} (h : evEs cf es ρ L = .ok xs L1) (hl : xs.length = is.length) (k : evSs cf r (setAll is xs ρ) L1 = X) : evSs cf (.cons (.par is es) r) ρ L = X := by simp only [evSs, evS, h, then_ok, if_pos hl, seq_next, k]
theorem q_asg {t : Tg} {ρ' : Env} (h : evE cf a ρ L = .ok x L1) (hb : bindT t x ρ = some ρ') (k : evSs cf r ρ' L1 = X) : evSs cf (.cons (.asg t a) r) ρ L = X := by simp only [evSs, evS, h, then_ok, hb, seq_next, k]
theorem q_ex (h : evE cf a ρ L = .ok x L1) (k : evSs cf r ρ L1 = X) : evSs cf (.cons (.ex a) r) ρ L = X := by simp only [evSs, evS, h, then_ok, seq_next, k]
theorem q_exE {n : Nat} (h : evE cf a ρ L = .exc n x L1) : evSs cf (.cons (.ex a) r) ρ L = .exc n x ρ L1 := by simp only [evSs, evS, h, then_exc, seq_exc]
theorem q_ret (h : evE cf a ρ L = .ok x L1) : evSs cf (.cons (.ret a) r) ρ L = .ret x L1 := by simp only [evSs, evS, h, then_ok, seq_ret]
theorem q_raise {n : Nat} (h : evE cf a ρ L = .ok x L1) : evSs cf (.cons (.raise n a) r) ρ L = .exc n x ρ L1 := by simp only [evSs, evS, h, then_ok, seq_exc]
theorem q_ife {s1 s2 : Ss} (h : evE cf a ρ L = .ok (.bl p) L1) (h1 : p = true → (evSs cf s1 ρ L1).seq (fun ρ1 L1 => evSs cf r ρ1 L1) = X) (h2 : p = false → (evSs cf s2 ρ L1).seq (fun ρ1 L1 => evSs cf r ρ1 L1) = X) : evSs cf (.cons (.ife a s1 s2) r) ρ L = X := by
  simp only [evSs, evS, h, then_ok]
  cases p with
  | true => exact h1 rfl
  | false => exact h2 rfl
/-- if c: return d, then the rest -/
theorem q_ifr {s1 : Ss} (h : evE cf a ρ L = .ok (.bl p) L1) (h1 : p = true → (evSs cf s1 ρ L1).seq (fun ρ1 L1 => evSs cf r ρ1 L1) = X) (h2 : p = false → evSs cf r ρ L1 = X) : evSs cf (.cons (.ife a s1 .nil) r) ρ L = X :=
  q_ife h h1 fun e => by rw [q_nil]; exact h2 e
theorem q_for {t : Tg} {it : It} {b : Ss} {ds : List D} (h : evI cf it ρ L = .ok (.vals ds) L1) (k : (forL (fun d ρ L => match bindT t d ρ with
      | some ρ' => evSs cf b ρ' L
      | none => .bad) ds ρ L1).seq (fun ρ1 L1 => evSs cf r ρ1 L1) = X) : evSs cf (.cons (.for_ t it b) r) ρ L = X := by
  simp only [evSs, evS, h, then_ok]
  rw [forW_vals]
  exact k
theorem r_ife2 (hc : evE cf c ρ L = .ok (.bl p) L1) (ha : p = true → evE cf a ρ L1 = .ok x L2) (hb : p = false → evE cf b ρ L1 = .ok y L2) : evE cf (.ife c a b) ρ L = .ok (if p = true then x else y) L2 := by
  simp only [evE, hc, bind_ok]
  cases p with
  | true => exact ha rfl
  | false => exact hb rfl
variable {X1 X2 : SR}
theorem q_ifret {s1 : Ss} (h : evE cf a ρ L = .ok (.bl p) L1) (h1 : p = true → evSs cf s1 ρ L1 = .ret x L2) (h2 : p = false → evSs cf r ρ L1 = X) : evSs cf (.cons (.ife a s1 .nil) r) ρ L = if p = true then .ret x L2 else X := by
  refine q_ifr h (fun e => ?_) fun e => ?_
  · rw [h1 e, seq_ret, if_pos e]
  · rw [h2 e, if_neg (by rw [e]; decide)]
theorem q_ifexc {s1 : Ss} {n : Nat} {ρ1 : Env} (h : evE cf a ρ L = .ok (.bl p) L1) (h1 : p = true → evSs cf s1 ρ L1 = .exc n x ρ1 L2) (h2 : p = false → evSs cf r ρ L1 = X) : evSs cf (.cons (.ife a s1 .nil) r) ρ L = if p = true then .exc n x ρ1 L2 else X := by
  refine q_ifr h (fun e => ?_) fun e => ?_
  · rw [h1 e, seq_exc, if_pos e]
  · rw [h2 e, if_neg (by rw [e]; decide)]
/-- what a body's end is to its caller -/
def retS : SR → R D
  | .next _ L1 => .ok .non L1
  | .ret d L1 => .ok d L1
  | .exc c d _ L1 => .exc c d L1
  | _ => .bad
theorem run_fn {fs : List Fd} {n f : Nat} {F : Fd} {xs : List D} {Y : R D} (hf : fs[f]? = some F) (hl : xs.length = F.np) (h : evSs (evFn fs n) F.body (startD F.nl xs) L = X) (k : retS X = Y) : evFn fs (n + 1) f xs L = Y := by
  unfold evFn
  rw [hf]
  simp only
  rw [if_pos hl, h, ← k]
  cases X <;> rfl
theorem run_at {fs : List Fd} {n f : Nat} {F : Fd} {B : Ss} {xs : List D} {Y : R D} (ρ : Env) (hf : fs[f]? = some F) (hl : xs.length = F.np) (hs : startD F.nl xs = ρ) (hB : F.body = B) (h : evSs (evFn fs n) B ρ L = X) (k : retS X = Y) : evFn fs (n + 1) f xs L = Y :=
  run_fn hf hl (hs ▸ hB ▸ h) k
end
end EV
end

section

set_option autoImplicit false
namespace EV
open PySem
/-- a call of pure data that ends with d, whatever the store -/
def OkC (cf : Nat → List D → M D) (f : Nat) (xs : List D) (d : D) : Prop := ∀ L, callF cf f xs L = .ok d L
def ExC (cf : Nat → List D → M D) (f : Nat) (xs : List D) (c : Nat) (d : D) : Prop := ∀ L, callF cf f xs L = .exc c d L
theorem okC_use {cf : Nat → List D → M D} {f : Nat} {xs : List D} {d : D} {L : Store} (h : OkC cf f xs d) : callF cf f xs L = .ok d L := h L
theorem exC_use {cf : Nat → List D → M D} {f : Nat} {xs : List D} {d : D} {c : Nat} {L : Store} (h : ExC cf f xs c d) : callF cf f xs L = .exc c d L := h L
theorem okC_of {cf : Nat → List D → M D} {f : Nat} {xs : List D} {d : D} {L1 : Store} (h : cf f xs [] = .ok d L1) (p : purAll xs = true) (pd : d.pure = true) : OkC cf f xs d := fun L => callF_pure p h pd
theorem exC_of {cf : Nat → List D → M D} {f : Nat} {xs : List D} {d : D} {c : Nat} {L1 : Store} (h : cf f xs [] = .exc c d L1) (p : purAll xs = true) (pd : d.pure = true) : ExC cf f xs c d := fun L => callF_exc p h pd
theorem eq_use {α : Type} {a b : α} (h : a = b) : a = b := h
theorem le_use {a b : Nat} (h : a ≤ b) : a ≤ b := h
theorem seq_of {r X : SR} {ρ : Env} {L : Store} {f : Env → Store → SR} (h : r = .next ρ L) (k : f ρ L = X) : r.seq f = X := by rw [h, seq_next]; exact k
theorem seq_ofR {r : SR} {d : D} {L : Store} {f : Env → Store → SR} (h : r = .ret d L) : r.seq f = .ret d L := by rw [h, seq_ret]
theorem seq_ofE {r : SR} {c : Nat} {d : D} {ρ : Env} {L : Store} {f : Env → Store → SR} (h : r = .exc c d ρ L) : r.seq f = .exc c d ρ L := by rw [h, seq_exc]
section
variable {cf : Nat → List D → M D} {ρ : Env} {L L1 L2 L3 : Store} {a b c : E} {x y z d : D} {p q : Bool} {n : Nat}
theorem r_frzE {f : F} (h : evF cf f ρ L = .exc n d L1) : evE cf (.frz f) ρ L = .exc n d L1 := by simp only [evE, h, bind_exc]
theorem r_consE {r : Es} (h : evE cf a ρ L = .exc n d L1) : evEs cf (.cons a r) ρ L = .exc n d L1 := by simp only [evEs, h, bind_exc]
theorem r_biE {o : Bi} {es : Es} (h : evEs cf es ρ L = .exc n d L1) : evE cf (.bi o es) ρ L = .exc n d L1 := by simp only [evE, h, bind_exc]
theorem q_retE {r : Ss} (h : evE cf a ρ L = .exc n x L1) : evSs cf (.cons (.ret a) r) ρ L = .exc n x ρ L1 := by simp only [evSs, evS, h, then_exc, seq_exc]
theorem q_skip {s1 r : Ss} {X : SR} (h : evE cf a ρ L = .ok (.bl false) L1) (k : evSs cf r ρ L1 = X) : evSs cf (.cons (.ife a s1 .nil) r) ρ L = X := q_ifr h (fun e => absurd e (by decide)) fun _ => k
theorem q_take {s1 s2 r : Ss} (h : evE cf a ρ L = .ok (.bl true) L1) (k : evSs cf s1 ρ L1 = .ret x L2) : evSs cf (.cons (.ife a s1 s2) r) ρ L = .ret x L2 := q_ife h (fun _ => seq_ofR k) fun e => absurd e (by decide)
theorem q_takeE {s1 s2 r : Ss} {ρ1 : Env} (h : evE cf a ρ L = .ok (.bl true) L1) (k : evSs cf s1 ρ L1 = .exc n x ρ1 L2) : evSs cf (.cons (.ife a s1 s2) r) ρ L = .exc n x ρ1 L2 := q_ife h (fun _ => seq_ofE k) fun e => absurd e (by decide)
end
/-! ### small facts of the operators -/
theorem len_s {L : Store} {t : List Nat} (h : t.length ≤ big) : biV L .len [.str t] = some (.int t.length) := by
  unfold biV
  exact if_pos h
theorem upto_eq : ∀ (n : Nat) (a : Int), upto a n = (List.range n).map fun i => .int (a + i)
  | 0, _ => rfl
  | n + 1, a => by
    rw [upto, upto_eq n, List.range_succ_eq_map, List.map_cons, List.map_map]
    simp only [Int.natCast_zero, Int.add_zero, List.cons.injEq, true_and]
    refine List.map_congr_left fun i _ => ?_
    simp only [Function.comp, Nat.succ_eq_add_one, Int.natCast_add, Int.natCast_one]
    congr 1
    omega
theorem upto0 (n : Nat) : upto 0 n = (List.range n).map fun i : Nat => D.int i := by
  rw [upto_eq]
  refine List.map_congr_left fun i _ => ?_
  rw [Int.zero_add]
theorem upto_len (n : Nat) : (upto 0 n).length = n := by rw [upto0]; simp
/-- a comprehension over numbers whose turns are known -/
theorem comp_rng {f : D → M (Option D)} {g : Nat → D} {n : Nat} {L : Store} (h : ∀ i < n, f (.int i) L = .ok (some (g i)) L) : compL f (upto 0 n) L = .ok ((List.range n).map g) L := by
  rw [upto0, show (List.range n).map g = ((List.range n).map fun i : Nat => D.int i).map fun d => match d with
    | .int i => g i.toNat
    | d => d from by rw [List.map_map]; rfl]
  refine compL_map fun d hd => ?_
  obtain ⟨i, hi, rfl⟩ := List.mem_map.mp hd
  exact h i (List.mem_range.mp hi)
/-- a comprehension over mapped items -/
theorem comp_of {α : Type} {k : α → D} {f : D → M (Option D)} {g : α → D} {L : Store} : ∀ {l : List α}, (∀ a ∈ l, f (k a) L = .ok (some (g a)) L) → compL f (l.map k) L = .ok (l.map g) L
  | [], _ => rfl
  | a :: l, h => by
    rw [List.map_cons, compL_cons, h a List.mem_cons_self]
    simp only [R.bind]
    rw [comp_of fun x hx => h x (List.mem_cons_of_mem _ hx)]
    rfl
/-- with a test -/
theorem comp_if {α : Type} {k : α → D} {f : D → M (Option D)} {g : α → D} {p : α → Bool} {L : Store} : ∀ {l : List α}, (∀ a ∈ l, f (k a) L = .ok (if p a = true then some (g a) else none) L) → compL f (l.map k) L = .ok ((l.filter p).map g) L
  | [], _ => rfl
  | a :: l, h => by
    rw [List.map_cons, compL_cons, h a List.mem_cons_self]
    simp only [R.bind]
    rw [comp_if fun x hx => h x (List.mem_cons_of_mem _ hx), List.filter_cons]
    cases p a <;> rfl
/-- the first that raises -/
theorem comp_exc {α : Type} {k : α → D} {f : D → M (Option D)} {g : α → D} {p : α → Bool} {c : Nat} {e : D} {L : Store} : ∀ {l : List α}, (∀ a ∈ l, p a = true → f (k a) L = .ok (some (g a)) L) → (∀ a ∈ l, p a = false → f (k a) L = .exc c e L) → l.all p = false → compL f (l.map k) L = .exc c e L
  | [], _, _, h => by simp at h
  | a :: l, h, h2, h3 => by
    rw [List.map_cons, compL_cons]
    cases e1 : p a with
    | false => rw [h2 a List.mem_cons_self e1]; rfl
    | true =>
      rw [h a List.mem_cons_self e1]
      simp only [R.bind]
      rw [List.all_cons, e1, Bool.true_and] at h3
      rw [comp_exc (fun x hx => h x (List.mem_cons_of_mem _ hx)) (fun x hx => h2 x (List.mem_cons_of_mem _ hx)) h3]
theorem blsOf_map {α : Type} (g : α → Bool) : ∀ l : List α, blsOf (l.map fun i => .bl (g i)) = some (l.map g)
  | [] => rfl
  | a :: l => by rw [List.map_cons, blsOf, blsOf_map g l]; rfl
theorem all_map {L : Store} {α : Type} (g : α → Bool) (l : List α) : biV L .all [.lst (l.map fun i => .bl (g i))] = some (.bl (l.all g)) := by
  unfold biV
  simp only [listOf, blsOf_map, List.all_map]
  rfl
theorem ix_s {L : Store} {t : List Nat} {i c : Nat} (h : t.length ≤ big) (hc : t[i]? = some c) : ixV L (.str t) (.int (i : Int)) = some (.str [c]) := by
  unfold ixV
  simp only [if_pos h, L2.atI_nat hc]
theorem cut_take {α : Type} (t : List α) (i : Nat) (hi : i ≤ t.length) : cutL t none (some (i : Int)) = t.take i := by
  unfold cutL
  rw [HT.sIx_none, HT.sIx_nat, List.drop_zero, Nat.sub_zero, Nat.min_eq_left hi]
theorem cut_drop {α : Type} (t : List α) (i : Nat) (hi : i ≤ t.length) : cutL t (some (i : Int)) none = t.drop i := by
  unfold cutL
  rw [HT.sIx_none, HT.sIx_nat, Nat.min_eq_left hi, List.take_of_length_le (by rw [List.length_drop]; exact Nat.le_refl _)]
theorem cut_s {L : Store} {t : List Nat} {i : Nat} (h : t.length ≤ big) (hi : i ≤ t.length) : slV L (.str t) none (some (i : Int)) = some (.str (t.take i)) := by
  unfold slV
  simp only [if_pos h, cut_take t i hi]
theorem cut_s2 {L : Store} {t : List Nat} {i : Nat} (h : t.length ≤ big) (hi : i ≤ t.length) : slV L (.str t) (some (i : Int)) none = some (.str (t.drop i)) := by
  unfold slV
  simp only [if_pos h, cut_drop t i hi]
/-- a loop that looks at each and goes, or hands back -/
theorem for_all {b : D → Env → Store → SR} {α : Type} {k : α → D} {g : α → Bool} {P : Env → Prop} {L : Store} {x : D} : ∀ {l : List α} {ρ : Env}, (∀ a ∈ l, ∀ ρ, P ρ → (g a = true → ∃ ρ', P ρ' ∧ b (k a) ρ L = .next ρ' L) ∧ (g a = false → b (k a) ρ L = .ret x L)) → P ρ →
    (l.all g = true → ∃ ρ', P ρ' ∧ forL b (l.map k) ρ L = .next ρ' L) ∧ (l.all g = false → forL b (l.map k) ρ L = .ret x L)
  | [], ρ, h, hp => ⟨fun _ => ⟨ρ, hp, rfl⟩, fun h => by simp at h⟩
  | a :: l, ρ, h, hp => by
    obtain ⟨h1, h2⟩ := h a List.mem_cons_self ρ hp
    rw [List.map_cons, forL_cons, List.all_cons]
    cases e : g a with
    | false => exact ⟨fun h => by simp at h, fun _ => by rw [h2 e]⟩
    | true =>
      obtain ⟨ρ', hp', e1⟩ := h1 e
      rw [e1]
      exact for_all (fun x hx => h x (List.mem_cons_of_mem _ hx)) hp'
theorem shp_ints (n : Nat) : ∀ l : List Int, shpAll n (l.map .int) = true
  | [] => by unfold shpAll; rfl
  | a :: l => by rw [List.map_cons, shpAll, shp_ints n l, D.shp]; rfl
theorem shp_of {α : Type} (n : Nat) (k : α → D) (h : ∀ a, (k a).shp n = true) : ∀ l : List α, shpAll n (l.map k) = true
  | [] => by unfold shpAll; rfl
  | a :: l => by rw [List.map_cons, shpAll, shp_of n k h l, h]; rfl
theorem pur_of {α : Type} (k : α → D) (h : ∀ a, (k a).pure = true) : ∀ l : List α, purAll (l.map k) = true
  | [] => rfl
  | a :: l => by rw [List.map_cons, purAll_cons, pur_of k h l, h]; rfl
end EV
end

section
set_option autoImplicit false
/-! Running the evaluator by simp: each construct's equation over combinators whose first part alone is looked at. -/
namespace EV
open PySem
theorem bind_cg {α β : Type} {r r' : R α} {f : α → M β} (h : r = r') : R.bind r f = R.bind r' f := by rw [h]
theorem then_cg {α : Type} {r r' : R α} {ρ : Env} {f : α → Store → SR} (h : r = r') : R.then r ρ f = R.then r' ρ f := by rw [h]
theorem seq_cg {r r' : SR} {f : Env → Store → SR} (h : r = r') : SR.seq r f = SR.seq r' f := by rw [h]
/-! ### combinators -/
def optR {α : Type} (o : Option α) (L : Store) : R α := match o with
  | some a => .ok a L
  | none => .bad
theorem optR_some {α : Type} {a : α} {L : Store} : optR (some a) L = .ok a L := rfl
def blR (o : Option Bool) (L : Store) : R D := match o with
  | some b => .ok (.bl b) L
  | none => .bad
theorem blR_some {b : Bool} {L : Store} : blR (some b) L = .ok (.bl b) L := rfl
def slotR (o : Option (Option D)) (L : Store) : R D := match o with
  | some (some d) => .ok d L
  | _ => .bad
theorem slotR_some {d : D} {L : Store} : slotR (some (some d)) L = .ok d L := rfl
def condR {β : Type} (x : D) (A B : Unit → R β) : R β := match x with
  | .bl true => A ()
  | .bl false => B ()
  | _ => .bad
def condS (x : D) (A B : Unit → SR) : SR := match x with
  | .bl true => A ()
  | .bl false => B ()
  | _ => .bad
theorem condR_cg {β : Type} {x x' : D} {A B : Unit → R β} (h : x = x') : condR x A B = condR x' A B := by rw [h]
theorem condS_cg {x x' : D} {A B : Unit → SR} (h : x = x') : condS x A B = condS x' A B := by rw [h]
theorem condR_bl {β : Type} {p : Bool} {A B : Unit → R β} : condR (.bl p) A B = if p = true then A () else B () := by cases p <;> rfl
theorem condS_bl {p : Bool} {A B : Unit → SR} : condS (.bl p) A B = if p = true then A () else B () := by cases p <;> rfl
theorem condR_t {β : Type} {A B : Unit → R β} : condR (.bl true) A B = A () := rfl
theorem condR_f {β : Type} {A B : Unit → R β} : condR (.bl false) A B = B () := rfl
theorem condS_t {A B : Unit → SR} : condS (.bl true) A B = A () := rfl
theorem condS_f {A B : Unit → SR} : condS (.bl false) A B = B () := rfl
theorem join_and {p q : Bool} {L : Store} : (if p = true then R.ok (D.bl q) L else R.ok (D.bl false) L) = R.ok (D.bl (p && q)) L := by cases p <;> rfl
theorem join_or {p q : Bool} {L : Store} : (if p = true then R.ok (D.bl true) L else R.ok (D.bl q) L) = R.ok (D.bl (p || q)) L := by cases p <;> rfl
theorem bind_ite {α β : Type} {c : Prop} [Decidable c] {a b : R α} {f : α → M β} : (if c then a else b).bind f = if c then a.bind f else b.bind f := by split <;> rfl
theorem then_ite {α : Type} {c : Prop} [Decidable c] {a b : R α} {ρ : Env} {f : α → Store → SR} : (if c then a else b).then ρ f = if c then a.then ρ f else b.then ρ f := by split <;> rfl
theorem seq_ite {c : Prop} [Decidable c] {a b : SR} {f : Env → Store → SR} : (if c then a else b).seq f = if c then a.seq f else b.seq f := by split <;> rfl
def negR (x : D) (L : Store) : R D := match x with
  | .int i => .ok (.int (-i)) L
  | _ => .bad
theorem negR_int {i : Int} {L : Store} : negR (.int i) L = .ok (.int (-i)) L := rfl
def notR (x : D) (L : Store) : R D := match x with
  | .bl b => .ok (.bl (!b)) L
  | _ => .bad
theorem notR_bl {b : Bool} {L : Store} : notR (.bl b) L = .ok (.bl (!b)) L := rfl
def boolR (x : D) (L : Store) : R D := match x with
  | .bl q => .ok (.bl q) L
  | _ => .bad
theorem boolR_bl {b : Bool} {L : Store} : boolR (.bl b) L = .ok (.bl b) L := rfl
def isNon : D → Bool
  | .non => true
  | _ => false
theorem isNon_non : isNon .non = true := rfl
theorem isNon_int {i : Int} : isNon (.int i) = false := rfl
theorem isNon_str {i : List Nat} : isNon (.str i) = false := rfl
theorem isNon_tup {i : List D} : isNon (.tup i) = false := rfl
theorem isNon_lst {i : List D} : isNon (.lst i) = false := rfl
theorem isNon_obj {i : Nat} : isNon (.obj i) = false := rfl
def sizR {α β : Type} (xs : List α) (r : R β) : R β := if xs.length ≤ big then r else .bad
theorem sizR_ok {α β : Type} {xs : List α} {r : R β} (h : xs.length ≤ 16777216) : sizR xs r = r := if_pos h
theorem sizR_0 {α β : Type} {r : R β} : sizR ([] : List α) r = r := rfl
theorem sizR_1 {α β : Type} {r : R β} {a : α} : sizR [a] r = r := rfl
theorem sizR_2 {α β : Type} {r : R β} {a b : α} : sizR [a, b] r = r := rfl
theorem sizR_3 {α β : Type} {r : R β} {a b c : α} : sizR [a, b, c] r = r := rfl
theorem sizR_4 {α β : Type} {r : R β} {a b c d : α} : sizR [a, b, c, d] r = r := rfl
theorem sizR_5 {α β : Type} {r : R β} {a b c d e : α} : sizR [a, b, c, d, e] r = r := rfl
theorem sizR_6 {α β : Type} {r : R β} {a b c d e f : α} : sizR [a, b, c, d, e, f] r = r := rfl
theorem sizR_7 {α β : Type} {r : R β} {a b c d e f g : α} : sizR [a, b, c, d, e, f, g] r = r := rfl
theorem sizR_8 {α β : Type} {r : R β} {a b c d e f g h : α} : sizR [a, b, c, d, e, f, g, h] r = r := rfl
def intR (x : D) (L : Store) : R (Option Int) := match x with
  | .int i => .ok (some i) L
  | _ => .bad
theorem intR_int {i : Int} {L : Store} : intR (.int i) L = .ok (some i) L := rfl
def tstR (x : D) (L : Store) : R Bool := match x with
  | .bl b => .ok b L
  | _ => .bad
theorem tstR_bl {b : Bool} {L : Store} : tstR (.bl b) L = .ok b L := rfl
def recvA (x : D) (L : Store) : R Unit := if recv .append x L then .ok () L else .bad
def recvL (o : Option O) (L : Store) : R Unit := match o with
  | some (.lst _) => .ok () L
  | _ => .bad
theorem recvL_lst {ds : List D} {L : Store} : recvL (some (.lst ds)) L = .ok () L := rfl
theorem recvA_obj {k : Nat} {L : Store} : recvA (.obj k) L = recvL L[k]? L := by
  cases h : L[k]? with
  | none => simp [recvA, recv, recvL, h]
  | some o => cases o <;> simp [recvA, recv, recvL, h]
def appR (x : D) (xs : List D) (L2 : Store) : R D := match x, xs with
  | .obj k, [y] => match L2[k]? with
      | some (.lst ds) => if ds.length < big then .ok .non (L2.set k (.lst (ds ++ [y]))) else .bad
      | _ => .bad
  | _, _ => .bad
def appL (o : Option O) (k : Nat) (y : D) (L : Store) : R D := match o with
  | some (.lst ds) => if ds.length < big then .ok .non (L.set k (.lst (ds ++ [y]))) else .bad
  | _ => .bad
theorem appL_ok {k : Nat} {y : D} {ds : List D} {L : Store} (h : ds.length < 16777216) : appL (some (.lst ds)) k y L = .ok .non (L.set k (.lst (ds ++ [y]))) := if_pos h
theorem appR_obj {k : Nat} {y : D} {L : Store} : appR (.obj k) [y] L = appL L[k]? k y L := rfl
def recvS (x : D) (r : Unit → R D) : R D := match x with
  | .str _ => r ()
  | _ => .bad
theorem recvS_str {t : List Nat} {r : Unit → R D} : recvS (.str t) r = r () := rfl
theorem recvS_cg {x x' : D} {r : Unit → R D} (h : x = x') : recvS x r = recvS x' r := by rw [h]
def xfR (o : Option (Option D)) (c : Nat) (L : Store) : R D := match o with
  | some (some (.exn c' d)) => if c' = c then .ok d L else .bad
  | _ => .bad
theorem xfR_ok {c : Nat} {d : D} {L : Store} : xfR (some (some (.exn c d))) c L = .ok d L := by
  unfold xfR
  simp only [if_true]
def tuprR (x : D) (L : Store) : R D := match x with
  | .int n => if 0 ≤ n ∧ n ≤ 16777216 then .ok (.tup (upto 0 n.toNat)) L else .bad
  | _ => .bad
theorem tuprR_int {i : Int} {L : Store} (h : 0 ≤ i) (h2 : i ≤ 16777216) : tuprR (.int i) L = .ok (.tup (upto 0 i.toNat)) L := if_pos ⟨h, h2⟩
def lstR (o : Option (List D)) (L : Store) : R (List D) := match o with
  | some ds => .ok ds L
  | none => .bad
theorem lstR_some {ds : List D} {L : Store} : lstR (some ds) L = .ok ds L := rfl
def valR (x : D) (L : Store) : R Wk := match x with
  | .lst ds => .ok (.vals ds) L
  | .tup ds => .ok (.vals ds) L
  | .ktup ds => .ok (.vals ds) L
  | .str a => .ok (.vals (signs a)) L
  | .obj k => match listOf L (.obj k) with
      | some _ => .ok (.obj k) L
      | none => .bad
  | _ => .bad
theorem valR_lst {ds : List D} {L : Store} : valR (.lst ds) L = .ok (.vals ds) L := rfl
def valO (o : Option O) (k : Nat) (L : Store) : R Wk := match o with
  | some (.lst _) => .ok (.obj k) L
  | _ => .bad
theorem valO_lst {k : Nat} {ds : List D} {L : Store} : valO (some (.lst ds)) k L = .ok (.obj k) L := rfl
theorem valR_obj {k : Nat} {L : Store} : valR (.obj k) L = valO L[k]? k L := by
  unfold valR valO listOf
  simp only
  generalize L[k]? = o
  rcases o with _ | o
  · rfl
  · cases o <;> rfl
theorem valR_tup {ds : List D} {L : Store} : valR (.tup ds) L = .ok (.vals ds) L := rfl
theorem valR_ktup {ds : List D} {L : Store} : valR (.ktup ds) L = .ok (.vals ds) L := rfl
theorem valR_str {t : List Nat} {L : Store} : valR (.str t) L = .ok (.vals (signs t)) L := rfl
def rngR (x : D) (L : Store) : R Wk := match x with
  | .int n => if n < 2 ^ 62 ∧ -(2 ^ 62) ≤ n then .ok (.vals (upto 0 n.toNat)) L else .bad
  | _ => .bad
theorem rngR_int {n : Int} {L : Store} (h : n < 4611686018427387904) (h2 : -4611686018427387904 ≤ n) : rngR (.int n) L = .ok (.vals (upto 0 n.toNat)) L := if_pos ⟨h, h2⟩
def rng2R (x y : D) (L : Store) : R Wk := match x, y with
  | .int m, .int n => if n < 2 ^ 62 ∧ -(2 ^ 62) ≤ n ∧ m < 2 ^ 62 ∧ -(2 ^ 62) ≤ m then .ok (.vals (upto m (n - m).toNat)) L else .bad
  | _, _ => .bad
theorem rng2R_int {m n : Int} {L : Store} (h : n < 4611686018427387904) (h2 : -4611686018427387904 ≤ n) (h3 : m < 4611686018427387904) (h4 : -4611686018427387904 ≤ m) : rng2R (.int m) (.int n) L = .ok (.vals (upto m (n - m).toNat)) L := if_pos ⟨h, h2, h3, h4⟩
def enumR (x : D) (L : Store) : R Wk := match x with
  | .lst ds => .ok (.vals (numbered 0 ds)) L
  | _ => .bad
theorem enumR_lst {ds : List D} {L : Store} : enumR (.lst ds) L = .ok (.vals (numbered 0 ds)) L := rfl
def zipR (x y : D) (L : Store) : R Wk := match x, y with
  | .lst p, .lst q => .ok (.vals (zipD p q)) L
  | x, y => match tupOf x, tupOf y with
      | some p, some q => .ok (.vals (zipD p q)) L
      | _, _ => .bad
theorem zipR_lst {p q : List D} {L : Store} : zipR (.lst p) (.lst q) L = .ok (.vals (zipD p q)) L := rfl
theorem zipR_tup {p q : List D} {L : Store} : zipR (.tup p) (.tup q) L = .ok (.vals (zipD p q)) L := rfl
def callvR (o : Option (Option D)) (n : Nat) (k : Nat → R D) : R D := match o with
  | some (some (.fn f)) => if f < n then k f else .bad
  | _ => .bad
theorem callvR_ok {f n : Nat} {k : Nat → R D} (h : f < n) : callvR (some (some (.fn f))) n k = k f := if_pos h
theorem callvR_cg {o o' : Option (Option D)} {n : Nat} {k : Nat → R D} (h : o = o') : callvR o n k = callvR o' n k := by rw [h]
def dnewR (ps : List (_root_.L2.Key × D)) (L : Store) : R D := if ps.length ≤ 15 then .ok (.obj L.length) (L ++ [.dK (ps.foldl (fun acc p => putK acc p.1 p.2) [])]) else .bad
def kBin2 (o : Bin) (x y : D) (L2 : Store) : R D := optR (binV L2 o x y) L2
def kBin1 (cf : Nat → List D → M D) (o : Bin) (b : E) (ρ : Env) (x : D) (L1 : Store) : R D := (evE cf b ρ L1).bind (kBin2 o x)
def kCmp2 (o : Cmp) (x y : D) (L2 : Store) : R D := blR (cmpV L2 o x y) L2
def kCmp1 (cf : Nat → List D → M D) (o : Cmp) (b : E) (ρ : Env) (x : D) (L1 : Store) : R D := (evE cf b ρ L1).bind (kCmp2 o x)
def kBool (y : D) (L2 : Store) : R D := boolR y L2
def kNot (x : D) (L1 : Store) : R D := notR x L1
def kNeg (x : D) (L1 : Store) : R D := negR x L1
def kCh3 (cf : Nat → List D → M D) (o2 : Cmp) (c : E) (ρ : Env) (y : D) (L3 : Store) : R D := (evE cf c ρ L3).bind (kCmp2 o2 y)
def kCh2 (cf : Nat → List D → M D) (o2 : Cmp) (c : E) (ρ : Env) (y : D) (q : D) (L3 : Store) : R D := condR q (fun _ => kCh3 cf o2 c ρ y L3) (fun _ => .ok (.bl false) L3)
def kCh1b (cf : Nat → List D → M D) (o1 o2 : Cmp) (c : E) (ρ : Env) (x y : D) (L2 : Store) : R D := (blR (cmpV L2 o1 x y) L2).bind (kCh2 cf o2 c ρ y)
def kCh1 (cf : Nat → List D → M D) (o1 o2 : Cmp) (b c : E) (ρ : Env) (x : D) (L1 : Store) : R D := (evE cf b ρ L1).bind (kCh1b cf o1 o2 c ρ x)
def kIsN (x : D) (L1 : Store) : R D := .ok (.bl (isNon x)) L1
def kNotN (x : D) (L1 : Store) : R D := .ok (.bl (!isNon x)) L1
def kAnd (cf : Nat → List D → M D) (b : E) (ρ : Env) (x : D) (L1 : Store) : R D := condR x (fun _ => (evE cf b ρ L1).bind kBool) (fun _ => .ok (.bl false) L1)
def kOr (cf : Nat → List D → M D) (b : E) (ρ : Env) (x : D) (L1 : Store) : R D := condR x (fun _ => .ok (.bl true) L1) (fun _ => (evE cf b ρ L1).bind kBool)
def kIfe (cf : Nat → List D → M D) (a b : E) (ρ : Env) (x : D) (L1 : Store) : R D := condR x (fun _ => evE cf a ρ L1) (fun _ => evE cf b ρ L1)
def kTup (xs : List D) (L1 : Store) : R D := sizR xs (.ok (.tup xs) L1)
def kFrz (xs : List D) (L1 : Store) : R D := .ok (.lst xs) L1
def kMut (xs : List D) (L1 : Store) : R D := .ok (.obj L1.length) (L1 ++ [.lst xs])
def kCall (cf : Nat → List D → M D) (f : Nat) (xs : List D) (L1 : Store) : R D := callF cf f xs L1
def kCallk (cf : Nat → List D → M D) (f : Nat) (xs : List D) (L1 : Store) : R D := callK cf f xs L1
def kCallv (cf : Nat → List D → M D) (es : Es) (ρ : Env) (L : Store) (f : Nat) : R D := (evEs cf es ρ L).bind (kCall cf f)
def kBi (o : Bi) (xs : List D) (L1 : Store) : R D := optR (biV L1 o xs) L1
def kMe2 (m : Me) (x : D) (xs : List D) (L2 : Store) : R D := optR (meV L2 m x xs) L2
def kMe1 (cf : Nat → List D → M D) (m : Me) (es : Es) (ρ : Env) (x : D) (L1 : Store) : R D := recvS x (fun _ => (evEs cf es ρ L1).bind (kMe2 m x))
def kAp3 (x : D) (xs : List D) (L2 : Store) : R D := appR x xs L2
def kAp2 (cf : Nat → List D → M D) (es : Es) (ρ : Env) (x : D) (_u : Unit) (L1 : Store) : R D := (evEs cf es ρ L1).bind (kAp3 x)
def kAp1 (cf : Nat → List D → M D) (es : Es) (ρ : Env) (x : D) (L1 : Store) : R D := (recvA x L1).bind (kAp2 cf es ρ x)
def kIx2 (x y : D) (L2 : Store) : R D := optR (ixV L2 x y) L2
def kIx1 (cf : Nat → List D → M D) (b : E) (ρ : Env) (x : D) (L1 : Store) : R D := (evE cf b ρ L1).bind (kIx2 x)
def kDg2 (x y : D) (L2 : Store) : R D := optR ((dictGet L2 x y).bind id) L2
def kDg1 (cf : Nat → List D → M D) (b : E) (ρ : Env) (x : D) (L1 : Store) : R D := (evE cf b ρ L1).bind (kDg2 x)
def kSl3 (x : D) (l : Option Int) (h : Option Int) (L3 : Store) : R D := optR (slV L3 x l h) L3
def kSl2 (cf : Nat → List D → M D) (hi : Oe) (ρ : Env) (x : D) (l : Option Int) (L2 : Store) : R D := (evO cf hi ρ L2).bind (kSl3 x l)
def kSl1 (cf : Nat → List D → M D) (lo hi : Oe) (ρ : Env) (x : D) (L1 : Store) : R D := (evO cf lo ρ L1).bind (kSl2 cf hi ρ x)
def kIsi (t : Ty) (x : D) (L1 : Store) : R D := blR (isiV t L1 x) L1
def kDnew (ps : List (_root_.L2.Key × D)) (L1 : Store) : R D := dnewR ps L1
def kTupr (x : D) (L1 : Store) : R D := tuprR x L1
def kMkx (c : Nat) (f : Str) (m : List Nat) (x : D) (L1 : Store) : R D := .ok (.exv c f m x) L1
def isxR (ks : List Bool) (x : D) (L : Store) : R D := match x with
  | .exv c _ _ _ => blR ks[c]? L
  | _ => .bad
theorem isxR_exv {ks : List Bool} {c : Nat} {f : Str} {m : List Nat} {d : D} {L : Store} (h : c < ks.length) : isxR ks (.exv c f m d) L = .ok (.bl (ks.getD c false)) L := by
  unfold isxR
  simp only [List.getElem?_eq_getElem h, List.getD_eq_getElem?_getD, Option.getD_some]
  rfl
def kIsx (ks : List Bool) (x : D) (L1 : Store) : R D := isxR ks x L1
def xflR (n : Nat) (f : Str) (x : D) (L : Store) : R D := match x with
  | .exv c g _ d => if g = f ∧ c < n then .ok d L else .bad
  | _ => .bad
theorem xflR_exv {n : Nat} {c : Nat} {f : Str} {m : List Nat} {d : D} {L : Store} (h : c < n) : xflR n f (.exv c f m d) L = .ok d L := if_pos ⟨rfl, h⟩
def kXfl (n : Nat) (f : Str) (x : D) (L1 : Store) : R D := xflR n f x L1
def strxR (n : Nat) (x : D) (L : Store) : R D := match x with
  | .exv c _ m _ => if c < n then .ok (.str m) L else .bad
  | _ => .bad
theorem strxR_exv {n : Nat} {c : Nat} {f : Str} {m : List Nat} {d : D} {L : Store} (h : c < n) : strxR n (.exv c f m d) L = .ok (.str m) L := if_pos h
def kStrx (n : Nat) (x : D) (L1 : Store) : R D := strxR n x L1
def kEs2 (x : D) (xs : List D) (L2 : Store) : R (List D) := .ok (x :: xs) L2
def kEs1 (cf : Nat → List D → M D) (r : Es) (ρ : Env) (x : D) (L1 : Store) : R (List D) := (evEs cf r ρ L1).bind (kEs2 x)
def kInt (x : D) (L1 : Store) : R (Option Int) := intR x L1
def kTst (x : D) (L1 : Store) : R Bool := tstR x L1
def kK4 (q : _root_.L2.Key) (y : D) (ps : List (_root_.L2.Key × D)) (L3 : Store) : R (List (_root_.L2.Key × D)) := .ok ((q, y) :: ps) L3
def kK3 (cf : Nat → List D → M D) (k : Kvs) (ρ : Env) (y : D) (q : _root_.L2.Key) (L2 : Store) : R (List (_root_.L2.Key × D)) := (evK cf k ρ L2).bind (kK4 q y)
def kK2 (cf : Nat → List D → M D) (k : Kvs) (ρ : Env) (x y : D) (L2 : Store) : R (List (_root_.L2.Key × D)) := (optR (keyOf x) L2).bind (kK3 cf k ρ y)
def kK1 (cf : Nat → List D → M D) (b : E) (k : Kvs) (ρ : Env) (x : D) (L1 : Store) : R (List (_root_.L2.Key × D)) := (evE cf b ρ L1).bind (kK2 cf k ρ x)
def kDisp (xs : List D) (L1 : Store) : R (List D) := sizR xs (.ok xs L1)
def kLc (cf : Nat → List D → M D) (n : Bool) (a : E) (tg : Tg) (t : Oe) (own : List Nat) (ρ : Env) (w : Wk) (L1 : Store) : R (List D) := compW (turnE cf n a tg t own ρ) w L1
def kFs4 (l h : Option Int) (ds : List D) (L3 : Store) : R (List D) := .ok (cutL ds l h) L3
def kFs3 (x : D) (l : Option Int) (h : Option Int) (L3 : Store) : R (List D) := (lstR (listOf L3 x) L3).bind (kFs4 l h)
def kFs2 (cf : Nat → List D → M D) (hi : Oe) (ρ : Env) (x : D) (l : Option Int) (L2 : Store) : R (List D) := (evO cf hi ρ L2).bind (kFs3 x l)
def kFs1 (cf : Nat → List D → M D) (lo hi : Oe) (ρ : Env) (x : D) (L1 : Store) : R (List D) := (evO cf lo ρ L1).bind (kFs2 cf hi ρ x)
def kRev2 (ds : List D) (L3 : Store) : R (List D) := .ok ds.reverse L3
def kRev (x : D) (L1 : Store) : R (List D) := (lstR (listOf L1 x) L1).bind kRev2
def kCat4 (p q : List D) (L2 : Store) : R (List D) := sizR (p ++ q) (.ok (p ++ q) L2)
def kCat3 (y : D) (p : List D) (L2 : Store) : R (List D) := (lstR (listOf L2 y) L2).bind (kCat4 p)
def kCat2 (x y : D) (L2 : Store) : R (List D) := (lstR (listOf L2 x) L2).bind (kCat3 y)
def kCat1 (cf : Nat → List D → M D) (b : E) (ρ : Env) (x : D) (L1 : Store) : R (List D) := (evE cf b ρ L1).bind (kCat2 x)
def kLis (x : D) (L1 : Store) : R (List D) := lstR (seqOf L1 x) L1
def kVal (x : D) (L1 : Store) : R Wk := valR x L1
def kRng (x : D) (L1 : Store) : R Wk := rngR x L1
def kRng2b (x y : D) (L2 : Store) : R Wk := rng2R x y L2
def kRng2 (cf : Nat → List D → M D) (b : E) (ρ : Env) (x : D) (L1 : Store) : R Wk := (evE cf b ρ L1).bind (kRng2b x)
def kEnum (x : D) (L1 : Store) : R Wk := enumR x L1
def kZip2 (x y : D) (L2 : Store) : R Wk := zipR x y L2
def kZip1 (cf : Nat → List D → M D) (b : E) (ρ : Env) (x : D) (L1 : Store) : R Wk := (evE cf b ρ L1).bind (kZip2 x)
def kSome (x : D) (L3 : Store) : R (Option D) := .ok (some x) L3
def kTn2 (cf : Nat → List D → M D) (a : E) (ρ' : Env) (b : Bool) (L2 : Store) : R (Option D) := condR (.bl b) (fun _ => (evE cf a ρ' L2).bind kSome) (fun _ => .ok none L2)
def kTn1 (cf : Nat → List D → M D) (n : Bool) (a : E) (t : Oe) (ρ' : Env) (L : Store) : R (Option D) := noX n ((evT cf t ρ' L).bind (kTn2 cf a ρ'))
def jSeq (cf : Nat → List D → M D) (r : Ss) (ρ1 : Env) (L1 : Store) : SR := evSs cf r ρ1 L1
def jSet (ρ : Env) (i : Nat) (x : D) (L1 : Store) : SR := .next (ρ.set i (some x)) L1
def jPar (ρ : Env) (is : List Nat) (xs : List D) (L1 : Store) : SR := if xs.length = is.length then .next (setAll is xs ρ) L1 else .bad
def envS (o : Option Env) (L : Store) : SR := match o with
  | some ρ => .next ρ L
  | none => .bad
def setIxS (ρ : Env) (x y z : D) (L3 : Store) : SR := match y, z with
    | .obj k, .int n => match L3[k]? with
      | some (.lst ds) => match _root_.L2.ixN ds.length n with
        | some j => .next ρ (L3.set k (.lst (ds.set j x)))
        | none => .bad
      | _ => .bad
    | _, _ => .bad
def setIxO (ρ : Env) (x : D) (k : Nat) (n : Int) (o : Option O) (L3 : Store) : SR := match o with
      | some (.lst ds) => match _root_.L2.ixN ds.length n with
        | some j => .next ρ (L3.set k (.lst (ds.set j x)))
        | none => .bad
      | _ => .bad
theorem setIxS_obj {ρ : Env} {x : D} {k : Nat} {n : Int} {L : Store} : setIxS ρ x (.obj k) (.int n) L = setIxO ρ x k n L[k]? L := rfl
def setKS (ρ : Env) (x y z : D) (L3 : Store) : SR := match y with
    | .obj k => match L3[k]?, z with
      | some (.dK kvs), z => match keyOf z with
        | some q => if kvs.length < big then .next ρ (L3.set k (.dK (putK kvs q x))) else .bad
        | none => .bad
      | some (.dT kvs), .tup ds => match keysOf ds with
        | some q => if kvs.length < big then .next ρ (L3.set k (.dT (putK kvs q x))) else .bad
        | none => .bad
      | _, _ => .bad
    | _ => .bad
/-- one turn of a for -/
def bodyF (cf : Nat → List D → M D) (t : Tg) (b : Ss) : D → Env → Store → SR := fun d ρ L => match bindT t d ρ with
      | some ρ' => evSs cf b ρ' L
      | none => .bad
def setKO (ρ : Env) (x z : D) (k : Nat) (o : Option O) (L3 : Store) : SR := match o, z with
      | some (.dK kvs), z => match keyOf z with
        | some q => if kvs.length < big then .next ρ (L3.set k (.dK (putK kvs q x))) else .bad
        | none => .bad
      | some (.dT kvs), .tup ds => match keysOf ds with
        | some q => if kvs.length < big then .next ρ (L3.set k (.dT (putK kvs q x))) else .bad
        | none => .bad
      | _, _ => .bad
theorem setKS_obj {ρ : Env} {x z : D} {k : Nat} {L : Store} : setKS ρ x (.obj k) z L = setKO ρ x z k L[k]? L := rfl
theorem setKO_str {ρ : Env} {x : D} {k : Nat} {w : List Nat} {kvs : List (_root_.L2.Key × D)} {L : Store} (h : kvs.length < 16777216) : setKO ρ x (.str w) k (some (.dK kvs)) L = .next ρ (L.set k (.dK (putK kvs (.inr (SX.S w)) x))) := if_pos h
def jAsg (ρ : Env) (t : Tg) (x : D) (L1 : Store) : SR := envS (bindT t x ρ) L1
def jSx3 (ρ : Env) (x y z : D) (L3 : Store) : SR := setIxS ρ x y z L3
def jSx2 (cf : Nat → List D → M D) (ρ : Env) (i : E) (x y : D) (L2 : Store) : SR := (evE cf i ρ L2).then ρ (jSx3 ρ x y)
def jSx1 (cf : Nat → List D → M D) (ρ : Env) (o i : E) (x : D) (L1 : Store) : SR := (evE cf o ρ L1).then ρ (jSx2 cf ρ i x)
def jSk3 (ρ : Env) (x y z : D) (L3 : Store) : SR := setKS ρ x y z L3
def jSk2 (cf : Nat → List D → M D) (ρ : Env) (i : E) (x y : D) (L2 : Store) : SR := (evE cf i ρ L2).then ρ (jSk3 ρ x y)
def jSk1 (cf : Nat → List D → M D) (ρ : Env) (o i : E) (x : D) (L1 : Store) : SR := (evE cf o ρ L1).then ρ (jSk2 cf ρ i x)
def jEx (ρ : Env) (_x : D) (L1 : Store) : SR := .next ρ L1
def jIf (cf : Nat → List D → M D) (ρ : Env) (s1 s2 : Ss) (x : D) (L1 : Store) : SR := condS x (fun _ => evSs cf s1 ρ L1) (fun _ => evSs cf s2 ρ L1)
def jBody (cf : Nat → List D → M D) (s : Ss) (L : Store) (ρ' : Env) : SR := evSs cf s ρ' L
def jFor (cf : Nat → List D → M D) (ρ : Env) (t : Tg) (s : Ss) (w : Wk) (L1 : Store) : SR := forW (bodyF cf t s) w ρ L1
def jExc (n : Nat) (ρ : Env) (x : D) (L1 : Store) : SR := .exc n x ρ L1
section
variable {cf : Nat → List D → M D} {ρ : Env} {L : Store} {a b c : E} {es r : Es}
theorem x_slot {i : Nat} : evE cf (.slot i) ρ L = slotR ρ[i]? L := by simp only [evE]; unfold slotR; rfl
theorem x_cst {d : D} : evE cf (.cst d) ρ L = .ok d L := by simp only [evE]
theorem x_glob {d : D} : evE cf (.glob d) ρ L = .ok d L := by simp only [evE]
theorem x_fnv {f : Nat} : evE cf (.fnv f) ρ L = .ok (.fn f) L := by simp only [evE]
theorem wx_bin {o : Bin} : evE cf (.bin o a b) ρ L = (evE cf a ρ L).bind fun x L1 => (evE cf b ρ L1).bind fun y L2 => optR (binV L2 o x y) L2 := by simp only [evE]; rfl
theorem x_bin {o : Bin} : evE cf (.bin o a b) ρ L = (evE cf a ρ L).bind (kBin1 cf o b ρ) := wx_bin
theorem wx_neg : evE cf (.neg a) ρ L = (evE cf a ρ L).bind fun x L1 => negR x L1 := by
  simp only [evE]; congr 1
theorem x_neg : evE cf (.neg a) ρ L = (evE cf a ρ L).bind kNeg := wx_neg
theorem wx_not : evE cf (.not a) ρ L = (evE cf a ρ L).bind fun x L1 => notR x L1 := by
  simp only [evE]; congr 1
theorem x_not : evE cf (.not a) ρ L = (evE cf a ρ L).bind kNot := wx_not
theorem wx_cmp {o : Cmp} : evE cf (.cmp o a b) ρ L = (evE cf a ρ L).bind fun x L1 => (evE cf b ρ L1).bind fun y L2 => blR (cmpV L2 o x y) L2 := by
  simp only [evE, look]; congr 1; funext x L1; congr 1; funext y L2; cases cmpV L2 o x y <;> rfl
theorem x_cmp {o : Cmp} : evE cf (.cmp o a b) ρ L = (evE cf a ρ L).bind (kCmp1 cf o b ρ) := wx_cmp
theorem wx_chain {o1 o2 : Cmp} : evE cf (.chain o1 o2 a b c) ρ L = (evE cf a ρ L).bind fun x L1 => (evE cf b ρ L1).bind fun y L2 => (blR (cmpV L2 o1 x y) L2).bind fun q L3 => condR q (fun _ => (evE cf c ρ L3).bind fun z L4 => blR (cmpV L4 o2 y z) L4) (fun _ => .ok (.bl false) L3) := by
  simp only [evE, look]; congr 1; funext x L1; congr 1; funext y L2
  cases cmpV L2 o1 x y with
  | none => rfl
  | some q =>
    cases q with
    | false => rfl
    | true =>
      show (evE cf c ρ L2).bind _ = (evE cf c ρ L2).bind _
      congr 1; funext z L4
      cases cmpV L4 o2 y z <;> rfl
theorem x_chain {o1 o2 : Cmp} : evE cf (.chain o1 o2 a b c) ρ L = (evE cf a ρ L).bind (kCh1 cf o1 o2 b c ρ) := wx_chain
theorem wx_isN : evE cf (.isN a) ρ L = (evE cf a ρ L).bind fun x L1 => .ok (.bl (isNon x)) L1 := by
  simp only [evE]; congr 1
theorem x_isN : evE cf (.isN a) ρ L = (evE cf a ρ L).bind kIsN := wx_isN
theorem wx_notN : evE cf (.notN a) ρ L = (evE cf a ρ L).bind fun x L1 => .ok (.bl (!isNon x)) L1 := by
  simp only [evE]; congr 1; funext x L1; cases x <;> rfl
theorem x_notN : evE cf (.notN a) ρ L = (evE cf a ρ L).bind kNotN := wx_notN
theorem wx_and : evE cf (.and a b) ρ L = (evE cf a ρ L).bind fun x L1 => condR x (fun _ => (evE cf b ρ L1).bind fun y L2 => boolR y L2) (fun _ => .ok (.bl false) L1) := by
  simp only [evE]; congr 1
theorem x_and : evE cf (.and a b) ρ L = (evE cf a ρ L).bind (kAnd cf b ρ) := wx_and
theorem wx_or : evE cf (.or a b) ρ L = (evE cf a ρ L).bind fun x L1 => condR x (fun _ => .ok (.bl true) L1) (fun _ => (evE cf b ρ L1).bind fun y L2 => boolR y L2) := by
  simp only [evE]; congr 1
theorem x_or : evE cf (.or a b) ρ L = (evE cf a ρ L).bind (kOr cf b ρ) := wx_or
theorem wx_ife : evE cf (.ife c a b) ρ L = (evE cf c ρ L).bind fun x L1 => condR x (fun _ => evE cf a ρ L1) (fun _ => evE cf b ρ L1) := by
  simp only [evE]; congr 1
theorem x_ife : evE cf (.ife c a b) ρ L = (evE cf c ρ L).bind (kIfe cf a b ρ) := wx_ife
theorem wx_tup : evE cf (.tup es) ρ L = (evEs cf es ρ L).bind fun xs L1 => sizR xs (.ok (.tup xs) L1) := by simp only [evE]; rfl
theorem x_tup : evE cf (.tup es) ρ L = (evEs cf es ρ L).bind kTup := wx_tup
theorem wx_frz {f : F} : evE cf (.frz f) ρ L = (evF cf f ρ L).bind fun xs L1 => .ok (.lst xs) L1 := by simp only [evE]
theorem x_frz {f : F} : evE cf (.frz f) ρ L = (evF cf f ρ L).bind kFrz := wx_frz
theorem wx_mut {f : F} : evE cf (.mut f) ρ L = (evF cf f ρ L).bind fun xs L1 => .ok (.obj L1.length) (L1 ++ [.lst xs]) := by simp only [evE]
theorem x_mut {f : F} : evE cf (.mut f) ρ L = (evF cf f ρ L).bind kMut := wx_mut
theorem wx_call {f : Nat} : evE cf (.call f es) ρ L = (evEs cf es ρ L).bind fun xs L1 => callF cf f xs L1 := by simp only [evE]
theorem x_call {f : Nat} : evE cf (.call f es) ρ L = (evEs cf es ρ L).bind (kCall cf f) := wx_call
theorem wx_callk {f : Nat} : evE cf (.callk f es) ρ L = (evEs cf es ρ L).bind fun xs L1 => callK cf f xs L1 := by simp only [evE]
theorem x_callk {f : Nat} : evE cf (.callk f es) ρ L = (evEs cf es ρ L).bind (kCallk cf f) := wx_callk
theorem wx_callv {i n : Nat} : evE cf (.callv i n es) ρ L = callvR ρ[i]? n (fun f => (evEs cf es ρ L).bind fun xs L1 => callF cf f xs L1) := by
  simp only [evE]; unfold callvR; rfl
theorem x_callv {i n : Nat} : evE cf (.callv i n es) ρ L = callvR ρ[i]? n (kCallv cf es ρ L) := wx_callv
theorem wx_bi {o : Bi} : evE cf (.bi o es) ρ L = (evEs cf es ρ L).bind fun xs L1 => optR (biV L1 o xs) L1 := by simp only [evE]; rfl
theorem x_bi {o : Bi} : evE cf (.bi o es) ρ L = (evEs cf es ρ L).bind (kBi o) := wx_bi
theorem wx_meth {m : Me} (h : m ≠ .append) : evE cf (.meth m a es) ρ L = (evE cf a ρ L).bind fun x L1 => recvS x (fun _ => (evEs cf es ρ L1).bind fun xs L2 => optR (meV L2 m x xs) L2) := by
  simp only [evE]; congr 1; funext x L1
  cases m <;> first | (exact absurd rfl h) | (cases x <;> rfl)
theorem x_meth {m : Me} (h : m ≠ .append) : evE cf (.meth m a es) ρ L = (evE cf a ρ L).bind (kMe1 cf m es ρ) := wx_meth h
theorem wx_split : evE cf (.meth .split a es) ρ L = (evE cf a ρ L).bind fun x L1 => recvS x (fun _ => (evEs cf es ρ L1).bind fun xs L2 => optR (meV L2 .split x xs) L2) := wx_meth (by decide)
theorem x_split : evE cf (.meth .split a es) ρ L = (evE cf a ρ L).bind (kMe1 cf .split es ρ) := wx_split
theorem wx_join : evE cf (.meth .join a es) ρ L = (evE cf a ρ L).bind fun x L1 => recvS x (fun _ => (evEs cf es ρ L1).bind fun xs L2 => optR (meV L2 .join x xs) L2) := wx_meth (by decide)
theorem x_join : evE cf (.meth .join a es) ρ L = (evE cf a ρ L).bind (kMe1 cf .join es ρ) := wx_join
theorem wx_index : evE cf (.meth .index a es) ρ L = (evE cf a ρ L).bind fun x L1 => recvS x (fun _ => (evEs cf es ρ L1).bind fun xs L2 => optR (meV L2 .index x xs) L2) := wx_meth (by decide)
theorem x_index : evE cf (.meth .index a es) ρ L = (evE cf a ρ L).bind (kMe1 cf .index es ρ) := wx_index
theorem wx_append : evE cf (.meth .append a es) ρ L = (evE cf a ρ L).bind fun x L1 => (recvA x L1).bind fun _ L1 => (evEs cf es ρ L1).bind fun xs L2 => appR x xs L2 := by
  simp only [evE]; congr 1; funext x L1
  unfold recvA
  split
  · rename_i h
    show _ = (evEs cf es ρ L1).bind _
    congr 1; funext xs L2
    cases x with
    | obj k =>
      cases xs with
      | nil => rfl
      | cons y r => cases r <;> rfl
    | _ => simp [recv] at h
  · rfl
theorem x_append : evE cf (.meth .append a es) ρ L = (evE cf a ρ L).bind (kAp1 cf es ρ) := wx_append
theorem wx_ix : evE cf (.ix a b) ρ L = (evE cf a ρ L).bind fun x L1 => (evE cf b ρ L1).bind fun y L2 => optR (ixV L2 x y) L2 := by simp only [evE]; rfl
theorem x_ix : evE cf (.ix a b) ρ L = (evE cf a ρ L).bind (kIx1 cf b ρ) := wx_ix
theorem wx_dget : evE cf (.dget a b) ρ L = (evE cf a ρ L).bind fun x L1 => (evE cf b ρ L1).bind fun y L2 => optR ((dictGet L2 x y).bind id) L2 := by simp only [evE]; rfl
theorem x_dget : evE cf (.dget a b) ρ L = (evE cf a ρ L).bind (kDg1 cf b ρ) := wx_dget
theorem wx_sl {lo hi : Oe} : evE cf (.sl a lo hi) ρ L = (evE cf a ρ L).bind fun x L1 => (evO cf lo ρ L1).bind fun l L2 => (evO cf hi ρ L2).bind fun h L3 => optR (slV L3 x l h) L3 := by simp only [evE]; rfl
theorem x_sl {lo hi : Oe} : evE cf (.sl a lo hi) ρ L = (evE cf a ρ L).bind (kSl1 cf lo hi ρ) := wx_sl
theorem wx_isi {t : Ty} : evE cf (.isi a t) ρ L = (evE cf a ρ L).bind fun x L1 => blR (isiV t L1 x) L1 := by
  simp only [evE, look]; congr 1; funext x L1; cases isiV t L1 x <;> rfl
theorem x_isi {t : Ty} : evE cf (.isi a t) ρ L = (evE cf a ρ L).bind (kIsi t) := wx_isi
theorem wx_dnew {kvs : Kvs} : evE cf (.dnew false kvs) ρ L = (evK cf kvs ρ L).bind fun ps L1 => dnewR ps L1 := by simp only [evE]; rfl
theorem x_dnew {kvs : Kvs} : evE cf (.dnew false kvs) ρ L = (evK cf kvs ρ L).bind kDnew := wx_dnew
theorem x_xfld {i c : Nat} : evE cf (.xfld i c) ρ L = xfR ρ[i]? c L := by
  simp only [evE]; unfold xfR; rfl
theorem wx_tupr : evE cf (.tupr a) ρ L = (evE cf a ρ L).bind fun x L1 => tuprR x L1 := by
  simp only [evE]; congr 1
theorem x_mkx {c : Nat} {f : Str} {m : List Nat} {kw : Bool} : evE cf (.mkx c f m kw a) ρ L = (evE cf a ρ L).bind (kMkx c f m) := by
  simp only [evE]; rfl
theorem x_mk0 {c : Nat} {f : Str} {m : List Nat} : evE cf (.mk0 c f m) ρ L = .ok (.exv c f m .non) L := by simp only [evE]
theorem x_isx {x : Str} {ks : List Bool} : evE cf (.isx x ks a) ρ L = (evE cf a ρ L).bind (kIsx ks) := by
  simp only [evE]; congr 1
theorem x_xfl {n : Nat} {f : Str} : evE cf (.xfl n f a) ρ L = (evE cf a ρ L).bind (kXfl n f) := by
  simp only [evE]; congr 1
theorem x_strx {n : Nat} : evE cf (.strx n a) ρ L = (evE cf a ρ L).bind (kStrx n) := by
  simp only [evE]; congr 1
theorem x_tupr : evE cf (.tupr a) ρ L = (evE cf a ρ L).bind kTupr := wx_tupr
theorem x_nil : evEs cf .nil ρ L = .ok [] L := by simp only [evEs]
theorem wx_cons : evEs cf (.cons a r) ρ L = (evE cf a ρ L).bind fun x L1 => (evEs cf r ρ L1).bind fun xs L2 => .ok (x :: xs) L2 := by simp only [evEs]
theorem x_cons : evEs cf (.cons a r) ρ L = (evE cf a ρ L).bind (kEs1 cf r ρ) := wx_cons
theorem x_onone : evO cf .none ρ L = .ok none L := by simp only [evO]
theorem wx_osome : evO cf (.some a) ρ L = (evE cf a ρ L).bind fun x L1 => intR x L1 := by
  simp only [evO]; congr 1
theorem x_osome : evO cf (.some a) ρ L = (evE cf a ρ L).bind kInt := wx_osome
theorem x_tnone : evT cf .none ρ L = .ok true L := by simp only [evT]
theorem wx_tsome : evT cf (.some a) ρ L = (evE cf a ρ L).bind fun x L1 => tstR x L1 := by
  simp only [evT]; congr 1
theorem x_tsome : evT cf (.some a) ρ L = (evE cf a ρ L).bind kTst := wx_tsome
theorem x_knil : evK cf .nil ρ L = .ok [] L := by simp only [evK]
theorem wx_kcons {k : Kvs} : evK cf (.cons a b k) ρ L = (evE cf a ρ L).bind fun x L1 => (evE cf b ρ L1).bind fun y L2 => (optR (keyOf x) L2).bind fun q L2 => (evK cf k ρ L2).bind fun ps L3 => .ok ((q, y) :: ps) L3 := by
  simp only [evK]; congr 1; funext x L1; congr 1; funext y L2; cases keyOf x <;> rfl
theorem x_kcons {k : Kvs} : evK cf (.cons a b k) ρ L = (evE cf a ρ L).bind (kK1 cf b k ρ) := wx_kcons
theorem wx_disp : evF cf (.disp es) ρ L = (evEs cf es ρ L).bind fun xs L1 => sizR xs (.ok xs L1) := by simp only [evF]; rfl
theorem x_disp : evF cf (.disp es) ρ L = (evEs cf es ρ L).bind kDisp := wx_disp
theorem wx_lc {n : Bool} {tg : Tg} {it : It} {t : Oe} {own : List Nat} : evF cf (.lc n a tg it t own) ρ L = (evI cf it ρ L).bind fun w L1 => compW (turnE cf n a tg t own ρ) w L1 := by simp only [evF]; rfl
theorem x_lc {n : Bool} {tg : Tg} {it : It} {t : Oe} {own : List Nat} : evF cf (.lc n a tg it t own) ρ L = (evI cf it ρ L).bind (kLc cf n a tg t own ρ) := wx_lc
theorem wx_fsl {lo hi : Oe} : evF cf (.sl a lo hi) ρ L = (evE cf a ρ L).bind fun x L1 => (evO cf lo ρ L1).bind fun l L2 => (evO cf hi ρ L2).bind fun h L3 => (lstR (listOf L3 x) L3).bind fun ds L3 => .ok (cutL ds l h) L3 := by
  simp only [evF]; congr 1; funext x L1; congr 1; funext l L2; congr 1; funext h L3; cases listOf L3 x <;> rfl
theorem x_fsl {lo hi : Oe} : evF cf (.sl a lo hi) ρ L = (evE cf a ρ L).bind (kFs1 cf lo hi ρ) := wx_fsl
theorem wx_rev : evF cf (.rev a) ρ L = (evE cf a ρ L).bind fun x L1 => (lstR (listOf L1 x) L1).bind fun ds L3 => .ok ds.reverse L3 := by
  simp only [evF]; congr 1; funext x L1; cases listOf L1 x <;> rfl
theorem x_rev : evF cf (.rev a) ρ L = (evE cf a ρ L).bind kRev := wx_rev
theorem wx_cat : evF cf (.cat a b) ρ L = (evE cf a ρ L).bind fun x L1 => (evE cf b ρ L1).bind fun y L2 => (lstR (listOf L2 x) L2).bind fun p L2 => (lstR (listOf L2 y) L2).bind fun q L2 => sizR (p ++ q) (.ok (p ++ q) L2) := by
  simp only [evF]; congr 1; funext x L1; congr 1; funext y L2
  cases listOf L2 x with
  | none => rfl
  | some p =>
    cases h : listOf L2 y with
    | none => simp only [lstR, R.bind, h]
    | some q => simp only [lstR, R.bind, h]; unfold sizR; rw [List.length_append]
theorem x_cat : evF cf (.cat a b) ρ L = (evE cf a ρ L).bind (kCat1 cf b ρ) := wx_cat
theorem wx_lis : evF cf (.lis a) ρ L = (evE cf a ρ L).bind fun x L1 => lstR (seqOf L1 x) L1 := by
  simp only [evF]; congr 1
theorem x_lis : evF cf (.lis a) ρ L = (evE cf a ρ L).bind kLis := wx_lis
theorem wx_val : evI cf (.val a) ρ L = (evE cf a ρ L).bind fun x L1 => valR x L1 := by
  simp only [evI]; congr 1
theorem x_val : evI cf (.val a) ρ L = (evE cf a ρ L).bind kVal := wx_val
theorem wx_rng : evI cf (.range1 a) ρ L = (evE cf a ρ L).bind fun x L1 => rngR x L1 := by
  simp only [evI]; congr 1
theorem x_rng : evI cf (.range1 a) ρ L = (evE cf a ρ L).bind kRng := wx_rng
theorem wx_rng2 : evI cf (.range2 a b) ρ L = (evE cf a ρ L).bind fun x L1 => (evE cf b ρ L1).bind fun y L2 => rng2R x y L2 := by
  simp only [evI]; congr 1
theorem x_rng2 : evI cf (.range2 a b) ρ L = (evE cf a ρ L).bind (kRng2 cf b ρ) := wx_rng2
theorem wx_enum : evI cf (.enum a) ρ L = (evE cf a ρ L).bind fun x L1 => enumR x L1 := by
  simp only [evI]; congr 1
theorem x_enum : evI cf (.enum a) ρ L = (evE cf a ρ L).bind kEnum := wx_enum
theorem wx_zip : evI cf (.zip a b) ρ L = (evE cf a ρ L).bind fun x L1 => (evE cf b ρ L1).bind fun y L2 => zipR x y L2 := by
  simp only [evI]; congr 1
theorem x_zip : evI cf (.zip a b) ρ L = (evE cf a ρ L).bind (kZip1 cf b ρ) := wx_zip
theorem wx_turn {n : Bool} {tg : Tg} {t : Oe} {own : List Nat} {d : D} : turnE cf n a tg t own ρ d L = (optR (bindT tg d (wipeD ρ own)) L).bind fun ρ' L => noX n ((evT cf t ρ' L).bind fun b L2 => condR (.bl b) (fun _ => (evE cf a ρ' L2).bind fun x L3 => .ok (some x) L3) (fun _ => .ok none L2)) := by
  unfold turnE
  cases bindT tg d (wipeD ρ own) with
  | none => rfl
  | some ρ' =>
    show noX n _ = noX n _
    congr 1
    congr 1; funext b L2; cases b <;> rfl
theorem x_turn {n : Bool} {tg : Tg} {t : Oe} {own : List Nat} {d : D} : turnE cf n a tg t own ρ d L = (optR (bindT tg d (wipeD ρ own)) L).bind (kTn1 cf n a t) := wx_turn
theorem noX_ok {α : Type} {n : Bool} {x : α} {L : Store} : noX n (.ok x L) = .ok x L := rfl
theorem noX_ite {α : Type} {n : Bool} {c : Prop} [Decidable c] {p q : R α} : noX n (if c then p else q) = if c then noX n p else noX n q := by split <;> rfl
theorem noX_f {α : Type} {r : R α} : noX false r = r := by cases r <;> rfl
theorem x_comp {f : D → M (Option D)} {ds : List D} (h : ds.length ≤ 16777216) : compW f (.vals ds) L = compL f ds L := compW_vals h
theorem bindT_name {i : Nat} {d : D} : bindT (.name i) d ρ = some (ρ.set i (some d)) := by simp only [bindT]
theorem bindT_tup {ts : Tgs} {ds : List D} : bindT (.tup ts) (.tup ds) ρ = bindTs ts ds ρ := by simp only [bindT, tupOf]
theorem bindT_ktup {ts : Tgs} {ds : List D} : bindT (.tup ts) (.ktup ds) ρ = bindTs ts ds ρ := by simp only [bindT, tupOf]
theorem bindTs_nil : bindTs .nil [] ρ = some ρ := by simp only [bindTs]
theorem bindTs_cons {t : Tg} {ts : Tgs} {d : D} {ds : List D} : bindTs (.cons t ts) (d :: ds) ρ = (bindT t d ρ).bind fun ρ' => bindTs ts ds ρ' := by
  simp only [bindTs]; cases bindT t d ρ <;> rfl
theorem wipe_nil : wipeD ρ [] = ρ := by simp only [wipeD]
theorem wipe_cons {v : Nat} {vs : List Nat} : wipeD ρ (v :: vs) = (wipeD ρ vs).set v none := by simp only [wipeD]
/-! statements -/
theorem y_nil : evSs cf .nil ρ L = .next ρ L := by simp only [evSs]
theorem wy_cons {s : S} {r : Ss} : evSs cf (.cons s r) ρ L = (evS cf s ρ L).seq fun ρ1 L1 => evSs cf r ρ1 L1 := by simp only [evSs]
theorem y_cons {s : S} {r : Ss} : evSs cf (.cons s r) ρ L = (evS cf s ρ L).seq (jSeq cf r) := wy_cons
theorem wy_set {i : Nat} : evS cf (.set i a) ρ L = (evE cf a ρ L).then ρ fun x L1 => .next (ρ.set i (some x)) L1 := by simp only [evS]
theorem y_set {i : Nat} : evS cf (.set i a) ρ L = (evE cf a ρ L).then ρ (jSet ρ i) := wy_set
theorem wy_par {is : List Nat} : evS cf (.par is es) ρ L = (evEs cf es ρ L).then ρ fun xs L1 => if xs.length = is.length then .next (setAll is xs ρ) L1 else .bad := by simp only [evS]
theorem y_par {is : List Nat} : evS cf (.par is es) ρ L = (evEs cf es ρ L).then ρ (jPar ρ is) := wy_par
theorem envS_some : envS (some ρ) L = .next ρ L := rfl
theorem wy_asg {t : Tg} : evS cf (.asg t a) ρ L = (evE cf a ρ L).then ρ fun x L1 => envS (bindT t x ρ) L1 := by
  simp only [evS]; congr 1
theorem y_asg {t : Tg} : evS cf (.asg t a) ρ L = (evE cf a ρ L).then ρ (jAsg ρ t) := wy_asg
theorem wy_setIx {o i e : E} : evS cf (.setIx o i e) ρ L = (evE cf e ρ L).then ρ fun x L1 => (evE cf o ρ L1).then ρ fun y L2 => (evE cf i ρ L2).then ρ fun z L3 => setIxS ρ x y z L3 := by
  simp only [evS]; rfl
theorem y_setIx {o i e : E} : evS cf (.setIx o i e) ρ L = (evE cf e ρ L).then ρ (jSx1 cf ρ o i) := wy_setIx
theorem wy_setK {o i e : E} : evS cf (.setK o i e) ρ L = (evE cf e ρ L).then ρ fun x L1 => (evE cf o ρ L1).then ρ fun y L2 => (evE cf i ρ L2).then ρ fun z L3 => setKS ρ x y z L3 := by
  simp only [evS]; rfl
theorem y_setK {o i e : E} : evS cf (.setK o i e) ρ L = (evE cf e ρ L).then ρ (jSk1 cf ρ o i) := wy_setK
theorem wy_ex : evS cf (.ex a) ρ L = (evE cf a ρ L).then ρ fun _ L1 => .next ρ L1 := by simp only [evS]
theorem y_ex : evS cf (.ex a) ρ L = (evE cf a ρ L).then ρ (jEx ρ) := wy_ex
theorem wy_ife {s1 s2 : Ss} : evS cf (.ife a s1 s2) ρ L = (evE cf a ρ L).then ρ fun x L1 => condS x (fun _ => evSs cf s1 ρ L1) (fun _ => evSs cf s2 ρ L1) := by
  simp only [evS]; congr 1
theorem y_ife {s1 s2 : Ss} : evS cf (.ife a s1 s2) ρ L = (evE cf a ρ L).then ρ (jIf cf ρ s1 s2) := wy_ife
def envB (o : Option Env) (k : Env → SR) : SR := match o with
  | some ρ => k ρ
  | none => .bad
theorem envB_some {k : Env → SR} : envB (some ρ) k = k ρ := rfl
theorem envB_cg {o o' : Option Env} {k : Env → SR} (h : o = o') : envB o k = envB o' k := by rw [h]
theorem wy_body {t : Tg} {s : Ss} {d : D} : bodyF cf t s d ρ L = envB (bindT t d ρ) fun ρ' => evSs cf s ρ' L := by
  unfold bodyF envB; rfl
theorem y_body {t : Tg} {s : Ss} {d : D} : bodyF cf t s d ρ L = envB (bindT t d ρ) (jBody cf s L) := wy_body
theorem wy_for {t : Tg} {it : It} {s : Ss} : evS cf (.for_ t it s) ρ L = (evI cf it ρ L).then ρ fun w L1 => forW (bodyF cf t s) w ρ L1 := by simp only [evS]; rfl
theorem y_for {t : Tg} {it : It} {s : Ss} : evS cf (.for_ t it s) ρ L = (evI cf it ρ L).then ρ (jFor cf ρ t s) := wy_for
theorem y_forW {b : D → Env → Store → SR} {ds : List D} : forW b (.vals ds) ρ L = forL b ds ρ L := forW_vals
def SR.loop (r : SR) (f : Env → Store → SR) : SR := match r with
    | .next ρ1 L1 => f ρ1 L1
    | .cont ρ1 L1 => f ρ1 L1
    | .brk ρ1 L1 => .next ρ1 L1
    | r => r
theorem loop_cg {r r' : SR} {f : Env → Store → SR} (h : r = r') : SR.loop r f = SR.loop r' f := by rw [h]
theorem loop_next {f : Env → Store → SR} : (SR.next ρ L).loop f = f ρ L := rfl
theorem loop_cont {f : Env → Store → SR} : (SR.cont ρ L).loop f = f ρ L := rfl
theorem loop_brk {f : Env → Store → SR} : (SR.brk ρ L).loop f = .next ρ L := rfl
theorem loop_ret {f : Env → Store → SR} {d : D} : (SR.ret d L).loop f = .ret d L := rfl
theorem loop_exc {f : Env → Store → SR} {c : Nat} {d : D} : (SR.exc c d ρ L).loop f = .exc c d ρ L := rfl
theorem loop_ite {c : Prop} [Decidable c] {p q : SR} {f : Env → Store → SR} : (if c then p else q).loop f = if c then p.loop f else q.loop f := by split <;> rfl
theorem wy_turn {b : D → Env → Store → SR} {d : D} {ds : List D} : forL b (d :: ds) ρ L = (b d ρ L).loop fun ρ1 L1 => forL b ds ρ1 L1 := by
  rw [forL_cons]; unfold SR.loop; cases b d ρ L <;> rfl
theorem y_turn {b : D → Env → Store → SR} {d : D} {ds : List D} : forL b (d :: ds) ρ L = (b d ρ L).loop (forL b ds) := wy_turn
theorem y_done {b : D → Env → Store → SR} : forL b [] ρ L = .next ρ L := rfl
theorem wy_ret : evS cf (.ret a) ρ L = (evE cf a ρ L).then ρ fun x L1 => .ret x L1 := by simp only [evS]
theorem y_ret : evS cf (.ret a) ρ L = (evE cf a ρ L).then ρ SR.ret := wy_ret
theorem y_retN : evS cf .retN ρ L = .ret .non L := by simp only [evS]
theorem wy_raise {n : Nat} : evS cf (.raise n a) ρ L = (evE cf a ρ L).then ρ fun x L1 => .exc n x ρ L1 := by simp only [evS]
theorem y_raise {n : Nat} : evS cf (.raise n a) ρ L = (evE cf a ρ L).then ρ (jExc n ρ) := wy_raise
theorem y_pass : evS cf .pass ρ L = .next ρ L := by simp only [evS]
theorem y_brk : evS cf .brk ρ L = .brk ρ L := by simp only [evS]
theorem y_cont : evS cf .cont ρ L = .cont ρ L := by simp only [evS]
def tryS (r : SR) (h : Nat → D → Env → Store → SR) : SR := match r with
    | .exc c d ρ1 L1 => h c d ρ1 L1
    | r => r
theorem tryS_cg {r r' : SR} {h : Nat → D → Env → Store → SR} (e : r = r') : tryS r h = tryS r' h := by rw [e]
theorem tryS_exc {h : Nat → D → Env → Store → SR} {c : Nat} {d : D} : tryS (.exc c d ρ L) h = h c d ρ L := rfl
theorem tryS_ret {h : Nat → D → Env → Store → SR} {d : D} : tryS (.ret d L) h = .ret d L := rfl
theorem tryS_next {h : Nat → D → Env → Store → SR} : tryS (.next ρ L) h = .next ρ L := rfl
theorem wy_try {s : Ss} {hs : Hs} : evS cf (.try_ s hs) ρ L = tryS (evSs cf s ρ L) fun c d ρ1 L1 => evHs cf hs c d ρ1 L1 := by
  simp only [evS]; unfold tryS; rfl
theorem y_try {s : Ss} {hs : Hs} : evS cf (.try_ s hs) ρ L = tryS (evSs cf s ρ L) (evHs cf hs) := wy_try
def endH (r : SR) : SR := match r with
  | .ret x L1 => if x.pure && storeP L1 then .ret x L1 else .bad
  | _ => .bad
theorem endH_ret {d : D} (h : d.pure = true) (k : storeP L = true) : endH (.ret d L) = .ret d L := by
  unfold endH; simp only; rw [if_pos]; rw [h, k]; rfl
theorem y_hs {n c c' j : Nat} {s : Ss} {r : Hs} {d : D} (h : c < n) : evHs cf (.cons n c' (some j) s r) c d ρ L = if c = c' then endH (evSs cf s (ρ.set j (some (.exn c d))) L) else evHs cf r c d ρ L := by
  simp only [evHs, if_pos h]; rfl
end
theorem run_to {fs : List Fd} {n f : Nat} (F : Fd) {xs : List D} {L : Store} {Y : R D} (hf : fs[f]? = some F) (hl : xs.length = F.np) (h : retS (evSs (evFn fs n) F.body (startD F.nl xs) L) = Y) : evFn fs (n + 1) f xs L = Y := run_fn hf hl rfl h
theorem retS_next {ρ : Env} {L : Store} : retS (.next ρ L) = .ok .non L := rfl
theorem retS_ret {d : D} {L : Store} : retS (.ret d L) = .ok d L := rfl
theorem retS_exc {c : Nat} {d : D} {ρ : Env} {L : Store} : retS (.exc c d ρ L) = .exc c d L := rfl
theorem retS_ite {c : Prop} [Decidable c] {p q : SR} : retS (if c then p else q) = if c then retS p else retS q := by split <;> rfl
end EV
end

section
set_option autoImplicit false
/-! The operators' values, lemma by lemma (printed by gso.py). -/
namespace EV
open PySem
section
variable {L : Store}
theorem o_isi_int_non : isiV .int L .non = some false := rfl
theorem o_isi_int_bl {v : Bool} : isiV .int L (.bl v) = some true := rfl
theorem o_isi_int_int {v : Int} : isiV .int L (.int v) = some true := rfl
theorem o_isi_int_str {v : List Nat} : isiV .int L (.str v) = some false := rfl
theorem o_isi_int_tup {v : List D} : isiV .int L (.tup v) = some false := rfl
theorem o_isi_int_ktup {v : List D} : isiV .int L (.ktup v) = some false := rfl
theorem o_isi_int_lst {v : List D} : isiV .int L (.lst v) = some false := rfl
theorem o_isi_str_non : isiV .str L .non = some false := rfl
theorem o_isi_str_bl {v : Bool} : isiV .str L (.bl v) = some false := rfl
theorem o_isi_str_int {v : Int} : isiV .str L (.int v) = some false := rfl
theorem o_isi_str_str {v : List Nat} : isiV .str L (.str v) = some true := rfl
theorem o_isi_str_tup {v : List D} : isiV .str L (.tup v) = some false := rfl
theorem o_isi_str_ktup {v : List D} : isiV .str L (.ktup v) = some false := rfl
theorem o_isi_str_lst {v : List D} : isiV .str L (.lst v) = some false := rfl
theorem o_isi_bool_non : isiV .bool L .non = some false := rfl
theorem o_isi_bool_bl {v : Bool} : isiV .bool L (.bl v) = some true := rfl
theorem o_isi_bool_int {v : Int} : isiV .bool L (.int v) = some false := rfl
theorem o_isi_bool_str {v : List Nat} : isiV .bool L (.str v) = some false := rfl
theorem o_isi_bool_tup {v : List D} : isiV .bool L (.tup v) = some false := rfl
theorem o_isi_bool_ktup {v : List D} : isiV .bool L (.ktup v) = some false := rfl
theorem o_isi_bool_lst {v : List D} : isiV .bool L (.lst v) = some false := rfl
theorem o_isi_tuple_non : isiV .tuple L .non = some false := rfl
theorem o_isi_tuple_bl {v : Bool} : isiV .tuple L (.bl v) = some false := rfl
theorem o_isi_tuple_int {v : Int} : isiV .tuple L (.int v) = some false := rfl
theorem o_isi_tuple_str {v : List Nat} : isiV .tuple L (.str v) = some false := rfl
theorem o_isi_tuple_tup {v : List D} : isiV .tuple L (.tup v) = some true := rfl
theorem o_isi_tuple_ktup {v : List D} : isiV .tuple L (.ktup v) = some true := rfl
theorem o_isi_tuple_lst {v : List D} : isiV .tuple L (.lst v) = some false := rfl
theorem o_isi_list_non : isiV .list L .non = some false := rfl
theorem o_isi_list_bl {v : Bool} : isiV .list L (.bl v) = some false := rfl
theorem o_isi_list_int {v : Int} : isiV .list L (.int v) = some false := rfl
theorem o_isi_list_str {v : List Nat} : isiV .list L (.str v) = some false := rfl
theorem o_isi_list_tup {v : List D} : isiV .list L (.tup v) = some false := rfl
theorem o_isi_list_ktup {v : List D} : isiV .list L (.ktup v) = some false := rfl
theorem o_isi_list_lst {v : List D} : isiV .list L (.lst v) = some true := rfl
theorem o_add_ii {i j : Int} : binV L .add (.int i) (.int j) = some (.int (i + j)) := rfl
theorem o_sub_ii {i j : Int} : binV L .sub (.int i) (.int j) = some (.int (i - j)) := rfl
theorem o_add_ss {a b : List Nat} (h : a.length + b.length ≤ 16777216) : binV L .add (.str a) (.str b) = some (.str (a ++ b)) := if_pos h
theorem o_add_tt {a b : List D} (h : a.length + b.length ≤ 16777216) : binV L .add (.tup a) (.tup b) = some (.tup (a ++ b)) := if_pos h
theorem o_add_ll {a b : List D} (h : a.length + b.length ≤ 16777216) : binV L .add (.lst a) (.lst b) = some (.lst (a ++ b)) := if_pos h
theorem o_mul_il {i j : Int} (h : -18446744073709551616 < j) (h2 : j < 18446744073709551616) : binV L .mul (.int i) (.int j) = some (.int (i * j)) := if_pos (by unfold cmul; rw [Bool.or_eq_true]; right; rw [Bool.and_eq_true, decide_eq_true_eq, decide_eq_true_eq]; exact ⟨h, h2⟩)
theorem o_mul_ir {i j : Int} (h : -18446744073709551616 < i) (h2 : i < 18446744073709551616) : binV L .mul (.int i) (.int j) = some (.int (i * j)) := if_pos (by unfold cmul; rw [Bool.or_eq_true]; left; rw [Bool.and_eq_true, decide_eq_true_eq, decide_eq_true_eq]; exact ⟨h, h2⟩)
theorem o_pow_ii {i j : Int} (h : 0 ≤ j) (h2 : j ≤ 1000000) (h3 : i.natAbs < 18446744073709551616) : binV L .pow (.int i) (.int j) = some (.int (i ^ j.toNat)) := if_pos ⟨h, .inl ⟨h2, h3⟩⟩
def dictG (o : Option O) (k : D) : Option (Option D) := match o, k with
  | some (.dK kvs), k => match keyOf k with
      | some q => some (valK kvs q)
      | none => none
  | some (.dT kvs), .tup ds => match keysOf ds with
      | some q => some (valK kvs q)
      | none => none
  | _, _ => none
theorem o_dget {k : Nat} {x : D} : dictGet L (.obj k) x = dictG L[k]? x := rfl
theorem dictG_str {kvs : List (_root_.L2.Key × D)} {w : List Nat} : dictG (some (.dK kvs)) (.str w) = some (valK kvs (.inr (SX.S w))) := rfl
theorem dictG_int {kvs : List (_root_.L2.Key × D)} {i : Int} : dictG (some (.dK kvs)) (.int i) = some (valK kvs (.inl i)) := rfl
theorem keyOf_s {w : List Nat} : keyOf (.str w) = some (.inr (SX.S w)) := rfl
theorem keyOf_i {i : Int} : keyOf (.int i) = some (.inl i) := rfl
theorem getset {p : Nat} {x : O} (h : p < L.length) : (L.set p x)[p]? = some x := List.getElem?_set_self h
theorem dnewR_3 {a b c : _root_.L2.Key × D} : dnewR [a, b, c] L = .ok (.obj L.length) (L ++ [.dK (putK (putK (putK [] a.1 a.2) b.1 b.2) c.1 c.2)]) := rfl
theorem o_mod_ii {i j : Int} (h : 0 < j) : binV L .mod (.int i) (.int j) = some (.int (i % j)) := if_pos h
theorem o_fdiv_ii {i j : Int} (h : 0 < j) (h2 : j < 1073741824) : binV L .fdiv (.int i) (.int j) = some (.int (i / j)) := if_pos ⟨h, h2⟩
theorem o_eq_int {a b : Int} : cmpV L .eq (.int a) (.int b) = some (decide (a = b)) := rfl
theorem o_eq_str {a b : List Nat} : cmpV L .eq (.str a) (.str b) = some (decide (a = b)) := rfl
theorem o_eq_bl {a b : Bool} : cmpV L .eq (.bl a) (.bl b) = some (decide (a = b)) := rfl
theorem o_ne_int {a b : Int} : cmpV L .ne (.int a) (.int b) = some (!decide (a = b)) := rfl
theorem o_ne_str {a b : List Nat} : cmpV L .ne (.str a) (.str b) = some (!decide (a = b)) := rfl
theorem o_ne_bl {a b : Bool} : cmpV L .ne (.bl a) (.bl b) = some (!decide (a = b)) := rfl
theorem o_lt_i {a b : Int} : cmpV L .lt (.int a) (.int b) = some (decide (a < b)) := rfl
theorem o_le_i {a b : Int} : cmpV L .le (.int a) (.int b) = some (decide (a ≤ b)) := rfl
theorem o_gt_i {a b : Int} : cmpV L .gt (.int a) (.int b) = some (decide (b < a)) := rfl
theorem o_ge_i {a b : Int} : cmpV L .ge (.int a) (.int b) = some (decide (b ≤ a)) := rfl
theorem o_in_s {c : Nat} {t : List Nat} : cmpV L .isin (.str [c]) (.str t) = some (decide (c ∈ t)) := rfl
theorem o_nin_s {c : Nat} {t : List Nat} : cmpV L .notin (.str [c]) (.str t) = some (!decide (c ∈ t)) := rfl
theorem noobj_der {d : D} (h : d.shp 64 = true) : derf L d = d := by cases d <;> first | rfl | (simp [D.shp] at h)
theorem eqV_shp {x y : D} (hx : x.shp 64 = true) (hy : y.shp 64 = true) : eqV L x y = some (x.eqv y) := by
  unfold eqV
  split
  · simp only [D.eqv]; rfl
  · simp only [D.eqv]; rw [Bool.beq_eq_decide_eq]
  · simp only [D.eqv]; rfl
  · rw [noobj_der hx, noobj_der hy, hx, hy]; rfl
theorem o_eq_d {x y : D} (hx : x.shp 64 = true) (hy : y.shp 64 = true) : cmpV L .eq x y = some (x.eqv y) := eqV_shp hx hy
theorem o_ne_d {x y : D} (hx : x.shp 64 = true) (hy : y.shp 64 = true) : cmpV L .ne x y = some (!x.eqv y) := by
  unfold cmpV; simp only [eqV_shp hx hy]
theorem o_len_s {t : List Nat} (h : t.length ≤ 16777216) : biV L .len [.str t] = some (.int t.length) := if_pos h
theorem o_len_t {ds : List D} : biV L .len [.tup ds] = some (.int ds.length) := rfl
theorem o_len_kt {ds : List D} : biV L .len [.ktup ds] = some (.int ds.length) := rfl
theorem o_len_l {ds : List D} : biV L .len [.lst ds] = some (.int ds.length) := rfl
theorem o_tup_l {ds : List D} : biV L .tuple [.lst ds] = some (.tup ds) := rfl
theorem o_tup_t {ds : List D} : biV L .tuple [.tup ds] = some (.tup ds) := rfl
def oTup (o : Option O) : Option D := match o with
  | some (.lst ds) => some (.tup ds)
  | _ => none
def oLen (o : Option O) : Option D := match o with
  | some (.lst ds) => some (.int ds.length)
  | some (.dK kvs) => some (.int kvs.length)
  | _ => none
def oIx (o : Option O) (i : Int) : Option D := match o with
  | some (.lst ds) => L2.atI ds i
  | _ => none
def oLst (o : Option O) : Option (List D) := match o with
  | some (.lst ds) => some ds
  | _ => none
theorem oTup_l {ds : List D} : oTup (some (.lst ds)) = some (.tup ds) := rfl
theorem oLen_l {ds : List D} : oLen (some (.lst ds)) = some (.int ds.length) := rfl
theorem oIx_l {ds : List D} {i : Int} : oIx (some (.lst ds)) i = L2.atI ds i := rfl
theorem oLst_l {ds : List D} : oLst (some (.lst ds)) = some ds := rfl
theorem o_tup_o {k : Nat} : biV L .tuple [.obj k] = oTup L[k]? := by unfold biV seqOf listOf oTup; simp only; generalize L[k]? = o; rcases o with _ | (_ | _ | _) <;> rfl
theorem o_len_o {k : Nat} : biV L .len [.obj k] = oLen L[k]? := by unfold biV seqOf listOf oLen; simp only; generalize L[k]? = o; rcases o with _ | (_ | _ | _) <;> rfl
theorem o_all {α : Type} {g : α → Bool} {l : List α} : biV L .all [.lst (l.map fun i => .bl (g i))] = some (.bl (l.all g)) := by unfold biV; simp only [listOf, blsOf_map, List.all_map]; rfl
theorem o_any {α : Type} {g : α → Bool} {l : List α} : biV L .any [.lst (l.map fun i => .bl (g i))] = some (.bl (l.any g)) := by unfold biV; simp only [listOf, blsOf_map, List.any_map]; rfl
theorem o_str_i {i : Int} (h : 0 ≤ i ∧ i.natAbs.log2 < 1920) : biV L .str [.int i] = some (.str (TL.numL i.toNat)) := if_pos h
theorem o_int_i {i : Int} : biV L .int [.int i] = some (.int i) := rfl
theorem strsOf_map {α : Type} (g : α → List Nat) : ∀ l : List α, strsOf (l.map fun i => .str (g i)) = some (l.map g)
  | [] => rfl
  | a :: l => by rw [List.map_cons, strsOf, strsOf_map g l]; rfl
theorem intsOf_map {α : Type} (g : α → Int) : ∀ l : List α, intsOf (l.map fun i => .int (g i)) = some (l.map g)
  | [] => rfl
  | a :: l => by rw [List.map_cons, intsOf, intsOf_map g l]; rfl
theorem o_sum {l : List Int} : biV L .sum [.lst (l.map .int)] = some (.int l.sum) := by unfold biV; simp only [listOf, intsOf_map id, List.map_id, show l.map D.int = l.map (fun i => .int (id i)) from rfl]
theorem o_join {α : Type} {g : α → List Nat} {l : List α} {s : List Nat} (h : lens (l.map g) + s.length * l.length ≤ 16777216) : meV L .join (.str s) [.lst (l.map fun i => .str (g i))] = some (.str (TL.joinL s (l.map g))) := by unfold meV; simp only [seqOf, listOf, strsOf_map, List.length_map]; exact if_pos h
theorem o_join_t {α : Type} {g : α → List Nat} {l : List α} {s : List Nat} (h : lens (l.map g) + s.length * l.length ≤ 16777216) : meV L .join (.str s) [.tup (l.map fun i => .str (g i))] = some (.str (TL.joinL s (l.map g))) := by unfold meV; simp only [seqOf, listOf, strsOf_map, List.length_map]; exact if_pos h
theorem o_split {t : List Nat} {c : Nat} (hc : c < 256) (h : t.length + 2 ≤ 16777216) : meV L .split (.str t) [.str [c]] = some (.lst ((TL.spl [c] 0 [] t).map .str)) := by unfold meV; exact if_pos ⟨by simp, by simpa using hc, h⟩
theorem atI_0 {α : Type} {a : α} {r : List α} : L2.atI (a :: r) 0 = some a := L2.atI_nat (j := 0) rfl
theorem atI_1 {α : Type} {a b : α} {r : List α} : L2.atI (a :: b :: r) 1 = some b := L2.atI_nat (j := 1) rfl
theorem atI_2 {α : Type} {a b c : α} {r : List α} : L2.atI (a :: b :: c :: r) 2 = some c := L2.atI_nat (j := 2) rfl
theorem atI_3 {α : Type} {a b c d : α} {r : List α} : L2.atI (a :: b :: c :: d :: r) 3 = some d := L2.atI_nat (j := 3) rfl
theorem o_ix_t {ds : List D} {i : Int} : ixV L (.tup ds) (.int i) = L2.atI ds i := rfl
theorem o_ix_kt {ds : List D} {i : Int} : ixV L (.ktup ds) (.int i) = L2.atI ds i := rfl
theorem o_ix_l {ds : List D} {i : Int} : ixV L (.lst ds) (.int i) = L2.atI ds i := rfl
theorem o_ix_o {k : Nat} {i : Int} : ixV L (.obj k) (.int i) = oIx L[k]? i := by unfold ixV seqOf listOf oIx; simp only; generalize L[k]? = o; rcases o with _ | (_ | _ | _) <;> rfl
theorem o_ix_s {t : List Nat} {i : Int} {c : Nat} (h : t.length ≤ 16777216) (hc : L2.atI t i = some c) : ixV L (.str t) (.int i) = some (.str [c]) := by unfold ixV; simp only [if_pos (show t.length ≤ big from h), hc]
theorem o_sl_s {t : List Nat} {lo hi : Option Int} (h : t.length ≤ 16777216) : slV L (.str t) lo hi = some (.str (cutL t lo hi)) := if_pos h
theorem o_sl_t {t : List D} {lo hi : Option Int} : slV L (.tup t) lo hi = some (.tup (cutL t lo hi)) := rfl
theorem o_sl_l {t : List D} {lo hi : Option Int} : slV L (.lst t) lo hi = some (.lst (cutL t lo hi)) := rfl
theorem o_lof_l {t : List D} : listOf L (.lst t) = some t := rfl
theorem o_sof_l {t : List D} : seqOf L (.lst t) = some t := rfl
theorem o_sof_t {t : List D} : seqOf L (.tup t) = some t := rfl
theorem o_lof_o {k : Nat} : listOf L (.obj k) = oLst L[k]? := rfl
theorem join_opt {c : Prop} [Decidable c] {a b : Option D} : (if c then R.ok a L else R.ok b L) = R.ok (if c then a else b) L := by split <;> rfl
theorem ne_nil_s {α : Type} {k : α → List Nat} {l : List α} : cmpV L .ne (.lst (l.map fun c => .str (k c))) (.lst []) = some (!l.isEmpty) := by
  have h : shpAll 63 (l.map fun c => D.str (k c)) = true := shp_of 63 _ (fun _ => by unfold D.shp; rfl) l
  unfold cmpV eqV
  simp only [derf, D.shp, h, shpAll, Bool.and_self, if_true, D.eqv]
  cases l <;> rfl
theorem ne_nil_i {α : Type} {k : α → Int} {l : List α} : cmpV L .ne (.lst (l.map fun c => .int (k c))) (.lst []) = some (!l.isEmpty) := by
  have h : shpAll 63 (l.map fun c => D.int (k c)) = true := shp_of 63 _ (fun _ => by unfold D.shp; rfl) l
  unfold cmpV eqV
  simp only [derf, D.shp, h, shpAll, Bool.and_self, if_true, D.eqv]
  cases l <;> rfl
theorem ne_nil_n : cmpV L .ne (.lst []) (.lst []) = some false := by
  have := @ne_nil_i L Unit (fun _ => 0) []
  exact this
theorem upto_z {a : Int} : upto a 0 = [] := rfl
theorem isEmpty_filt {α : Type} {g : α → Bool} {l : List α} : (l.filter fun a => !g a).isEmpty = l.all g := by
  induction l with
  | nil => rfl
  | cons a l ih => rw [List.filter_cons, List.all_cons]; cases g a <;> simp [ih]
theorem signs_mp {t : List Nat} : signs t = t.map fun c => .str [c] := rfl
theorem cst0 : ((0 : Nat) : Int) = 0 := rfl
theorem cst1 : ((1 : Nat) : Int) = 1 := rfl
theorem cst2 : ((2 : Nat) : Int) = 2 := rfl
theorem cst3 : ((3 : Nat) : Int) = 3 := rfl
theorem cst4 : ((4 : Nat) : Int) = 4 := rfl
theorem cst5 : ((5 : Nat) : Int) = 5 := rfl
theorem cst6 : ((6 : Nat) : Int) = 6 := rfl
end
end EV
end

section
set_option autoImplicit false
/-! Loops behind the evaluator run by simp. -/
namespace EV
open PySem
/-- a loop that looks at each and goes on, or hands back -/
theorem ret_all {b : D → Env → Store → SR} {α : Type} {k : α → D} (g : α → Bool) (P : Env → Prop) (x : D) {L : Store} {l : List α} {ρ : Env} {K : Env → Store → SR} {Y : R D}
    (hp : P ρ) (h : ∀ a ∈ l, ∀ ρ, P ρ → ∃ ρ', P ρ' ∧ b (k a) ρ L = if g a = true then .next ρ' L else .ret x L)
    (h1 : l.all g = true → ∀ ρ, P ρ → retS (K ρ L) = Y) (h2 : l.all g = false → .ok x L = Y) : retS ((forL b (l.map k) ρ L).seq K) = Y := by
  obtain ⟨a1, a2⟩ := for_all (b := b) (k := k) (g := g) (P := P) (L := L) (x := x) (fun a ha ρ hr => by
    obtain ⟨ρ', p', e'⟩ := h a ha ρ hr
    exact ⟨fun e => ⟨ρ', p', by rw [e', if_pos e]⟩, fun e => by rw [e', if_neg (by rw [e]; decide)]⟩) hp
  cases e : l.all g with
  | true =>
    obtain ⟨ρ', p', e'⟩ := a1 e
    rw [e', seq_next]
    exact h1 e ρ' p'
  | false =>
    rw [a2 e, seq_ret]
    exact h2 e
theorem seq_all {b : D → Env → Store → SR} {α : Type} {k : α → D} (g : α → Bool) (P : Env → Prop) (x : D) {L : Store} {l : List α} {ρ : Env} {K : Env → Store → SR} {Y : SR}
    (hp : P ρ) (h : ∀ a ∈ l, ∀ ρ, P ρ → ∃ ρ', P ρ' ∧ b (k a) ρ L = if g a = true then .next ρ' L else .ret x L)
    (h1 : l.all g = true → ∀ ρ, P ρ → K ρ L = Y) (h2 : l.all g = false → .ret x L = Y) : (forL b (l.map k) ρ L).seq K = Y := by
  obtain ⟨a1, a2⟩ := for_all (b := b) (k := k) (g := g) (P := P) (L := L) (x := x) (fun a ha ρ hr => by
    obtain ⟨ρ', p', e'⟩ := h a ha ρ hr
    exact ⟨fun e => ⟨ρ', p', by rw [e', if_pos e]⟩, fun e => by rw [e', if_neg (by rw [e]; decide)]⟩) hp
  cases e : l.all g with
  | true =>
    obtain ⟨ρ', p', e'⟩ := a1 e
    rw [e', seq_next]
    exact h1 e ρ' p'
  | false =>
    rw [a2 e, seq_ret]
    exact h2 e
/-- a loop that runs through, a state carried along -/
theorem forL_fold {b : D → Env → Store → SR} {α σ : Type} {k : α → D} {I : σ → Env → Store → Prop} {step : σ → α → σ} : ∀ {l : List α} {s : σ} {ρ : Env} {L : Store},
    (∀ a ∈ l, ∀ s ρ L, I s ρ L → ∃ ρ' L', b (k a) ρ L = .next ρ' L' ∧ I (step s a) ρ' L') → I s ρ L → ∃ ρ' L', forL b (l.map k) ρ L = .next ρ' L' ∧ I (l.foldl step s) ρ' L'
  | [], s, ρ, L, h, hi => ⟨ρ, L, rfl, hi⟩
  | a :: l, s, ρ, L, h, hi => by
    obtain ⟨ρ1, L1, e, i1⟩ := h a List.mem_cons_self s ρ L hi
    rw [List.map_cons, forL_cons, e]
    exact forL_fold (fun x hx => h x (List.mem_cons_of_mem _ hx)) i1
/-- a comprehension whose turns change the store -/
theorem comp_st {f : D → M (Option D)} {α β : Type} {k : α → D} {g : β → D} {I : Nat → Store → Prop} {Q : β → Prop} : ∀ {l : List α} {n : Nat} {L : Store},
    (∀ a ∈ l, ∀ n L, I (n + 1) L → ∃ x L', f (k a) L = .ok (some (g x)) L' ∧ I n L' ∧ Q x) → I (l.length + n) L →
    ∃ (xs : List β) (L' : Store), compL f (l.map k) L = .ok (xs.map g) L' ∧ I n L' ∧ xs.length = l.length ∧ ∀ x ∈ xs, Q x
  | [], n, L, h, hi => ⟨[], L, rfl, by simpa using hi, rfl, fun x hx => absurd hx (by simp)⟩
  | a :: l, n, L, h, hi => by
    obtain ⟨x, L1, e1, i1, q1⟩ := h a List.mem_cons_self (l.length + n) L (by rw [List.length_cons] at hi; rw [Nat.add_right_comm] at hi; exact hi)
    obtain ⟨xs, L2, e2, i2, l2, q2⟩ := comp_st (fun y hy => h y (List.mem_cons_of_mem _ hy)) i1
    refine ⟨x :: xs, L2, ?_, i2, by rw [List.length_cons, List.length_cons, l2], fun y hy => ?_⟩
    · rw [List.map_cons, compL_cons, e1]
      simp only [R.bind]
      rw [e2]
      rfl
    · rcases List.mem_cons.mp hy with rfl | hy
      · exact q1
      · exact q2 y hy
theorem callF_of {cf : Nat → List D → M D} {f : Nat} {xs : List D} {d : D} {L1 : Store} (h : cf f xs [] = .ok d L1) (p : purAll xs = true) (pd : d.pure = true) : ∀ L, callF cf f xs L = .ok d L := fun L => callF_pure p h pd
theorem callF_ofE {cf : Nat → List D → M D} {f : Nat} {xs : List D} {d : D} {c : Nat} {L1 : Store} (h : cf f xs [] = .exc c d L1) (p : purAll xs = true) (pd : d.pure = true) : ∀ L, callF cf f xs L = .exc c d L := fun L => callF_exc p h pd
end EV
namespace EV
/-- goes on, with P -/
def NextP (P : Env → Prop) (L : Store) (X : SR) : Prop := ∃ ρ', P ρ' ∧ X = .next ρ' L
theorem nextP_of {P : Env → Prop} {L : Store} {ρ : Env} (h : P ρ) : NextP P L (.next ρ L) := ⟨ρ, h, rfl⟩
theorem ret_all2 {b : D → Env → Store → SR} {α : Type} {k : α → D} (g : α → Bool) (P : Env → Prop) (x : D) {L : Store} {l : List α} {ρ : Env} {K : Env → Store → SR} {Y : R D}
    (hp : P ρ) (h1 : ∀ a ∈ l, ∀ ρ, P ρ → g a = true → NextP P L (b (k a) ρ L)) (h2 : ∀ a ∈ l, ∀ ρ, P ρ → g a = false → b (k a) ρ L = .ret x L)
    (k1 : l.all g = true → ∀ ρ, P ρ → retS (K ρ L) = Y) (k2 : l.all g = false → .ok x L = Y) : retS ((forL b (l.map k) ρ L).seq K) = Y := by
  obtain ⟨a1, a2⟩ := for_all (b := b) (k := k) (g := g) (P := P) (L := L) (x := x) (fun a ha ρ hr => ⟨fun e => h1 a ha ρ hr e, fun e => h2 a ha ρ hr e⟩) hp
  cases e : l.all g with
  | true =>
    obtain ⟨ρ', p', e'⟩ := a1 e
    rw [e', seq_next]
    exact k1 e ρ' p'
  | false =>
    rw [a2 e, seq_ret]
    exact k2 e
theorem seq_all_t (Z : SR → Prop) {b : D → Env → Store → SR} {α : Type} {k : α → D} (g : α → Bool) (P : Env → Prop) (x : D) {L : Store} {l : List α} {ρ : Env} {K : Env → Store → SR}
    (hp : P ρ) (h1 : ∀ a ∈ l, ∀ ρ, P ρ → g a = true → NextP P L (b (k a) ρ L)) (h2 : ∀ a ∈ l, ∀ ρ, P ρ → g a = false → b (k a) ρ L = .ret x L)
    (e : l.all g = true) (k1 : ∀ ρ, P ρ → Z (K ρ L)) : Z ((forL b (l.map k) ρ L).seq K) := by
  obtain ⟨a1, a2⟩ := for_all (b := b) (k := k) (g := g) (P := P) (L := L) (x := x) (fun a ha ρ hr => ⟨fun e => h1 a ha ρ hr e, fun e => h2 a ha ρ hr e⟩) hp
  obtain ⟨ρ', p', e'⟩ := a1 e
  rw [e', seq_next]
  exact k1 ρ' p'
theorem seq_all_f {b : D → Env → Store → SR} {α : Type} {k : α → D} (g : α → Bool) (P : Env → Prop) {x : D} {L : Store} {l : List α} {ρ : Env} {K : Env → Store → SR}
    (hp : P ρ) (h1 : ∀ a ∈ l, ∀ ρ, P ρ → g a = true → NextP P L (b (k a) ρ L)) (h2 : ∀ a ∈ l, ∀ ρ, P ρ → g a = false → b (k a) ρ L = .ret x L)
    (e : l.all g = false) : (forL b (l.map k) ρ L).seq K = .ret x L := by
  obtain ⟨a1, a2⟩ := for_all (b := b) (k := k) (g := g) (P := P) (L := L) (x := x) (fun a ha ρ hr => ⟨fun e => h1 a ha ρ hr e, fun e => h2 a ha ρ hr e⟩) hp
  rw [a2 e, seq_ret]
end EV
namespace EV
open PySem
/-! ### draws: a dict with "left", "cell", "turns" -/
def kLeft : _root_.L2.Key := .inr (SX.S [108, 101, 102, 116])
def kCell : _root_.L2.Key := .inr (SX.S [99, 101, 108, 108])
def kTurn : _root_.L2.Key := .inr (SX.S [116, 117, 114, 110, 115])
def stL (le ce tu : Int) : List (_root_.L2.Key × D) := [(kLeft, .int le), (kCell, .int ce), (kTurn, .int tu)]
theorem kLC : kLeft ≠ kCell := by decide
theorem kLT : kLeft ≠ kTurn := by decide
theorem kCT : kCell ≠ kTurn := by decide
theorem put_left {le ce tu x : Int} : putK (stL le ce tu) kLeft (.int x) = stL x ce tu := by simp [putK, valK, stL, kLC, kLT, kCT, kLC.symm, kLT.symm, kCT.symm]
theorem put_turn {le ce tu x : Int} : putK (stL le ce tu) kTurn (.int x) = stL le ce x := by simp [putK, valK, stL, kLC, kLT, kCT, kLC.symm, kLT.symm, kCT.symm]
theorem val_left {le ce tu : Int} : valK (stL le ce tu) kLeft = some (.int le) := by simp [valK, stL, kLC, kLT, kCT, kLC.symm, kLT.symm, kCT.symm]
theorem val_turn {le ce tu : Int} : valK (stL le ce tu) kTurn = some (.int tu) := by simp [valK, stL, kLC, kLT, kCT, kLC.symm, kLT.symm, kCT.symm]
theorem val_cell {le ce tu : Int} : valK (stL le ce tu) kCell = some (.int ce) := by simp [valK, stL, kLC, kLT, kCT, kLC.symm, kLT.symm, kCT.symm]
end EV
end

namespace EV
open PySem
/-! printed by tr.py of a linked text -/
/-- 0: _law_mixed(cell, k) names 0:cell 1:k 2:number -/
def P99_0 : Fd := ⟨2, 3,
(.cons (.set 2 (.bin .add (.bin .add (.bin .mod (.slot 0) (.ix (.frz (.disp (.cons (.cst (.int 1000000007)) (.cons (.cst (.int 998244353)) (.cons (.cst (.int 2147483629)) (.cons (.cst (.int 1000000009)) .nil)))))) (.bin .mod (.slot 1) (.cst (.int 4))))) (.bin .mul (.cst (.int 7919)) (.slot 1))) (.cst (.int 13))))
(.cons (.ret (.bin .mod (.bin .mul (.bin .mod (.bin .mul (.slot 2) (.slot 2)) (.cst (.int 2147483647))) (.cst (.int 48271))) (.cst (.int 2147483647))))
.nil))⟩
/-- 1: _law_draw(cell, k) names 0:cell 1:k -/
def P99_1 : Fd := ⟨2, 2,
(.cons (.ret (.dnew false (.cons (.cst (.str [108, 101, 102, 116])) (.ife (.cmp .ge (.slot 0) (.bin .pow (.cst (.int 10)) (.cst (.int 18)))) (.slot 0) (.cst (.int 0))) (.cons (.cst (.str [99, 101, 108, 108])) (.slot 0) (.cons (.cst (.str [116, 117, 114, 110, 115])) (.bin .mul (.cst (.int 1000)) (.slot 1)) .nil)))))
.nil)⟩
/-- 2: _law_digit(state, many) names 0:state 1:many 2:found 3:j -/
def P99_2 : Fd := ⟨2, 4,
(.cons (.ife (.cmp .eq (.dget (.slot 0) (.cst (.str [108, 101, 102, 116]))) (.cst (.int 0)))
(.cons (.for_ (.name 3) (.range1 (.cst (.int 4)))
(.cons (.setK (.slot 0) (.cst (.str [116, 117, 114, 110, 115])) (.bin .add (.dget (.slot 0) (.cst (.str [116, 117, 114, 110, 115]))) (.cst (.int 1))))
(.cons (.setK (.slot 0) (.cst (.str [108, 101, 102, 116])) (.bin .add (.bin .mul (.dget (.slot 0) (.cst (.str [108, 101, 102, 116]))) (.cst (.int 2147483647))) (.call 0 (.cons (.dget (.slot 0) (.cst (.str [99, 101, 108, 108]))) (.cons (.dget (.slot 0) (.cst (.str [116, 117, 114, 110, 115]))) .nil)))))
.nil)))
.nil)
.nil)
(.cons (.set 2 (.bin .mod (.dget (.slot 0) (.cst (.str [108, 101, 102, 116]))) (.slot 1)))
(.cons (.setK (.slot 0) (.cst (.str [108, 101, 102, 116])) (.bin .fdiv (.dget (.slot 0) (.cst (.str [108, 101, 102, 116]))) (.slot 1)))
(.cons (.ret (.slot 2))
.nil))))⟩
/-- 3: _law_kinds(e) names 0:e 1:some 2:word 3:is_so -/
def P99_3 : Fd := ⟨1, 4,
(.cons (.set 1 (.mut (.disp (.cons (.tup (.cons (.cst (.str [66, 97, 100, 66, 111, 97, 114, 100])) (.cons (.isx "BadBoard" [false, false, true, false, false, false, false, false, false, false, false, false, false, false, false, false, false] (.slot 0)) .nil))) (.cons (.tup (.cons (.cst (.str [66, 97, 100, 66, 111, 111, 107])) (.cons (.isx "BadBook" [false, false, false, false, false, true, false, false, false, false, false, false, false, false, false, false, false] (.slot 0)) .nil))) .nil)))))
(.cons (.set 1 (.mut (.cat (.slot 1) (.frz (.disp (.cons (.tup (.cons (.cst (.str [66, 97, 100, 68, 101, 101, 100])) (.cons (.isx "BadDeed" [false, false, false, false, false, false, false, false, false, false, false, false, false, false, true, false, false] (.slot 0)) .nil))) (.cons (.tup (.cons (.cst (.str [66, 97, 100, 68, 105, 114, 101, 99, 116, 105, 111, 110])) (.cons (.isx "BadDirection" [false, false, false, true, false, false, false, false, false, false, false, false, false, false, false, false, false] (.slot 0)) .nil))) .nil)))))))
(.cons (.ex (.meth .append (.slot 1) (.cons (.tup (.cons (.cst (.str [66, 97, 100, 71, 97, 109, 101])) (.cons (.isx "BadGame" [false, false, false, false, false, false, false, true, false, false, false, false, false, false, false, false, false] (.slot 0)) .nil))) .nil)))
(.cons (.set 1 (.mut (.cat (.slot 1) (.frz (.disp (.cons (.tup (.cons (.cst (.str [66, 97, 100, 71, 117, 97, 114, 100])) (.cons (.isx "BadGuard" [false, false, false, false, false, false, true, false, false, false, false, false, false, false, false, false, false] (.slot 0)) .nil))) (.cons (.tup (.cons (.cst (.str [66, 97, 100, 76, 105, 110, 101])) (.cons (.isx "BadLine" [false, true, false, false, false, false, false, false, false, false, false, false, false, false, false, false, false] (.slot 0)) .nil))) .nil)))))))
(.cons (.set 1 (.mut (.cat (.slot 1) (.frz (.disp (.cons (.tup (.cons (.cst (.str [66, 97, 100, 77, 97, 99, 104, 105, 110, 101])) (.cons (.isx "BadMachine" [false, false, false, false, true, false, false, false, false, false, false, false, false, false, false, false, false] (.slot 0)) .nil))) (.cons (.tup (.cons (.cst (.str [66, 97, 100, 77, 111, 100, 115])) (.cons (.isx "BadMods" [false, false, false, false, false, false, false, false, false, false, false, false, true, false, false, false, false] (.slot 0)) .nil))) .nil)))))))
(.cons (.set 1 (.mut (.cat (.slot 1) (.frz (.disp (.cons (.tup (.cons (.cst (.str [66, 97, 100, 78, 117, 109, 98, 101, 114])) (.cons (.isx "BadNumber" [false, false, false, false, false, false, false, false, false, false, false, true, false, false, false, false, false] (.slot 0)) .nil))) (.cons (.tup (.cons (.cst (.str [66, 97, 100, 80, 97, 112, 101, 114])) (.cons (.isx "BadPaper" [false, false, false, false, false, false, false, false, false, true, false, false, false, false, false, false, false] (.slot 0)) .nil))) .nil)))))))
(.cons (.set 1 (.mut (.cat (.slot 1) (.frz (.disp (.cons (.tup (.cons (.cst (.str [66, 97, 100, 83, 97, 109, 112, 108, 101])) (.cons (.isx "BadSample" [false, false, false, false, false, false, false, false, false, false, false, false, false, true, false, false, false] (.slot 0)) .nil))) (.cons (.tup (.cons (.cst (.str [66, 97, 100, 83, 105, 103, 110, 115])) (.cons (.isx "BadSigns" [true, false, false, false, false, false, false, false, false, false, false, false, false, false, false, false, false] (.slot 0)) .nil))) .nil)))))))
(.cons (.set 1 (.mut (.cat (.slot 1) (.frz (.disp (.cons (.tup (.cons (.cst (.str [66, 97, 100, 84, 101, 120, 116])) (.cons (.isx "BadText" [false, false, false, false, false, false, false, false, false, false, true, false, false, false, false, false, false] (.slot 0)) .nil))) (.cons (.tup (.cons (.cst (.str [66, 97, 100, 87, 101, 105, 103, 104, 116, 115])) (.cons (.isx "BadWeights" [false, false, false, false, false, false, false, false, true, false, false, false, false, false, false, false, false] (.slot 0)) .nil))) .nil)))))))
(.cons (.set 1 (.mut (.cat (.slot 1) (.frz (.disp (.cons (.tup (.cons (.cst (.str [78, 111, 83, 117, 99, 104])) (.cons (.isx "NoSuch" [false, false, false, false, false, false, false, false, false, false, false, false, false, false, false, false, true] (.slot 0)) .nil))) (.cons (.tup (.cons (.cst (.str [84, 111, 111, 77, 97, 110, 121])) (.cons (.isx "TooMany" [false, false, false, false, false, false, false, false, false, false, false, false, false, false, false, true, false] (.slot 0)) .nil))) .nil)))))))
(.cons (.set 1 (.mut (.cat (.slot 1) (.frz (.disp (.cons (.tup (.cons (.cst (.str [112, 108, 97, 121])) (.cons (.isx "PlayError" [true, true, true, true, true, true, true, true, true, true, true, true, true, true, true, false, false] (.slot 0)) .nil))) (.cons (.tup (.cons (.cst (.str [118, 97, 108, 117, 101])) (.cons (.isx "ValueError" [true, true, true, true, true, true, true, true, true, true, true, true, true, true, true, false, false] (.slot 0)) .nil))) .nil)))))))
(.cons (.set 1 (.mut (.cat (.slot 1) (.frz (.disp (.cons (.tup (.cons (.cst (.str [108, 111, 111, 107, 117, 112])) (.cons (.isx "LookupError" [false, false, false, false, false, false, false, false, false, false, false, false, false, false, false, false, true] (.slot 0)) .nil))) (.cons (.tup (.cons (.cst (.str [111, 118, 101, 114, 102, 108, 111, 119])) (.cons (.isx "OverflowError" [false, false, false, false, false, false, false, false, false, false, false, false, false, false, false, true, false] (.slot 0)) .nil))) .nil)))))))
(.cons (.ret (.frz (.lc false (.slot 2) (.tup (.cons (.name 2) (.cons (.name 3) .nil))) (.val (.slot 1)) (.some (.slot 3)) [2, 3])))
.nil))))))))))))⟩
/-- 4: _law_valued(thing) names 0:thing 1:found -/
def P99_4 : Fd := ⟨1, 2,
(.cons (.set 1 (.frz (.disp (.cons (.tup (.cons (.mkx 0 "value" [110, 111, 32, 115, 117, 99, 104, 32, 115, 105, 103, 110, 115] false (.slot 0)) (.cons (.mkx 0 "value" [110, 111, 32, 115, 117, 99, 104, 32, 115, 105, 103, 110, 115] true (.slot 0)) (.cons (.cst (.str [66, 97, 100, 83, 105, 103, 110, 115])) .nil)))) (.cons (.tup (.cons (.mkx 1 "value" [110, 111, 32, 115, 117, 99, 104, 32, 108, 105, 110, 101] false (.slot 0)) (.cons (.mkx 1 "value" [110, 111, 32, 115, 117, 99, 104, 32, 108, 105, 110, 101] true (.slot 0)) (.cons (.cst (.str [66, 97, 100, 76, 105, 110, 101])) .nil)))) .nil)))))
(.cons (.set 1 (.bin .add (.slot 1) (.frz (.disp (.cons (.tup (.cons (.mkx 2 "value" [110, 111, 32, 115, 117, 99, 104, 32, 98, 111, 97, 114, 100] false (.slot 0)) (.cons (.mkx 2 "value" [110, 111, 32, 115, 117, 99, 104, 32, 98, 111, 97, 114, 100] true (.slot 0)) (.cons (.cst (.str [66, 97, 100, 66, 111, 97, 114, 100])) .nil)))) .nil)))))
(.cons (.set 1 (.bin .add (.slot 1) (.frz (.disp (.cons (.tup (.cons (.mkx 3 "value" [110, 111, 32, 115, 117, 99, 104, 32, 100, 105, 114, 101, 99, 116, 105, 111, 110] false (.slot 0)) (.cons (.mkx 3 "value" [110, 111, 32, 115, 117, 99, 104, 32, 100, 105, 114, 101, 99, 116, 105, 111, 110] true (.slot 0)) (.cons (.cst (.str [66, 97, 100, 68, 105, 114, 101, 99, 116, 105, 111, 110])) .nil)))) .nil)))))
(.cons (.ret (.bin .add (.slot 1) (.frz (.disp (.cons (.tup (.cons (.mkx 11 "value" [110, 111, 32, 115, 117, 99, 104, 32, 110, 117, 109, 98, 101, 114] false (.slot 0)) (.cons (.mkx 11 "value" [110, 111, 32, 115, 117, 99, 104, 32, 110, 117, 109, 98, 101, 114] true (.slot 0)) (.cons (.cst (.str [66, 97, 100, 78, 117, 109, 98, 101, 114])) .nil)))) .nil)))))
.nil))))⟩
/-- 5: _law_placed(thing) names 0:thing 1:found -/
def P99_5 : Fd := ⟨1, 2,
(.cons (.set 1 (.frz (.disp (.cons (.tup (.cons (.mkx 4 "place" [110, 111, 32, 115, 117, 99, 104, 32, 109, 97, 99, 104, 105, 110, 101] false (.slot 0)) (.cons (.mkx 4 "place" [110, 111, 32, 115, 117, 99, 104, 32, 109, 97, 99, 104, 105, 110, 101] true (.slot 0)) (.cons (.cst (.str [66, 97, 100, 77, 97, 99, 104, 105, 110, 101])) .nil)))) .nil))))
(.cons (.set 1 (.bin .add (.slot 1) (.frz (.disp (.cons (.tup (.cons (.mkx 5 "place" [110, 111, 32, 115, 117, 99, 104, 32, 98, 111, 111, 107] false (.slot 0)) (.cons (.mkx 5 "place" [110, 111, 32, 115, 117, 99, 104, 32, 98, 111, 111, 107] true (.slot 0)) (.cons (.cst (.str [66, 97, 100, 66, 111, 111, 107])) .nil)))) .nil)))))
(.cons (.set 1 (.bin .add (.slot 1) (.frz (.disp (.cons (.tup (.cons (.mkx 6 "place" [110, 111, 32, 115, 117, 99, 104, 32, 103, 117, 97, 114, 100] false (.slot 0)) (.cons (.mkx 6 "place" [110, 111, 32, 115, 117, 99, 104, 32, 103, 117, 97, 114, 100] true (.slot 0)) (.cons (.cst (.str [66, 97, 100, 71, 117, 97, 114, 100])) .nil)))) .nil)))))
(.cons (.set 1 (.bin .add (.slot 1) (.frz (.disp (.cons (.tup (.cons (.mkx 7 "place" [110, 111, 32, 115, 117, 99, 104, 32, 103, 97, 109, 101] false (.slot 0)) (.cons (.mkx 7 "place" [110, 111, 32, 115, 117, 99, 104, 32, 103, 97, 109, 101] true (.slot 0)) (.cons (.cst (.str [66, 97, 100, 71, 97, 109, 101])) .nil)))) .nil)))))
(.cons (.set 1 (.bin .add (.slot 1) (.frz (.disp (.cons (.tup (.cons (.mkx 8 "place" [110, 111, 32, 115, 117, 99, 104, 32, 119, 101, 105, 103, 104, 116, 115] false (.slot 0)) (.cons (.mkx 8 "place" [110, 111, 32, 115, 117, 99, 104, 32, 119, 101, 105, 103, 104, 116, 115] true (.slot 0)) (.cons (.cst (.str [66, 97, 100, 87, 101, 105, 103, 104, 116, 115])) .nil)))) .nil)))))
(.cons (.set 1 (.bin .add (.slot 1) (.frz (.disp (.cons (.tup (.cons (.mkx 9 "place" [110, 111, 32, 115, 117, 99, 104, 32, 112, 97, 112, 101, 114] false (.slot 0)) (.cons (.mkx 9 "place" [110, 111, 32, 115, 117, 99, 104, 32, 112, 97, 112, 101, 114] true (.slot 0)) (.cons (.cst (.str [66, 97, 100, 80, 97, 112, 101, 114])) .nil)))) .nil)))))
(.cons (.set 1 (.bin .add (.slot 1) (.frz (.disp (.cons (.tup (.cons (.mkx 10 "place" [110, 111, 32, 115, 117, 99, 104, 32, 116, 101, 120, 116] false (.slot 0)) (.cons (.mkx 10 "place" [110, 111, 32, 115, 117, 99, 104, 32, 116, 101, 120, 116] true (.slot 0)) (.cons (.cst (.str [66, 97, 100, 84, 101, 120, 116])) .nil)))) .nil)))))
(.cons (.set 1 (.bin .add (.slot 1) (.frz (.disp (.cons (.tup (.cons (.mkx 12 "place" [110, 111, 32, 115, 117, 99, 104, 32, 109, 111, 100, 115] false (.slot 0)) (.cons (.mkx 12 "place" [110, 111, 32, 115, 117, 99, 104, 32, 109, 111, 100, 115] true (.slot 0)) (.cons (.cst (.str [66, 97, 100, 77, 111, 100, 115])) .nil)))) .nil)))))
(.cons (.set 1 (.bin .add (.slot 1) (.frz (.disp (.cons (.tup (.cons (.mkx 13 "place" [110, 111, 32, 115, 117, 99, 104, 32, 115, 97, 109, 112, 108, 101] false (.slot 0)) (.cons (.mkx 13 "place" [110, 111, 32, 115, 117, 99, 104, 32, 115, 97, 109, 112, 108, 101] true (.slot 0)) (.cons (.cst (.str [66, 97, 100, 83, 97, 109, 112, 108, 101])) .nil)))) .nil)))))
(.cons (.ret (.bin .add (.slot 1) (.frz (.disp (.cons (.tup (.cons (.mkx 14 "place" [110, 111, 32, 115, 117, 99, 104, 32, 100, 101, 101, 100] false (.slot 0)) (.cons (.mkx 14 "place" [110, 111, 32, 115, 117, 99, 104, 32, 100, 101, 101, 100] true (.slot 0)) (.cons (.cst (.str [66, 97, 100, 68, 101, 101, 100])) .nil)))) .nil)))))
.nil))))))))))⟩
/-- 6: _law_right(thing) names 0:thing 1:one 2:other 3:name -/
def P99_6 : Fd := ⟨1, 4,
(.cons (.for_ (.tup (.cons (.name 1) (.cons (.name 2) (.cons (.name 3) .nil)))) (.val (.call 4 (.cons (.slot 0) .nil)))
(.cons (.ife (.or (.cmp .ne (.call 3 (.cons (.slot 1) .nil)) (.frz (.disp (.cons (.slot 3) (.cons (.cst (.str [112, 108, 97, 121])) (.cons (.cst (.str [118, 97, 108, 117, 101])) .nil)))))) (.cmp .ne (.call 3 (.cons (.slot 2) .nil)) (.frz (.disp (.cons (.slot 3) (.cons (.cst (.str [112, 108, 97, 121])) (.cons (.cst (.str [118, 97, 108, 117, 101])) .nil)))))))
(.cons (.ret (.cst (.bl false)))
.nil)
.nil)
(.cons (.ife (.or (.cmp .ne (.xfl 17 "value" (.slot 1)) (.slot 0)) (.cmp .ne (.xfl 17 "value" (.slot 2)) (.slot 0)))
(.cons (.ret (.cst (.bl false)))
.nil)
.nil)
.nil)))
(.cons (.for_ (.tup (.cons (.name 1) (.cons (.name 2) (.cons (.name 3) .nil)))) (.val (.call 5 (.cons (.slot 0) .nil)))
(.cons (.ife (.or (.cmp .ne (.call 3 (.cons (.slot 1) .nil)) (.frz (.disp (.cons (.slot 3) (.cons (.cst (.str [112, 108, 97, 121])) (.cons (.cst (.str [118, 97, 108, 117, 101])) .nil)))))) (.cmp .ne (.call 3 (.cons (.slot 2) .nil)) (.frz (.disp (.cons (.slot 3) (.cons (.cst (.str [112, 108, 97, 121])) (.cons (.cst (.str [118, 97, 108, 117, 101])) .nil)))))))
(.cons (.ret (.cst (.bl false)))
.nil)
.nil)
(.cons (.ife (.or (.cmp .ne (.xfl 17 "place" (.slot 1)) (.slot 0)) (.cmp .ne (.xfl 17 "place" (.slot 2)) (.slot 0)))
(.cons (.ret (.cst (.bl false)))
.nil)
.nil)
.nil)))
(.cons (.for_ (.name 1) (.val (.tup (.cons (.mkx 16 "value" [110, 111, 116, 104, 105, 110, 103, 32, 115, 111, 32, 99, 97, 108, 108, 101, 100] false (.slot 0)) (.cons (.mkx 16 "value" [110, 111, 116, 104, 105, 110, 103, 32, 115, 111, 32, 99, 97, 108, 108, 101, 100] true (.slot 0)) .nil))))
(.cons (.ife (.or (.cmp .ne (.call 3 (.cons (.slot 1) .nil)) (.frz (.disp (.cons (.cst (.str [78, 111, 83, 117, 99, 104])) (.cons (.cst (.str [108, 111, 111, 107, 117, 112])) .nil))))) (.cmp .ne (.xfl 17 "value" (.slot 1)) (.slot 0)))
(.cons (.ret (.cst (.bl false)))
.nil)
.nil)
.nil))
(.cons (.for_ (.name 1) (.val (.tup (.cons (.mkx 15 "most" [116, 111, 111, 32, 109, 97, 110, 121] false (.slot 0)) (.cons (.mkx 15 "most" [116, 111, 111, 32, 109, 97, 110, 121] true (.slot 0)) .nil))))
(.cons (.ife (.or (.cmp .ne (.call 3 (.cons (.slot 1) .nil)) (.frz (.disp (.cons (.cst (.str [84, 111, 111, 77, 97, 110, 121])) (.cons (.cst (.str [111, 118, 101, 114, 102, 108, 111, 119])) .nil))))) (.cmp .ne (.xfl 17 "most" (.slot 1)) (.slot 0)))
(.cons (.ret (.cst (.bl false)))
.nil)
.nil)
.nil))
(.cons (.ret (.cst (.bl true)))
.nil)))))⟩
/-- 7: law(script) names 0:script 1:some 2:others 3:thing 4:k 5:cell 6:state 7:number 8:made 9:e 10:one 11:other 12:name -/
def P99_7 : Fd := ⟨1, 13,
(.cons (.for_ (.tup (.cons (.name 4) (.cons (.name 5) .nil))) (.enum (.bin .add (.sl (.slot 0) .none (.some (.cst (.int 4)))) (.frz (.disp (.cons (.bi .sum (.cons (.slot 0) .nil)) .nil)))))
(.cons (.set 6 (.callk 1 (.cons (.slot 5) (.cons (.slot 4) .nil))))
(.cons (.set 7 (.call 2 (.cons (.slot 6) (.cons (.cst (.int 100000)) .nil))))
(.cons (.set 1 (.frz (.disp (.cons (.slot 7) (.cons (.bin .sub (.cst (.int 0)) (.slot 7)) (.cons (.bin .mul (.cst (.str [97, 98])) (.bin .mod (.slot 7) (.cst (.int 50)))) (.cons (.tup (.cons (.cst (.str [108, 101, 102, 116, 115])) (.cons (.tup (.cons (.cst (.int 0)) (.cons (.slot 7) .nil))) .nil))) (.cons (.cst .non) (.cons (.tup (.cons (.bin .pow (.cst (.int 10)) (.cst (.int 30))) (.cons (.tup .nil) .nil))) (.cons (.bin .mul (.tup (.cons (.slot 7) .nil)) (.cst (.int 9))) .nil))))))))))
(.cons (.ife (.or (.not (.call 6 (.cons (.ix (.slot 1) (.call 2 (.cons (.slot 6) (.cons (.cst (.int 7)) .nil)))) .nil))) (.not (.call 6 (.cons (.bin .pow (.bin .pow (.bin .pow (.cst (.int 10)) (.cst (.int 50))) (.cst (.int 50))) (.cst (.int 2))) .nil))))
(.cons (.ret (.cst (.bl false)))
.nil)
.nil)
.nil)))))
(.cons (.set 1 (.frz (.disp (.cons (.mk0 0 "value" [110, 111, 32, 115, 117, 99, 104, 32, 115, 105, 103, 110, 115]) (.cons (.mk0 1 "value" [110, 111, 32, 115, 117, 99, 104, 32, 108, 105, 110, 101]) (.cons (.mk0 2 "value" [110, 111, 32, 115, 117, 99, 104, 32, 98, 111, 97, 114, 100]) (.cons (.mk0 3 "value" [110, 111, 32, 115, 117, 99, 104, 32, 100, 105, 114, 101, 99, 116, 105, 111, 110]) (.cons (.mk0 11 "value" [110, 111, 32, 115, 117, 99, 104, 32, 110, 117, 109, 98, 101, 114]) (.cons (.mk0 16 "value" [110, 111, 116, 104, 105, 110, 103, 32, 115, 111, 32, 99, 97, 108, 108, 101, 100]) .nil)))))))))
(.cons (.set 2 (.frz (.disp (.cons (.mk0 4 "place" [110, 111, 32, 115, 117, 99, 104, 32, 109, 97, 99, 104, 105, 110, 101]) (.cons (.mk0 5 "place" [110, 111, 32, 115, 117, 99, 104, 32, 98, 111, 111, 107]) (.cons (.mk0 6 "place" [110, 111, 32, 115, 117, 99, 104, 32, 103, 117, 97, 114, 100]) (.cons (.mk0 7 "place" [110, 111, 32, 115, 117, 99, 104, 32, 103, 97, 109, 101]) (.cons (.mk0 8 "place" [110, 111, 32, 115, 117, 99, 104, 32, 119, 101, 105, 103, 104, 116, 115]) (.cons (.mk0 9 "place" [110, 111, 32, 115, 117, 99, 104, 32, 112, 97, 112, 101, 114]) (.cons (.mk0 10 "place" [110, 111, 32, 115, 117, 99, 104, 32, 116, 101, 120, 116]) (.cons (.mk0 12 "place" [110, 111, 32, 115, 117, 99, 104, 32, 109, 111, 100, 115]) .nil)))))))))))
(.cons (.set 2 (.bin .add (.slot 2) (.frz (.disp (.cons (.mk0 13 "place" [110, 111, 32, 115, 117, 99, 104, 32, 115, 97, 109, 112, 108, 101]) (.cons (.mk0 14 "place" [110, 111, 32, 115, 117, 99, 104, 32, 100, 101, 101, 100]) .nil))))))
(.cons (.ife (.or (.cmp .ne (.frz (.lc false (.xfl 17 "value" (.slot 9)) (.name 9) (.val (.slot 1)) .none [9])) (.bin .mul (.frz (.disp (.cons (.cst .non) .nil))) (.cst (.int 6)))) (.cmp .ne (.frz (.lc false (.xfl 17 "place" (.slot 9)) (.name 9) (.val (.slot 2)) .none [9])) (.bin .mul (.frz (.disp (.cons (.cst .non) .nil))) (.cst (.int 10)))))
(.cons (.ret (.cst (.bl false)))
.nil)
.nil)
(.cons (.for_ (.name 3) (.val (.tup (.cons (.cst (.str [122, 113, 122, 113])) (.cons (.bin .pow (.cst (.int 10)) (.cst (.int 30))) (.cons (.cst (.int 70707)) .nil)))))
(.cons (.set 8 (.bin .add (.frz (.lc false (.slot 10) (.tup (.cons (.name 10) (.cons (.name 11) (.cons (.name 12) .nil)))) (.val (.bin .add (.call 4 (.cons (.slot 3) .nil)) (.call 5 (.cons (.slot 3) .nil)))) .none [10, 11, 12])) (.frz (.disp (.cons (.mkx 16 "value" [110, 111, 116, 104, 105, 110, 103, 32, 115, 111, 32, 99, 97, 108, 108, 101, 100] false (.slot 3)) (.cons (.mkx 15 "most" [116, 111, 111, 32, 109, 97, 110, 121] false (.slot 3)) .nil))))))
(.cons (.ife (.cmp .ne (.frz (.lc false (.slot 9) (.name 9) (.val (.slot 8)) (.some (.cmp .isin (.bi .str (.cons (.slot 3) .nil)) (.strx 17 (.slot 9)))) [9])) (.frz (.disp .nil)))
(.cons (.ret (.cst (.bl false)))
.nil)
.nil)
.nil)))
(.cons (.ret (.cst (.bl true)))
.nil)))))))⟩
def P99_top (i : Nat) : PySem.Stmt := PySem.Challenge.pw_playedalike_k99_errors_by_hand.main.body.getD i (.Pass ⟨0, 0, 0, 0⟩)
def P99_ds : List DfD := [
  ⟨"_law_mixed", P99_top 20, ["cell", "k", "number"], P99_0⟩,
  ⟨"_law_draw", P99_top 21, ["cell", "k"], P99_1⟩,
  ⟨"_law_digit", P99_top 22, ["state", "many", "found", "j"], P99_2⟩,
  ⟨"_law_kinds", P99_top 23, ["e", "some", "word", "is_so"], P99_3⟩,
  ⟨"_law_valued", P99_top 24, ["thing", "found"], P99_4⟩,
  ⟨"_law_placed", P99_top 25, ["thing", "found"], P99_5⟩,
  ⟨"_law_right", P99_top 26, ["thing", "one", "other", "name"], P99_6⟩,
  ⟨"law", P99_top 27, ["script", "some", "others", "thing", "k", "cell", "state", "number", "made", "e", "one", "other", "name"], P99_7⟩
  ]
def P99_gl : List (PySem.Str × D) := []
def P99_xs : List XcD := []
def P99_xv : List XvD := [⟨"BadSigns", "PlayError", "value", [110, 111, 32, 115, 117, 99, 104, 32, 115, 105, 103, 110, 115], true, L2.inClass (P99_top 2) 0⟩, ⟨"BadLine", "PlayError", "value", [110, 111, 32, 115, 117, 99, 104, 32, 108, 105, 110, 101], true, L2.inClass (P99_top 3) 0⟩, ⟨"BadBoard", "PlayError", "value", [110, 111, 32, 115, 117, 99, 104, 32, 98, 111, 97, 114, 100], true, L2.inClass (P99_top 4) 0⟩, ⟨"BadDirection", "PlayError", "value", [110, 111, 32, 115, 117, 99, 104, 32, 100, 105, 114, 101, 99, 116, 105, 111, 110], true, L2.inClass (P99_top 5) 0⟩, ⟨"BadMachine", "PlayError", "place", [110, 111, 32, 115, 117, 99, 104, 32, 109, 97, 99, 104, 105, 110, 101], true, L2.inClass (P99_top 6) 0⟩, ⟨"BadBook", "PlayError", "place", [110, 111, 32, 115, 117, 99, 104, 32, 98, 111, 111, 107], true, L2.inClass (P99_top 7) 0⟩, ⟨"BadGuard", "PlayError", "place", [110, 111, 32, 115, 117, 99, 104, 32, 103, 117, 97, 114, 100], true, L2.inClass (P99_top 8) 0⟩, ⟨"BadGame", "PlayError", "place", [110, 111, 32, 115, 117, 99, 104, 32, 103, 97, 109, 101], true, L2.inClass (P99_top 9) 0⟩, ⟨"BadWeights", "PlayError", "place", [110, 111, 32, 115, 117, 99, 104, 32, 119, 101, 105, 103, 104, 116, 115], true, L2.inClass (P99_top 10) 0⟩, ⟨"BadPaper", "PlayError", "place", [110, 111, 32, 115, 117, 99, 104, 32, 112, 97, 112, 101, 114], true, L2.inClass (P99_top 11) 0⟩, ⟨"BadText", "PlayError", "place", [110, 111, 32, 115, 117, 99, 104, 32, 116, 101, 120, 116], true, L2.inClass (P99_top 12) 0⟩, ⟨"BadNumber", "PlayError", "value", [110, 111, 32, 115, 117, 99, 104, 32, 110, 117, 109, 98, 101, 114], true, L2.inClass (P99_top 13) 0⟩, ⟨"BadMods", "PlayError", "place", [110, 111, 32, 115, 117, 99, 104, 32, 109, 111, 100, 115], true, L2.inClass (P99_top 14) 0⟩, ⟨"BadSample", "PlayError", "place", [110, 111, 32, 115, 117, 99, 104, 32, 115, 97, 109, 112, 108, 101], true, L2.inClass (P99_top 15) 0⟩, ⟨"BadDeed", "PlayError", "place", [110, 111, 32, 115, 117, 99, 104, 32, 100, 101, 101, 100], true, L2.inClass (P99_top 16) 0⟩, ⟨"TooMany", "OverflowError", "most", [116, 111, 111, 32, 109, 97, 110, 121], false, L2.inClass (P99_top 17) 0⟩, ⟨"NoSuch", "LookupError", "value", [110, 111, 116, 104, 105, 110, 103, 32, 115, 111, 32, 99, 97, 108, 108, 101, 100], true, L2.inClass (P99_top 18) 0⟩]
def P99_is : List (PySem.Str × List Bool) := [("BadBoard", [false, false, true, false, false, false, false, false, false, false, false, false, false, false, false, false, false]), ("BadBook", [false, false, false, false, false, true, false, false, false, false, false, false, false, false, false, false, false]), ("BadGame", [false, false, false, false, false, false, false, true, false, false, false, false, false, false, false, false, false]), ("BadDeed", [false, false, false, false, false, false, false, false, false, false, false, false, false, false, true, false, false]), ("BadDirection", [false, false, false, true, false, false, false, false, false, false, false, false, false, false, false, false, false]), ("BadGuard", [false, false, false, false, false, false, true, false, false, false, false, false, false, false, false, false, false]), ("BadLine", [false, true, false, false, false, false, false, false, false, false, false, false, false, false, false, false, false]), ("BadMachine", [false, false, false, false, true, false, false, false, false, false, false, false, false, false, false, false, false]), ("BadMods", [false, false, false, false, false, false, false, false, false, false, false, false, true, false, false, false, false]), ("BadNumber", [false, false, false, false, false, false, false, false, false, false, false, true, false, false, false, false, false]), ("BadPaper", [false, false, false, false, false, false, false, false, false, true, false, false, false, false, false, false, false]), ("BadSample", [false, false, false, false, false, false, false, false, false, false, false, false, false, true, false, false, false]), ("BadSigns", [true, false, false, false, false, false, false, false, false, false, false, false, false, false, false, false, false]), ("BadText", [false, false, false, false, false, false, false, false, false, false, true, false, false, false, false, false, false]), ("BadWeights", [false, false, false, false, false, false, false, false, true, false, false, false, false, false, false, false, false]), ("NoSuch", [false, false, false, false, false, false, false, false, false, false, false, false, false, false, false, false, true]), ("TooMany", [false, false, false, false, false, false, false, false, false, false, false, false, false, false, false, true, false]), ("PlayError", [true, true, true, true, true, true, true, true, true, true, true, true, true, true, true, false, false]), ("ValueError", [true, true, true, true, true, true, true, true, true, true, true, true, true, true, true, false, false]), ("LookupError", [false, false, false, false, false, false, false, false, false, false, false, false, false, false, false, false, true]), ("OverflowError", [false, false, false, false, false, false, false, false, false, false, false, false, false, false, false, true, false])]
def P99_dat : Dat := ⟨P99_ds, P99_gl, P99_xs, P99_xv, P99_is⟩
-- law: def 7, statement 27; names of the top: __name__ PlayError BadSigns BadLine BadBoard BadDirection BadMachine BadBook BadGuard BadGame BadWeights BadPaper BadText BadNumber BadMods BadSample BadDeed TooMany NoSuch __name__ _law_mixed _law_draw _law_digit _law_kinds _law_valued _law_placed _law_right law
end EV

section
namespace EV
def fs99 : List Fd := P99_dat.fs
end EV
end

section
namespace EV
open PySem
local macro_rules | `(tactic| trivial) => `(tactic| simp (config := {contextual := true, maxSteps := 1000000, implicitDefEqProofs := false}) (disch := first | with_reducible assumption | omega | (simp only [List.length_map, List.length_set, upto_len, List.length_cons, List.length_nil, List.length_append, big, Bool.not_eq_true, Bool.not_eq_true', Bool.not_eq_false', Bool.and_eq_true, decide_eq_true_eq, decide_eq_false_iff_not] at *; omega)) only [x_slot, x_cst, x_glob, x_fnv, x_bin, x_neg, x_not, x_cmp, x_chain, x_isN, x_notN, x_and, x_or, x_ife, x_tup, x_frz, x_mut, x_call, x_callk, x_callv, x_bi, x_split, x_join, x_index, x_append, x_ix, x_dget, x_sl, x_isi, x_dnew, x_xfld, x_mkx, x_mk0, x_isx, x_xfl, x_strx, x_tupr, x_nil, x_cons, x_onone, x_osome, x_tnone, x_tsome, x_knil, x_kcons, x_disp, x_lc, x_fsl, x_rev, x_cat, x_lis, x_val, x_rng, x_rng2, x_enum, x_zip, x_turn, x_comp, y_nil, y_cons, y_set, y_par, y_asg, y_setIx, y_setK, y_ex, y_ife, y_body, y_for, y_forW, y_turn, y_done, y_ret, y_retN, y_raise, y_pass, y_brk, y_cont, y_try, y_hs, kBin2, kBin1, kCmp2, kCmp1, kBool, kNot, kNeg, kCh3, kCh2, kCh1b, kCh1, kIsN, kNotN, kAnd, kOr, kIfe, kTup, kFrz, kMut, kCall, kCallk, kCallv, kBi, kMe2, kMe1, kAp3, kAp2, kAp1, kIx2, kIx1, kDg2, kDg1, kSl3, kSl2, kSl1, kIsi, kDnew, kTupr, kEs2, kEs1, kInt, kTst, kK4, kK3, kK2, kK1, kDisp, kLc, kFs4, kFs3, kFs2, kFs1, kRev2, kRev, kCat4, kCat3, kCat2, kCat1, kLis, kVal, kRng, kRng2b, kRng2, kEnum, kZip2, kZip1, kSome, kTn2, kTn1, jSeq, jSet, jPar, jAsg, jSx3, jSx2, jSx1, jSk3, jSk2, jSk1, jEx, jIf, jBody, jFor, jExc, kMkx, kIsx, kXfl, kStrx, bind_ok, bind_exc, bind_bad, then_ok, then_exc, then_bad, seq_next, seq_ret, seq_exc, seq_brk, seq_cont, seq_bad, optR_some, blR_some, slotR_some, condR_t, condR_f, condS_t, condS_f, condR_bl, condS_bl, join_and, join_or, bind_ite, then_ite, seq_ite, negR_int, notR_bl, boolR_bl, isNon_non, isNon_int, isNon_str, isNon_tup, isNon_lst, isNon_obj, sizR_0, sizR_1, sizR_2, sizR_3, sizR_4, sizR_5, sizR_6, sizR_7, sizR_8, sizR_ok, intR_int, tstR_bl, recvA_obj, recvL_lst, appR_obj, appL_ok, setKS_obj, setKO_str, setIxS_obj, valO_lst, valR_obj, recvS_str, xfR_ok, isxR_exv, xflR_exv, strxR_exv, tuprR_int, lstR_some, valR_lst, valR_tup, valR_ktup, valR_str, rngR_int, rng2R_int, enumR_lst, zipR_lst, zipR_tup, callvR_ok, noX_ok, noX_ite, noX_f, bindT_name, bindT_tup, bindT_ktup, bindTs_nil, bindTs_cons, wipe_nil, wipe_cons, envS_some, envB_some, loop_next, loop_cont, loop_brk, loop_ret, loop_exc, loop_ite, tryS_exc, tryS_ret, tryS_next, endH_ret, retS_next, retS_ret, retS_exc, retS_ite, setAll, o_isi_int_non, o_isi_int_bl, o_isi_int_int, o_isi_int_str, o_isi_int_tup, o_isi_int_ktup, o_isi_int_lst, o_isi_str_non, o_isi_str_bl, o_isi_str_int, o_isi_str_str, o_isi_str_tup, o_isi_str_ktup, o_isi_str_lst, o_isi_bool_non, o_isi_bool_bl, o_isi_bool_int, o_isi_bool_str, o_isi_bool_tup, o_isi_bool_ktup, o_isi_bool_lst, o_isi_tuple_non, o_isi_tuple_bl, o_isi_tuple_int, o_isi_tuple_str, o_isi_tuple_tup, o_isi_tuple_ktup, o_isi_tuple_lst, o_isi_list_non, o_isi_list_bl, o_isi_list_int, o_isi_list_str, o_isi_list_tup, o_isi_list_ktup, o_isi_list_lst, o_add_ii, o_sub_ii, o_add_ss, o_add_tt, o_add_ll, o_mul_il, o_mul_ir, o_pow_ii, o_dget, dictG_str, dictG_int, keyOf_s, keyOf_i, getset, dnewR_3, o_mod_ii, o_fdiv_ii, o_eq_int, o_eq_str, o_eq_bl, o_ne_int, o_ne_str, o_ne_bl, o_lt_i, o_le_i, o_gt_i, o_ge_i, o_in_s, o_nin_s, o_eq_d, o_ne_d, o_len_s, o_len_t, o_len_kt, o_len_l, o_tup_l, o_tup_t, oTup_l, oLen_l, oIx_l, oLst_l, o_tup_o, o_len_o, o_all, o_any, o_str_i, o_int_i, o_sum, o_join, o_join_t, o_split, atI_0, atI_1, atI_2, atI_3, o_ix_t, o_ix_kt, o_ix_l, o_ix_o, o_ix_s, o_sl_s, o_sl_t, o_sl_l, o_lof_l, o_sof_l, o_sof_t, o_lof_o, List.getElem?_cons_zero, List.getElem?_cons_succ, List.set_cons_zero, List.set_cons_succ, Option.bind_some, List.length_cons, List.length_nil, if_true, if_false, Bool.not_true, Bool.not_false, Bool.and_true, Bool.true_and, Bool.and_false, Bool.false_and, Bool.or_true, Bool.true_or, Bool.or_false, Bool.false_or, Bool.not_not, ite_true, ite_false, reduceIte, Nat.reduceAdd, Int.reduceAdd, Int.reduceSub, Int.reduceMod, Int.reduceMul, Nat.reduceLT, reduceCtorEq, startD, List.map_cons, List.map_nil, List.replicate_succ, List.replicate_zero, List.cons_append, List.nil_append, Nat.reduceSub, decide_true, decide_false, true_and, and_true, eq_self, Int.reduceEq, Int.reduceNe, Int.reduceLT, Int.reduceLE, Nat.reduceEqDiff, Int.reduceToNat, Nat.reduceLeDiff, List.length_map, signs_mp, join_opt, ne_nil_s, ne_nil_i, ne_nil_n, isEmpty_filt, upto_z, compL_nil, Int.toNat_natCast, id_eq, List.length_set, cst0, cst1, cst2, cst3, cst4, cst5, cst6, ne_eq, not_true_eq_false, not_false_eq_true, *])
local macro_rules | `(tactic| bv_omega) => `(tactic| (first | rfl | (simp [-List.all_eq_true] at *; done) | (simp [-List.all_eq_true] at *; omega) | (simp [-List.all_eq_true] at *; grind)))
/-! ### the draws of every law: mixed, draw, digit -/
def fdMixed : Fd := ⟨2, 3,
(.cons (.set 2 (.bin .add (.bin .add (.bin .mod (.slot 0) (.ix (.frz (.disp (.cons (.cst (.int 1000000007)) (.cons (.cst (.int 998244353)) (.cons (.cst (.int 2147483629)) (.cons (.cst (.int 1000000009)) .nil)))))) (.bin .mod (.slot 1) (.cst (.int 4))))) (.bin .mul (.cst (.int 7919)) (.slot 1))) (.cst (.int 13))))
(.cons (.ret (.bin .mod (.bin .mul (.bin .mod (.bin .mul (.slot 2) (.slot 2)) (.cst (.int 2147483647))) (.cst (.int 48271))) (.cst (.int 2147483647))))
.nil))⟩
def fdDraw : Fd := ⟨2, 2,
(.cons (.ret (.dnew false (.cons (.cst (.str [108, 101, 102, 116])) (.ife (.cmp .ge (.slot 0) (.bin .pow (.cst (.int 10)) (.cst (.int 18)))) (.slot 0) (.cst (.int 0))) (.cons (.cst (.str [99, 101, 108, 108])) (.slot 0) (.cons (.cst (.str [116, 117, 114, 110, 115])) (.bin .mul (.cst (.int 1000)) (.slot 1)) .nil)))))
.nil)⟩
def fdDigit (im : Nat) : Fd := ⟨2, 4,
(.cons (.ife (.cmp .eq (.dget (.slot 0) (.cst (.str [108, 101, 102, 116]))) (.cst (.int 0)))
(.cons (.for_ (.name 3) (.range1 (.cst (.int 4)))
(.cons (.setK (.slot 0) (.cst (.str [116, 117, 114, 110, 115])) (.bin .add (.dget (.slot 0) (.cst (.str [116, 117, 114, 110, 115]))) (.cst (.int 1))))
(.cons (.setK (.slot 0) (.cst (.str [108, 101, 102, 116])) (.bin .add (.bin .mul (.dget (.slot 0) (.cst (.str [108, 101, 102, 116]))) (.cst (.int 2147483647))) (.call im (.cons (.dget (.slot 0) (.cst (.str [99, 101, 108, 108]))) (.cons (.dget (.slot 0) (.cst (.str [116, 117, 114, 110, 115]))) .nil)))))
.nil)))
.nil)
.nil)
(.cons (.set 2 (.bin .mod (.dget (.slot 0) (.cst (.str [108, 101, 102, 116]))) (.slot 1)))
(.cons (.setK (.slot 0) (.cst (.str [108, 101, 102, 116])) (.bin .fdiv (.dget (.slot 0) (.cst (.str [108, 101, 102, 116]))) (.slot 1)))
(.cons (.ret (.slot 2))
.nil))))⟩
def modV (k : Int) : Int := if k % 4 = 0 then 1000000007 else if k % 4 = 1 then 998244353 else if k % 4 = 2 then 2147483629 else 1000000009
def mixV (c k : Int) : Int := (c % modV k + 7919 * k + 13) * (c % modV k + 7919 * k + 13) % 2147483647 * 48271 % 2147483647
theorem modV_pos (k : Int) : 0 < modV k ∧ modV k ≤ 2147483629 := by
  unfold modV
  split
  · decide
  · split
    · decide
    · split <;> decide
theorem modV_ix (k : Int) : L2.atI [D.int 1000000007, .int 998244353, .int 2147483629, .int 1000000009] (k % 4) = some (.int (modV k)) := by
  have : k % 4 = 0 ∨ k % 4 = 1 ∨ k % 4 = 2 ∨ k % 4 = 3 := by omega
  unfold modV
  rcases this with h | h | h | h <;> rw [h]
  · exact atI_0
  · exact atI_1
  · exact atI_2
  · exact atI_3
theorem d_mixed {fs : List Fd} {im : Nat} (hm : fs[im]? = some fdMixed) {n : Nat} {c k : Int} (h0 : 0 ≤ k) (h1 : k ≤ 281474976710660) : ∀ L, callF (evFn fs (n + 1)) im [.int c, .int k] L = .ok (.int (mixV c k)) L := by
  refine callF_of (L1 := []) (run_to fdMixed hm rfl ?_) rfl rfl
  unfold fdMixed mixV
  have hi := modV_ix k
  obtain ⟨hp, hq⟩ := modV_pos k
  have e1 := Int.emod_nonneg c (show modV k ≠ 0 by omega)
  have e2 := Int.emod_lt_of_pos c hp
  have b1 : -18446744073709551616 < c % modV k + 7919 * k + 13 := by omega
  have b2 : c % modV k + 7919 * k + 13 < 18446744073709551616 := by omega
  clear h0 h1
  trivial
theorem upto_4 : upto 0 4 = [.int 0, .int 1, .int 2, .int 3] := rfl
theorem vl {le ce tu : Int} : valK (stL le ce tu) (.inr (SX.S [108, 101, 102, 116])) = some (.int le) := val_left
theorem vt {le ce tu : Int} : valK (stL le ce tu) (.inr (SX.S [116, 117, 114, 110, 115])) = some (.int tu) := val_turn
theorem vc {le ce tu : Int} : valK (stL le ce tu) (.inr (SX.S [99, 101, 108, 108])) = some (.int ce) := val_cell
theorem pl {le ce tu x : Int} : putK (stL le ce tu) (.inr (SX.S [108, 101, 102, 116])) (.int x) = stL x ce tu := put_left
theorem pt {le ce tu x : Int} : putK (stL le ce tu) (.inr (SX.S [116, 117, 114, 110, 115])) (.int x) = stL le ce x := put_turn
theorem stL_len {le ce tu : Int} : (stL le ce tu).length = 3 := rfl
/-- a state with B draws to come -/
def DrS (B : Nat) (o : O) : Prop := ∃ le ce tu : Int, o = .dK (stL le ce tu) ∧ 0 ≤ tu ∧ tu + 4 * B ≤ 281474976710656
theorem DrS.pure {B : Nat} {o : O} (h : DrS B o) : o.pure = true := by
  obtain ⟨le, ce, tu, rfl, _⟩ := h
  rfl
theorem DrS.less {B C : Nat} {o : O} (h : DrS B o) (k : C ≤ B) : DrS C o := by
  obtain ⟨le, ce, tu, rfl, h1, h2⟩ := h
  exact ⟨le, ce, tu, rfl, h1, by omega⟩
theorem storeP_set {L : Store} {p : Nat} {o : O} (h : storeP L = true) (ho : o.pure = true) : storeP (L.set p o) = true := by
  unfold storeP at *
  rw [List.all_eq_true] at *
  intro x hx
  rcases List.mem_or_eq_of_mem_set hx with h1 | rfl
  · exact h x h1
  · exact ho
theorem storeP_app {L K : Store} (h : storeP L = true) (k : storeP K = true) : storeP (L ++ K) = true := by
  unfold storeP at *
  rw [List.all_append, h, k]; rfl
theorem storeP_take {L : Store} {n : Nat} (h : storeP L = true) : storeP (L.take n) = true := by
  unfold storeP at *
  rw [List.all_eq_true] at *
  intro x hx
  exact h x (List.mem_of_mem_take hx)
/-- p is a state with B draws to come, in a store of plain objects -/
structure Dr (p B : Nat) (L : Store) : Prop where
  lt : p < L.length
  at_ : ∃ o, L[p]? = some o ∧ DrS B o
  pu : storeP L = true
theorem Dr.less {p B C : Nat} {L : Store} (h : Dr p B L) (k : C ≤ B) : Dr p C L := by
  obtain ⟨h1, ⟨o, h2, h3⟩, h4⟩ := h
  exact ⟨h1, ⟨o, h2, h3.less k⟩, h4⟩
theorem Dr.set {p B C : Nat} {L : Store} {o : O} (h : Dr p B L) (k : DrS C o) : Dr p C (L.set p o) :=
  ⟨by rw [List.length_set]; exact h.lt, ⟨o, List.getElem?_set_self h.lt, k⟩, storeP_set h.pu k.pure⟩
theorem callF_imp {cf : Nat → List D → M D} {f : Nat} {xs : List D} {L L1 : Store} {d : D} (p : purAll xs = false) (h : cf f xs L = .ok d L1) (hs : storeP (L1.take L.length) = true) (pd : d.pure = true) : callF cf f xs L = .ok d (L1.take L.length) := by
  unfold callF
  rw [if_neg (by rw [p]; decide), h]
  have : frozen L.length d L1 = some d := by
    cases d <;> first | (simp only [frozen]; rw [if_pos pd]) | (simp [D.pure] at pd)
  simp only [this, hs, if_true]
theorem take_set_self {L : Store} {p : Nat} {o : O} : (L.set p o).take L.length = L.set p o := List.take_of_length_le (by rw [List.length_set]; exact Nat.le_refl _)
theorem setKO_st {ρ : Env} {x : D} {k : Nat} {w : List Nat} {le ce tu : Int} {L : Store} : setKO ρ x (.str w) k (some (.dK (stL le ce tu))) L = .next ρ (L.set k (.dK (putK (stL le ce tu) (.inr (SX.S w)) x))) := setKO_str (by rw [stL_len]; decide)
theorem mul_z {x : Int} : 0 * 2147483647 + x = x := by omega
def bigV (ce tu : Int) : Int := ((mixV ce (tu + 1) * 2147483647 + mixV ce (tu + 1 + 1)) * 2147483647 + mixV ce (tu + 1 + 1 + 1)) * 2147483647 + mixV ce (tu + 1 + 1 + 1 + 1)
local macro_rules | `(tactic| trivial) => `(tactic| simp (config := {contextual := true, maxSteps := 1000000, implicitDefEqProofs := false}) (disch := first | with_reducible assumption | omega | (simp only [List.length_map, List.length_set, upto_len, List.length_cons, List.length_nil, List.length_append, big, Bool.not_eq_true, Bool.not_eq_true', Bool.not_eq_false', Bool.and_eq_true, decide_eq_true_eq, decide_eq_false_iff_not] at *; omega)) only [x_slot, x_cst, x_glob, x_fnv, x_bin, x_neg, x_not, x_cmp, x_chain, x_isN, x_notN, x_and, x_or, x_ife, x_tup, x_frz, x_mut, x_call, x_callk, x_callv, x_bi, x_split, x_join, x_index, x_append, x_ix, x_dget, x_sl, x_isi, x_dnew, x_xfld, x_mkx, x_mk0, x_isx, x_xfl, x_strx, x_tupr, x_nil, x_cons, x_onone, x_osome, x_tnone, x_tsome, x_knil, x_kcons, x_disp, x_lc, x_fsl, x_rev, x_cat, x_lis, x_val, x_rng, x_rng2, x_enum, x_zip, x_turn, x_comp, y_nil, y_cons, y_set, y_par, y_asg, y_setIx, y_setK, y_ex, y_ife, y_body, y_for, y_forW, y_turn, y_done, y_ret, y_retN, y_raise, y_pass, y_brk, y_cont, y_try, y_hs, kBin2, kBin1, kCmp2, kCmp1, kBool, kNot, kNeg, kCh3, kCh2, kCh1b, kCh1, kIsN, kNotN, kAnd, kOr, kIfe, kTup, kFrz, kMut, kCall, kCallk, kCallv, kBi, kMe2, kMe1, kAp3, kAp2, kAp1, kIx2, kIx1, kDg2, kDg1, kSl3, kSl2, kSl1, kIsi, kDnew, kTupr, kEs2, kEs1, kInt, kTst, kK4, kK3, kK2, kK1, kDisp, kLc, kFs4, kFs3, kFs2, kFs1, kRev2, kRev, kCat4, kCat3, kCat2, kCat1, kLis, kVal, kRng, kRng2b, kRng2, kEnum, kZip2, kZip1, kSome, kTn2, kTn1, jSeq, jSet, jPar, jAsg, jSx3, jSx2, jSx1, jSk3, jSk2, jSk1, jEx, jIf, jBody, jFor, jExc, kMkx, kIsx, kXfl, kStrx, bind_ok, bind_exc, bind_bad, then_ok, then_exc, then_bad, seq_next, seq_ret, seq_exc, seq_brk, seq_cont, seq_bad, optR_some, blR_some, slotR_some, condR_t, condR_f, condS_t, condS_f, condR_bl, condS_bl, join_and, join_or, bind_ite, then_ite, seq_ite, negR_int, notR_bl, boolR_bl, isNon_non, isNon_int, isNon_str, isNon_tup, isNon_lst, isNon_obj, sizR_0, sizR_1, sizR_2, sizR_3, sizR_4, sizR_5, sizR_6, sizR_7, sizR_8, sizR_ok, intR_int, tstR_bl, recvA_obj, recvL_lst, appR_obj, appL_ok, setKS_obj, setKO_str, setIxS_obj, valO_lst, valR_obj, recvS_str, xfR_ok, isxR_exv, xflR_exv, strxR_exv, tuprR_int, lstR_some, valR_lst, valR_tup, valR_ktup, valR_str, rngR_int, rng2R_int, enumR_lst, zipR_lst, zipR_tup, callvR_ok, noX_ok, noX_ite, noX_f, bindT_name, bindT_tup, bindT_ktup, bindTs_nil, bindTs_cons, wipe_nil, wipe_cons, envS_some, envB_some, loop_next, loop_cont, loop_brk, loop_ret, loop_exc, loop_ite, tryS_exc, tryS_ret, tryS_next, endH_ret, retS_next, retS_ret, retS_exc, retS_ite, setAll, o_isi_int_non, o_isi_int_bl, o_isi_int_int, o_isi_int_str, o_isi_int_tup, o_isi_int_ktup, o_isi_int_lst, o_isi_str_non, o_isi_str_bl, o_isi_str_int, o_isi_str_str, o_isi_str_tup, o_isi_str_ktup, o_isi_str_lst, o_isi_bool_non, o_isi_bool_bl, o_isi_bool_int, o_isi_bool_str, o_isi_bool_tup, o_isi_bool_ktup, o_isi_bool_lst, o_isi_tuple_non, o_isi_tuple_bl, o_isi_tuple_int, o_isi_tuple_str, o_isi_tuple_tup, o_isi_tuple_ktup, o_isi_tuple_lst, o_isi_list_non, o_isi_list_bl, o_isi_list_int, o_isi_list_str, o_isi_list_tup, o_isi_list_ktup, o_isi_list_lst, o_add_ii, o_sub_ii, o_add_ss, o_add_tt, o_add_ll, o_mul_il, o_mul_ir, o_pow_ii, o_dget, dictG_str, dictG_int, keyOf_s, keyOf_i, getset, dnewR_3, o_mod_ii, o_fdiv_ii, o_eq_int, o_eq_str, o_eq_bl, o_ne_int, o_ne_str, o_ne_bl, o_lt_i, o_le_i, o_gt_i, o_ge_i, o_in_s, o_nin_s, o_eq_d, o_ne_d, o_len_s, o_len_t, o_len_kt, o_len_l, o_tup_l, o_tup_t, oTup_l, oLen_l, oIx_l, oLst_l, o_tup_o, o_len_o, o_all, o_any, o_str_i, o_int_i, o_sum, o_join, o_join_t, o_split, atI_0, atI_1, atI_2, atI_3, o_ix_t, o_ix_kt, o_ix_l, o_ix_o, o_ix_s, o_sl_s, o_sl_t, o_sl_l, o_lof_l, o_sof_l, o_sof_t, o_lof_o, List.getElem?_cons_zero, List.getElem?_cons_succ, List.set_cons_zero, List.set_cons_succ, Option.bind_some, List.length_cons, List.length_nil, if_true, if_false, Bool.not_true, Bool.not_false, Bool.and_true, Bool.true_and, Bool.and_false, Bool.false_and, Bool.or_true, Bool.true_or, Bool.or_false, Bool.false_or, Bool.not_not, ite_true, ite_false, reduceIte, Nat.reduceAdd, Int.reduceAdd, Int.reduceSub, Int.reduceMod, Int.reduceMul, Nat.reduceLT, reduceCtorEq, startD, List.map_cons, List.map_nil, List.replicate_succ, List.replicate_zero, List.cons_append, List.nil_append, Nat.reduceSub, decide_true, decide_false, true_and, and_true, eq_self, Int.reduceEq, Int.reduceNe, Int.reduceLT, Int.reduceLE, Nat.reduceEqDiff, Int.reduceToNat, Nat.reduceLeDiff, List.length_map, signs_mp, join_opt, ne_nil_s, ne_nil_i, ne_nil_n, isEmpty_filt, upto_z, compL_nil, Int.toNat_natCast, id_eq, List.length_set, cst0, cst1, cst2, cst3, cst4, cst5, cst6, ne_eq, not_true_eq_false, not_false_eq_true, setKO_st, Int.zero_mul, Int.zero_add, List.set_set, upto_4, vl, vt, vc, pl, pt, stL_len, *])
theorem d_digit {fs : List Fd} {im id : Nat} (hm : fs[im]? = some fdMixed) (hd : fs[id]? = some (fdDigit im)) {n p B : Nat} {m : Int} {L : Store} (h : Dr p (B + 1) L) (h0 : 0 < m) (h1 : m < 1073741824) :
    ∃ d o, callF (evFn fs (n + 2)) id [.obj p, .int m] L = .ok (.int d) (L.set p o) ∧ 0 ≤ d ∧ d < m ∧ Dr p B (L.set p o) := by
  obtain ⟨hp, ⟨o, ho, le, ce, tu, rfl, ht, hb⟩, hs⟩ := h
  have em := fun c k a b => @d_mixed fs im hm n c k a b
  have key : ∃ d le' tu', evFn fs (n + 2) id [.obj p, .int m] L = .ok (.int d) (L.set p (.dK (stL le' ce tu'))) ∧ 0 ≤ d ∧ d < m ∧ 0 ≤ tu' ∧ tu' ≤ tu + 4 := by
    by_cases hz : le = 0
    · subst hz
      have c1 := em ce (tu + 1) (by omega) (by omega)
      have c2 := em ce (tu + 1 + 1) (by omega) (by omega)
      have c3 := em ce (tu + 1 + 1 + 1) (by omega) (by omega)
      have c4 := em ce (tu + 1 + 1 + 1 + 1) (by omega) (by omega)
      have t0 : 0 ≤ tu + 1 + 1 + 1 + 1 := by omega
      clear em hb ht
      refine ⟨bigV ce tu % m, bigV ce tu / m, tu + 1 + 1 + 1 + 1, run_to (fdDigit im) hd rfl ?_, Int.emod_nonneg _ (by omega), Int.emod_lt_of_pos _ h0, t0, by omega⟩
      unfold fdDigit bigV
      trivial
    · refine ⟨le % m, le / m, tu, run_to (fdDigit im) hd rfl ?_, Int.emod_nonneg _ (by omega), Int.emod_lt_of_pos _ h0, ht, by omega⟩
      clear em hb ht
      unfold fdDigit
      trivial
  obtain ⟨d, le', tu', e, d0, d1, t0, t1⟩ := key
  have hk : DrS B (.dK (stL le' ce tu')) := ⟨le', ce, tu', rfl, t0, by omega⟩
  refine ⟨d, .dK (stL le' ce tu'), ?_, d0, d1, ⟨by rw [List.length_set]; exact hp, ⟨_, List.getElem?_set_self hp, hk⟩, storeP_set hs hk.pure⟩⟩
  have := callF_imp (cf := evFn fs (n + 2)) (f := id) (xs := [.obj p, .int m]) (L := L) rfl e (by rw [take_set_self]; exact storeP_set hs hk.pure) rfl
  rw [take_set_self] at this
  exact this
theorem callK_of {cf : Nat → List D → M D} {f : Nat} {xs : List D} {k : Nat} {L1 : Store} {o : O} (p : purAll xs = true) (h : cf f xs [] = .ok (.obj k) L1) (ho : L1[k]? = some o) (po : o.pure = true) : ∀ L, callK cf f xs L = .ok (.obj L.length) (L ++ [o]) := by
  intro L
  unfold callK
  rw [if_pos p, h]
  simp only [ho, po, if_true]
theorem put0 {a : D} {k : _root_.L2.Key} : putK [] k a = [(k, a)] := by simp [putK, valK]
theorem put3 {a b c : Int} : putK (putK [((.inr (SX.S [108, 101, 102, 116]) : _root_.L2.Key), D.int a)] (.inr (SX.S [99, 101, 108, 108])) (.int b)) (.inr (SX.S [116, 117, 114, 110, 115])) (.int c) = stL a b c := by
  show putK (putK [(kLeft, D.int a)] kCell (.int b)) kTurn (.int c) = stL a b c
  simp [putK, valK, stL, kLC, kLT, kCT, kLC.symm, kLT.symm, kCT.symm]
local macro_rules | `(tactic| trivial) => `(tactic| simp (config := {contextual := true, maxSteps := 1000000, implicitDefEqProofs := false}) (disch := first | with_reducible assumption | omega | (simp only [List.length_map, List.length_set, upto_len, List.length_cons, List.length_nil, List.length_append, big, Bool.not_eq_true, Bool.not_eq_true', Bool.not_eq_false', Bool.and_eq_true, decide_eq_true_eq, decide_eq_false_iff_not] at *; omega)) only [x_slot, x_cst, x_glob, x_fnv, x_bin, x_neg, x_not, x_cmp, x_chain, x_isN, x_notN, x_and, x_or, x_ife, x_tup, x_frz, x_mut, x_call, x_callk, x_callv, x_bi, x_split, x_join, x_index, x_append, x_ix, x_dget, x_sl, x_isi, x_dnew, x_xfld, x_mkx, x_mk0, x_isx, x_xfl, x_strx, x_tupr, x_nil, x_cons, x_onone, x_osome, x_tnone, x_tsome, x_knil, x_kcons, x_disp, x_lc, x_fsl, x_rev, x_cat, x_lis, x_val, x_rng, x_rng2, x_enum, x_zip, x_turn, x_comp, y_nil, y_cons, y_set, y_par, y_asg, y_setIx, y_setK, y_ex, y_ife, y_body, y_for, y_forW, y_turn, y_done, y_ret, y_retN, y_raise, y_pass, y_brk, y_cont, y_try, y_hs, kBin2, kBin1, kCmp2, kCmp1, kBool, kNot, kNeg, kCh3, kCh2, kCh1b, kCh1, kIsN, kNotN, kAnd, kOr, kIfe, kTup, kFrz, kMut, kCall, kCallk, kCallv, kBi, kMe2, kMe1, kAp3, kAp2, kAp1, kIx2, kIx1, kDg2, kDg1, kSl3, kSl2, kSl1, kIsi, kDnew, kTupr, kEs2, kEs1, kInt, kTst, kK4, kK3, kK2, kK1, kDisp, kLc, kFs4, kFs3, kFs2, kFs1, kRev2, kRev, kCat4, kCat3, kCat2, kCat1, kLis, kVal, kRng, kRng2b, kRng2, kEnum, kZip2, kZip1, kSome, kTn2, kTn1, jSeq, jSet, jPar, jAsg, jSx3, jSx2, jSx1, jSk3, jSk2, jSk1, jEx, jIf, jBody, jFor, jExc, kMkx, kIsx, kXfl, kStrx, bind_ok, bind_exc, bind_bad, then_ok, then_exc, then_bad, seq_next, seq_ret, seq_exc, seq_brk, seq_cont, seq_bad, optR_some, blR_some, slotR_some, condR_t, condR_f, condS_t, condS_f, condR_bl, condS_bl, join_and, join_or, bind_ite, then_ite, seq_ite, negR_int, notR_bl, boolR_bl, isNon_non, isNon_int, isNon_str, isNon_tup, isNon_lst, isNon_obj, sizR_0, sizR_1, sizR_2, sizR_3, sizR_4, sizR_5, sizR_6, sizR_7, sizR_8, sizR_ok, intR_int, tstR_bl, recvA_obj, recvL_lst, appR_obj, appL_ok, setKS_obj, setKO_str, setIxS_obj, valO_lst, valR_obj, recvS_str, xfR_ok, isxR_exv, xflR_exv, strxR_exv, tuprR_int, lstR_some, valR_lst, valR_tup, valR_ktup, valR_str, rngR_int, rng2R_int, enumR_lst, zipR_lst, zipR_tup, callvR_ok, noX_ok, noX_ite, noX_f, bindT_name, bindT_tup, bindT_ktup, bindTs_nil, bindTs_cons, wipe_nil, wipe_cons, envS_some, envB_some, loop_next, loop_cont, loop_brk, loop_ret, loop_exc, loop_ite, tryS_exc, tryS_ret, tryS_next, endH_ret, retS_next, retS_ret, retS_exc, retS_ite, setAll, o_isi_int_non, o_isi_int_bl, o_isi_int_int, o_isi_int_str, o_isi_int_tup, o_isi_int_ktup, o_isi_int_lst, o_isi_str_non, o_isi_str_bl, o_isi_str_int, o_isi_str_str, o_isi_str_tup, o_isi_str_ktup, o_isi_str_lst, o_isi_bool_non, o_isi_bool_bl, o_isi_bool_int, o_isi_bool_str, o_isi_bool_tup, o_isi_bool_ktup, o_isi_bool_lst, o_isi_tuple_non, o_isi_tuple_bl, o_isi_tuple_int, o_isi_tuple_str, o_isi_tuple_tup, o_isi_tuple_ktup, o_isi_tuple_lst, o_isi_list_non, o_isi_list_bl, o_isi_list_int, o_isi_list_str, o_isi_list_tup, o_isi_list_ktup, o_isi_list_lst, o_add_ii, o_sub_ii, o_add_ss, o_add_tt, o_add_ll, o_mul_il, o_mul_ir, o_pow_ii, o_dget, dictG_str, dictG_int, keyOf_s, keyOf_i, getset, dnewR_3, o_mod_ii, o_fdiv_ii, o_eq_int, o_eq_str, o_eq_bl, o_ne_int, o_ne_str, o_ne_bl, o_lt_i, o_le_i, o_gt_i, o_ge_i, o_in_s, o_nin_s, o_eq_d, o_ne_d, o_len_s, o_len_t, o_len_kt, o_len_l, o_tup_l, o_tup_t, oTup_l, oLen_l, oIx_l, oLst_l, o_tup_o, o_len_o, o_all, o_any, o_str_i, o_int_i, o_sum, o_join, o_join_t, o_split, atI_0, atI_1, atI_2, atI_3, o_ix_t, o_ix_kt, o_ix_l, o_ix_o, o_ix_s, o_sl_s, o_sl_t, o_sl_l, o_lof_l, o_sof_l, o_sof_t, o_lof_o, List.getElem?_cons_zero, List.getElem?_cons_succ, List.set_cons_zero, List.set_cons_succ, Option.bind_some, List.length_cons, List.length_nil, if_true, if_false, Bool.not_true, Bool.not_false, Bool.and_true, Bool.true_and, Bool.and_false, Bool.false_and, Bool.or_true, Bool.true_or, Bool.or_false, Bool.false_or, Bool.not_not, ite_true, ite_false, reduceIte, Nat.reduceAdd, Int.reduceAdd, Int.reduceSub, Int.reduceMod, Int.reduceMul, Nat.reduceLT, reduceCtorEq, startD, List.map_cons, List.map_nil, List.replicate_succ, List.replicate_zero, List.cons_append, List.nil_append, Nat.reduceSub, decide_true, decide_false, true_and, and_true, eq_self, Int.reduceEq, Int.reduceNe, Int.reduceLT, Int.reduceLE, Nat.reduceEqDiff, Int.reduceToNat, Nat.reduceLeDiff, List.length_map, signs_mp, join_opt, ne_nil_s, ne_nil_i, ne_nil_n, isEmpty_filt, upto_z, compL_nil, Int.toNat_natCast, id_eq, List.length_set, cst0, cst1, cst2, cst3, cst4, cst5, cst6, ne_eq, not_true_eq_false, not_false_eq_true, setKO_st, Int.zero_mul, Int.zero_add, List.set_set, upto_4, vl, vt, vc, pl, pt, stL_len, put0, put3, *])
theorem d_draw {fs : List Fd} {ix : Nat} (hd : fs[ix]? = some fdDraw) {n B : Nat} {c k : Int} (h0 : 0 ≤ k) (h1 : k ≤ 1000) (hB : B ≤ 10000000000000) : ∃ o, (∀ L, callK (evFn fs (n + 1)) ix [.int c, .int k] L = .ok (.obj L.length) (L ++ [o])) ∧ DrS B o := by
  refine ⟨.dK (stL (if (10 : Int) ^ (18 : Int).toNat ≤ c then c else 0) c (1000 * k)), callK_of (L1 := [.dK (stL (if (10 : Int) ^ (18 : Int).toNat ≤ c then c else 0) c (1000 * k))]) (k := 0) rfl (run_to fdDraw hd rfl ?_) rfl rfl, _, _, _, rfl, by omega, by omega⟩
  have p3 : (10 : Int).natAbs < 18446744073709551616 := by decide
  unfold fdDraw
  by_cases hc : (10 : Int) ^ (18 : Int).toNat ≤ c
  · have hc' : (10 : Int) ^ 18 ≤ c := hc
    trivial
  · have hc' : ¬ (10 : Int) ^ 18 ≤ c := hc
    trivial
/-! ### comprehensions and loops that draw -/
theorem comp_stc {f : D → M (Option D)} {α β : Type} {k : α → D} {g : β → D} {I : Nat → Store → Prop} {Q : β → Prop} (c : Nat) : ∀ {l : List α} {n : Nat} {L : Store},
    (∀ a ∈ l, ∀ n L, I (n + c) L → ∃ x L', f (k a) L = .ok (some (g x)) L' ∧ I n L' ∧ Q x) → I (n + c * l.length) L →
    ∃ (xs : List β) (L' : Store), compL f (l.map k) L = .ok (xs.map g) L' ∧ I n L' ∧ xs.length = l.length ∧ ∀ x ∈ xs, Q x
  | [], n, L, h, hi => ⟨[], L, rfl, by simpa using hi, rfl, fun x hx => absurd hx (by simp)⟩
  | a :: l, n, L, h, hi => by
    obtain ⟨x, L1, e1, i1, q1⟩ := h a List.mem_cons_self (n + c * l.length) L (by rw [List.length_cons, Nat.mul_succ, ← Nat.add_assoc] at hi; exact hi)
    obtain ⟨xs, L2, e2, i2, l2, q2⟩ := comp_stc c (fun y hy => h y (List.mem_cons_of_mem _ hy)) i1
    refine ⟨x :: xs, L2, ?_, i2, by rw [List.length_cons, List.length_cons, l2], fun y hy => ?_⟩
    · rw [List.map_cons, compL_cons, e1]
      simp only [R.bind]
      rw [e2]
      rfl
    · rcases List.mem_cons.mp hy with rfl | hy
      · exact q1
      · exact q2 y hy
/-- with a test that draws: some of them stay -/
theorem comp_stf {f : D → M (Option D)} {α : Type} {k : α → D} {g : α → D} {I : Nat → Store → Prop} (c : Nat) : ∀ {l : List α} {n : Nat} {L : Store},
    (∀ a ∈ l, ∀ n L, I (n + c) L → ∃ (b : Bool) (L' : Store), f (k a) L = .ok (if b = true then some (g a) else none) L' ∧ I n L') → I (n + c * l.length) L →
    ∃ (xs : List α) (L' : Store), compL f (l.map k) L = .ok (xs.map g) L' ∧ I n L' ∧ xs.Sublist l
  | [], n, L, h, hi => ⟨[], L, rfl, by simpa using hi, List.Sublist.refl _⟩
  | a :: l, n, L, h, hi => by
    obtain ⟨b, L1, e1, i1⟩ := h a List.mem_cons_self (n + c * l.length) L (by rw [List.length_cons, Nat.mul_succ, ← Nat.add_assoc] at hi; exact hi)
    obtain ⟨xs, L2, e2, i2, q2⟩ := comp_stf c (fun y hy => h y (List.mem_cons_of_mem _ hy)) i1
    cases b with
    | true =>
      refine ⟨a :: xs, L2, ?_, i2, q2.cons_cons a⟩
      rw [List.map_cons, compL_cons, e1]
      simp only [R.bind, if_true]
      rw [e2]
      rfl
    | false =>
      refine ⟨xs, L2, ?_, i2, q2.cons a⟩
      rw [List.map_cons, compL_cons, e1]
      simp only [R.bind]
      rw [e2]
      rfl
/-- a loop that runs through, by turns -/
theorem for_stw {b : D → Env → Store → SR} {α : Type} {k : α → D} {I : List α → Nat → Env → Store → Prop} (c : Nat) {w : List α} (h : ∀ (d : List α) (a : α) (r : List α), w = d ++ a :: r → ∀ n ρ L, I d (n + c) ρ L → ∃ ρ' L', b (k a) ρ L = .next ρ' L' ∧ I (d ++ [a]) n ρ' L') : ∀ {l d : List α} {n : Nat} {ρ : Env} {L : Store}, w = d ++ l →
    I d (n + c * l.length) ρ L → ∃ ρ' L', forL b (l.map k) ρ L = .next ρ' L' ∧ I w n ρ' L'
  | [], d, n, ρ, L, hw, hi => ⟨ρ, L, rfl, by rw [hw, List.append_nil]; simpa using hi⟩
  | a :: l, d, n, ρ, L, hw, hi => by
    obtain ⟨ρ1, L1, e, i1⟩ := h d a l hw (n + c * l.length) ρ L (by rw [List.length_cons, Nat.mul_succ, ← Nat.add_assoc] at hi; exact hi)
    rw [List.map_cons, forL_cons, e]
    exact for_stw c h (l := l) (d := d ++ [a]) (by rw [hw, List.append_assoc]; rfl) i1
theorem for_st {b : D → Env → Store → SR} {α : Type} {k : α → D} {I : List α → Nat → Env → Store → Prop} (c : Nat) {w : List α} {n : Nat} {ρ : Env} {L : Store} (hi : I [] (n + c * w.length) ρ L) (h : ∀ (d : List α) (a : α) (r : List α), w = d ++ a :: r → ∀ n ρ L, I d (n + c) ρ L → ∃ ρ' L', b (k a) ρ L = .next ρ' L' ∧ I (d ++ [a]) n ρ' L') : ∃ ρ' L', forL b (w.map k) ρ L = .next ρ' L' ∧ I w n ρ' L' := for_stw c h rfl hi
/-- the caller's store but for the state -/
def DrF (p : Nat) (L0 : Store) (n : Nat) (L : Store) : Prop := (∃ o, L = L0.set p o) ∧ Dr p n L
theorem DrF.refl {p n : Nat} {L : Store} (h : Dr p n L) : DrF p L n L := by
  obtain ⟨o, ho, _⟩ := h.at_
  refine ⟨⟨o, ?_⟩, h⟩
  obtain ⟨hp, e⟩ := List.getElem?_eq_some_iff.mp ho
  rw [← e, List.set_getElem_self]
theorem DrF.step {p n m : Nat} {L0 L : Store} {o : O} (h : DrF p L0 n L) (k : Dr p m (L.set p o)) : DrF p L0 m (L.set p o) := by
  obtain ⟨⟨o', rfl⟩, _⟩ := h
  exact ⟨⟨o, List.set_set ..⟩, k⟩
theorem DrF.less {p n m : Nat} {L0 L : Store} (h : DrF p L0 n L) (k : m ≤ n) : DrF p L0 m L := ⟨h.1, h.2.less k⟩
theorem DrF.len {p n : Nat} {L0 L : Store} (h : DrF p L0 n L) : L.length = L0.length := by
  obtain ⟨⟨o, rfl⟩, _⟩ := h
  exact List.length_set
/-- a call that draws -/
theorem callF_dr {cf : Nat → List D → M D} {f p n : Nat} {xs : List D} {L L1 : Store} {d : D} (hp : purAll xs = false) (h : cf f xs L = .ok d L1) (hd : DrF p L n (L1.take L.length)) (pd : d.pure = true) : ∃ o, callF cf f xs L = .ok d (L.set p o) ∧ Dr p n (L.set p o) := by
  have := callF_imp hp h hd.2.pu pd
  obtain ⟨⟨o, e⟩, k⟩ := hd
  rw [e] at this k
  exact ⟨o, this, k⟩

end EV
end

section
namespace EV
open PySem
local macro_rules | `(tactic| trivial) => `(tactic| simp (config := {contextual := true, maxSteps := 1000000, implicitDefEqProofs := false}) (disch := first | with_reducible assumption | omega | (simp only [List.length_map, List.length_set, upto_len, List.length_cons, List.length_nil, List.length_append, big, Bool.not_eq_true, Bool.not_eq_true', Bool.not_eq_false', Bool.and_eq_true, decide_eq_true_eq, decide_eq_false_iff_not] at *; omega)) only [x_slot, x_cst, x_glob, x_fnv, x_bin, x_neg, x_not, x_cmp, x_chain, x_isN, x_notN, x_and, x_or, x_ife, x_tup, x_frz, x_mut, x_call, x_callk, x_callv, x_bi, x_split, x_join, x_index, x_append, x_ix, x_dget, x_sl, x_isi, x_dnew, x_xfld, x_mkx, x_mk0, x_isx, x_xfl, x_strx, x_tupr, x_nil, x_cons, x_onone, x_osome, x_tnone, x_tsome, x_knil, x_kcons, x_disp, x_lc, x_fsl, x_rev, x_cat, x_lis, x_val, x_rng, x_rng2, x_enum, x_zip, x_turn, x_comp, y_nil, y_cons, y_set, y_par, y_asg, y_setIx, y_setK, y_ex, y_ife, y_body, y_for, y_forW, y_turn, y_done, y_ret, y_retN, y_raise, y_pass, y_brk, y_cont, y_try, y_hs, kBin2, kBin1, kCmp2, kCmp1, kBool, kNot, kNeg, kCh3, kCh2, kCh1b, kCh1, kIsN, kNotN, kAnd, kOr, kIfe, kTup, kFrz, kMut, kCall, kCallk, kCallv, kBi, kMe2, kMe1, kAp3, kAp2, kAp1, kIx2, kIx1, kDg2, kDg1, kSl3, kSl2, kSl1, kIsi, kDnew, kTupr, kEs2, kEs1, kInt, kTst, kK4, kK3, kK2, kK1, kDisp, kLc, kFs4, kFs3, kFs2, kFs1, kRev2, kRev, kCat4, kCat3, kCat2, kCat1, kLis, kVal, kRng, kRng2b, kRng2, kEnum, kZip2, kZip1, kSome, kTn2, kTn1, jSeq, jSet, jPar, jAsg, jSx3, jSx2, jSx1, jSk3, jSk2, jSk1, jEx, jIf, jBody, jFor, jExc, kMkx, kIsx, kXfl, kStrx, bind_ok, bind_exc, bind_bad, then_ok, then_exc, then_bad, seq_next, seq_ret, seq_exc, seq_brk, seq_cont, seq_bad, optR_some, blR_some, slotR_some, condR_t, condR_f, condS_t, condS_f, condR_bl, condS_bl, join_and, join_or, bind_ite, then_ite, seq_ite, negR_int, notR_bl, boolR_bl, isNon_non, isNon_int, isNon_str, isNon_tup, isNon_lst, isNon_obj, sizR_0, sizR_1, sizR_2, sizR_3, sizR_4, sizR_5, sizR_6, sizR_7, sizR_8, sizR_ok, intR_int, tstR_bl, recvA_obj, recvL_lst, appR_obj, appL_ok, setKS_obj, setKO_str, setIxS_obj, valO_lst, valR_obj, recvS_str, xfR_ok, isxR_exv, xflR_exv, strxR_exv, tuprR_int, lstR_some, valR_lst, valR_tup, valR_ktup, valR_str, rngR_int, rng2R_int, enumR_lst, zipR_lst, zipR_tup, callvR_ok, noX_ok, noX_ite, noX_f, bindT_name, bindT_tup, bindT_ktup, bindTs_nil, bindTs_cons, wipe_nil, wipe_cons, envS_some, envB_some, loop_next, loop_cont, loop_brk, loop_ret, loop_exc, loop_ite, tryS_exc, tryS_ret, tryS_next, endH_ret, retS_next, retS_ret, retS_exc, retS_ite, setAll, o_isi_int_non, o_isi_int_bl, o_isi_int_int, o_isi_int_str, o_isi_int_tup, o_isi_int_ktup, o_isi_int_lst, o_isi_str_non, o_isi_str_bl, o_isi_str_int, o_isi_str_str, o_isi_str_tup, o_isi_str_ktup, o_isi_str_lst, o_isi_bool_non, o_isi_bool_bl, o_isi_bool_int, o_isi_bool_str, o_isi_bool_tup, o_isi_bool_ktup, o_isi_bool_lst, o_isi_tuple_non, o_isi_tuple_bl, o_isi_tuple_int, o_isi_tuple_str, o_isi_tuple_tup, o_isi_tuple_ktup, o_isi_tuple_lst, o_isi_list_non, o_isi_list_bl, o_isi_list_int, o_isi_list_str, o_isi_list_tup, o_isi_list_ktup, o_isi_list_lst, o_add_ii, o_sub_ii, o_add_ss, o_add_tt, o_add_ll, o_mul_il, o_mul_ir, o_pow_ii, o_dget, dictG_str, dictG_int, keyOf_s, keyOf_i, getset, dnewR_3, o_mod_ii, o_fdiv_ii, o_eq_int, o_eq_str, o_eq_bl, o_ne_int, o_ne_str, o_ne_bl, o_lt_i, o_le_i, o_gt_i, o_ge_i, o_in_s, o_nin_s, o_eq_d, o_ne_d, o_len_s, o_len_t, o_len_kt, o_len_l, o_tup_l, o_tup_t, oTup_l, oLen_l, oIx_l, oLst_l, o_tup_o, o_len_o, o_all, o_any, o_str_i, o_int_i, o_sum, o_join, o_join_t, o_split, atI_0, atI_1, atI_2, atI_3, o_ix_t, o_ix_kt, o_ix_l, o_ix_o, o_ix_s, o_sl_s, o_sl_t, o_sl_l, o_lof_l, o_sof_l, o_sof_t, o_lof_o, List.getElem?_cons_zero, List.getElem?_cons_succ, List.set_cons_zero, List.set_cons_succ, Option.bind_some, List.length_cons, List.length_nil, if_true, if_false, Bool.not_true, Bool.not_false, Bool.and_true, Bool.true_and, Bool.and_false, Bool.false_and, Bool.or_true, Bool.true_or, Bool.or_false, Bool.false_or, Bool.not_not, ite_true, ite_false, reduceIte, Nat.reduceAdd, Int.reduceAdd, Int.reduceSub, Int.reduceMod, Int.reduceMul, Nat.reduceLT, reduceCtorEq, startD, List.map_cons, List.map_nil, List.replicate_succ, List.replicate_zero, List.cons_append, List.nil_append, Nat.reduceSub, decide_true, decide_false, true_and, and_true, eq_self, Int.reduceEq, Int.reduceNe, Int.reduceLT, Int.reduceLE, Nat.reduceEqDiff, Int.reduceToNat, Nat.reduceLeDiff, List.length_map, signs_mp, join_opt, ne_nil_s, ne_nil_i, ne_nil_n, isEmpty_filt, upto_z, compL_nil, Int.toNat_natCast, id_eq, List.length_set, cst0, cst1, cst2, cst3, cst4, cst5, cst6, ne_eq, not_true_eq_false, not_false_eq_true, *])
local macro_rules | `(tactic| bv_omega) => `(tactic| (first | rfl | (simp [-List.all_eq_true] at *; done) | (simp [-List.all_eq_true] at *; omega) | (simp [-List.all_eq_true] at *; grind)))
def fdRows (id : Nat) : Fd := ⟨3, 5,
(.cons (.ret (.bi .tuple (.cons (.frz (.lc false (.bi .tuple (.cons (.frz (.lc true (.call id (.cons (.slot 0) (.cons (.slot 1) .nil))) (.name 4) (.val (.slot 2)) .none [4])) .nil)) (.name 3) (.range1 (.slot 1)) .none [3])) .nil)))
.nil)⟩
theorem callF_dr' {cf : Nat → List D → M D} {f p n : Nat} {xs : List D} {L L1 : Store} {d : D} (hp : purAll xs = false) (h : cf f xs L = .ok d L1) (hd : DrF p L n L1) (pd : d.pure = true) : ∃ o, callF cf f xs L = .ok d (L.set p o) ∧ Dr p n (L.set p o) := by
  refine callF_dr hp h ?_ pd
  rw [← hd.len, List.take_length]
  exact hd
theorem pur_ints (r : List Int) : (D.tup (r.map .int)).pure = true := pur_of _ (fun _ => rfl) _
theorem pur_rows (l : List (List Int)) : (D.tup (l.map fun r => .tup (r.map .int))).pure = true := pur_of _ (fun r => pur_ints r) _
theorem d_rows {fs : List Fd} {im id ir : Nat} (hm : fs[im]? = some fdMixed) (hd : fs[id]? = some (fdDigit im)) (hr : fs[ir]? = some (fdRows id)) {n p B many : Nat} {s : List Nat} {L : Store}
    (h : Dr p (B + s.length * many) L) (h0 : 0 < many) (h1 : many ≤ 1000) (hs : s.length ≤ 1000) :
    ∃ (l : List (List Int)) (o : O), callF (evFn fs (n + 3)) ir [.obj p, .int many, .str s] L = .ok (.tup (l.map fun r => .tup (r.map .int))) (L.set p o) ∧ Dr p B (L.set p o) ∧ l.length = many ∧ ∀ r ∈ l, r.length = s.length ∧ ∀ x ∈ r, 0 ≤ x ∧ x < many := by
  have inner : ∀ (i : Int) N L', DrF p L (N + s.length) L' → ∃ (r : List Int) (L'' : Store), compL (turnE (evFn fs (n + 2)) true (.call id (.cons (.slot 0) (.cons (.slot 1) .nil))) (.name 4) .none [4] [some (.obj p), some (.int many), some (.str s), some (.int i), none]) (s.map fun c => .str [c]) L' = .ok (r.map .int) L'' ∧ DrF p L N L'' ∧ r.length = s.length ∧ ∀ x ∈ r, 0 ≤ x ∧ x < many := by
    intro i N L' hL
    refine comp_stc (I := DrF p L) 1 (fun c hc N L' hI => ?_) (by rw [Nat.one_mul]; exact hL)
    obtain ⟨d, o, e, d0, d1, hD⟩ := d_digit hm hd (n := n) (m := (many : Int)) hI.2 (by omega) (by omega)
    refine ⟨d, L'.set p o, ?_, hI.step hD, d0, d1⟩
    trivial
  have outer : ∃ (l : List (List Int)) (L' : Store), compL (turnE (evFn fs (n + 2)) false (.bi .tuple (.cons (.frz (.lc true (.call id (.cons (.slot 0) (.cons (.slot 1) .nil))) (.name 4) (.val (.slot 2)) .none [4])) .nil)) (.name 3) .none [3] [some (.obj p), some (.int many), some (.str s), none, none]) (upto 0 many) L = .ok (l.map fun r => .tup (r.map .int)) L' ∧ DrF p L B L' ∧ l.length = many ∧ ∀ r ∈ l, r.length = s.length ∧ ∀ x ∈ r, 0 ≤ x ∧ x < many := by
    rw [upto0]
    have := comp_stc (f := turnE (evFn fs (n + 2)) false (.bi .tuple (.cons (.frz (.lc true (.call id (.cons (.slot 0) (.cons (.slot 1) .nil))) (.name 4) (.val (.slot 2)) .none [4])) .nil)) (.name 3) .none [3] [some (.obj p), some (.int many), some (.str s), none, none]) (k := fun i : Nat => D.int (i : Int)) (g := fun r : List Int => D.tup (r.map .int)) (I := DrF p L) (Q := fun r => r.length = s.length ∧ ∀ x ∈ r, 0 ≤ x ∧ x < (many : Int)) s.length (l := List.range many) (n := B) (L := L) (fun i hi N L' hI => ?_) (by rw [List.length_range]; exact DrF.refl h)
    · obtain ⟨xs, L', e, i, l, q⟩ := this
      exact ⟨xs, L', e, i, by rw [l, List.length_range], q⟩
    · obtain ⟨r, L'', e, i, l, q⟩ := inner (i : Int) N L' hI
      refine ⟨r, L'', ?_, i, l, q⟩
      trivial
  obtain ⟨l, L', e, hF, hl, q⟩ := outer
  obtain ⟨o, c, hD⟩ := callF_dr' (cf := evFn fs (n + 3)) (f := ir) (xs := [.obj p, .int many, .str s]) (L := L) rfl (run_to (fdRows id) hr rfl (Y := .ok (.tup (l.map fun r => .tup (r.map .int))) L') (by
    unfold fdRows
    trivial)) hF (pur_rows l)
  exact ⟨l, o, c, hD, hl, q⟩

end EV
end

section
namespace EV
open PySem
local macro_rules | `(tactic| trivial) => `(tactic| simp (config := {contextual := true, maxSteps := 1000000, implicitDefEqProofs := false}) (disch := first | with_reducible assumption | omega | (simp only [List.length_map, List.length_set, upto_len, List.length_cons, List.length_nil, List.length_append, big, Bool.not_eq_true, Bool.not_eq_true', Bool.not_eq_false', Bool.and_eq_true, decide_eq_true_eq, decide_eq_false_iff_not] at *; omega)) only [x_slot, x_cst, x_glob, x_fnv, x_bin, x_neg, x_not, x_cmp, x_chain, x_isN, x_notN, x_and, x_or, x_ife, x_tup, x_frz, x_mut, x_call, x_callk, x_callv, x_bi, x_split, x_join, x_index, x_append, x_ix, x_dget, x_sl, x_isi, x_dnew, x_xfld, x_mkx, x_mk0, x_isx, x_xfl, x_strx, x_tupr, x_nil, x_cons, x_onone, x_osome, x_tnone, x_tsome, x_knil, x_kcons, x_disp, x_lc, x_fsl, x_rev, x_cat, x_lis, x_val, x_rng, x_rng2, x_enum, x_zip, x_turn, x_comp, y_nil, y_cons, y_set, y_par, y_asg, y_setIx, y_setK, y_ex, y_ife, y_body, y_for, y_forW, y_turn, y_done, y_ret, y_retN, y_raise, y_pass, y_brk, y_cont, y_try, y_hs, kBin2, kBin1, kCmp2, kCmp1, kBool, kNot, kNeg, kCh3, kCh2, kCh1b, kCh1, kIsN, kNotN, kAnd, kOr, kIfe, kTup, kFrz, kMut, kCall, kCallk, kCallv, kBi, kMe2, kMe1, kAp3, kAp2, kAp1, kIx2, kIx1, kDg2, kDg1, kSl3, kSl2, kSl1, kIsi, kDnew, kTupr, kEs2, kEs1, kInt, kTst, kK4, kK3, kK2, kK1, kDisp, kLc, kFs4, kFs3, kFs2, kFs1, kRev2, kRev, kCat4, kCat3, kCat2, kCat1, kLis, kVal, kRng, kRng2b, kRng2, kEnum, kZip2, kZip1, kSome, kTn2, kTn1, jSeq, jSet, jPar, jAsg, jSx3, jSx2, jSx1, jSk3, jSk2, jSk1, jEx, jIf, jBody, jFor, jExc, kMkx, kIsx, kXfl, kStrx, bind_ok, bind_exc, bind_bad, then_ok, then_exc, then_bad, seq_next, seq_ret, seq_exc, seq_brk, seq_cont, seq_bad, optR_some, blR_some, slotR_some, condR_t, condR_f, condS_t, condS_f, condR_bl, condS_bl, join_and, join_or, bind_ite, then_ite, seq_ite, negR_int, notR_bl, boolR_bl, isNon_non, isNon_int, isNon_str, isNon_tup, isNon_lst, isNon_obj, sizR_0, sizR_1, sizR_2, sizR_3, sizR_4, sizR_5, sizR_6, sizR_7, sizR_8, sizR_ok, intR_int, tstR_bl, recvA_obj, recvL_lst, appR_obj, appL_ok, setKS_obj, setKO_str, setIxS_obj, valO_lst, valR_obj, recvS_str, xfR_ok, isxR_exv, xflR_exv, strxR_exv, tuprR_int, lstR_some, valR_lst, valR_tup, valR_ktup, valR_str, rngR_int, rng2R_int, enumR_lst, zipR_lst, zipR_tup, callvR_ok, noX_ok, noX_ite, noX_f, bindT_name, bindT_tup, bindT_ktup, bindTs_nil, bindTs_cons, wipe_nil, wipe_cons, envS_some, envB_some, loop_next, loop_cont, loop_brk, loop_ret, loop_exc, loop_ite, tryS_exc, tryS_ret, tryS_next, endH_ret, retS_next, retS_ret, retS_exc, retS_ite, setAll, o_isi_int_non, o_isi_int_bl, o_isi_int_int, o_isi_int_str, o_isi_int_tup, o_isi_int_ktup, o_isi_int_lst, o_isi_str_non, o_isi_str_bl, o_isi_str_int, o_isi_str_str, o_isi_str_tup, o_isi_str_ktup, o_isi_str_lst, o_isi_bool_non, o_isi_bool_bl, o_isi_bool_int, o_isi_bool_str, o_isi_bool_tup, o_isi_bool_ktup, o_isi_bool_lst, o_isi_tuple_non, o_isi_tuple_bl, o_isi_tuple_int, o_isi_tuple_str, o_isi_tuple_tup, o_isi_tuple_ktup, o_isi_tuple_lst, o_isi_list_non, o_isi_list_bl, o_isi_list_int, o_isi_list_str, o_isi_list_tup, o_isi_list_ktup, o_isi_list_lst, o_add_ii, o_sub_ii, o_add_ss, o_add_tt, o_add_ll, o_mul_il, o_mul_ir, o_pow_ii, o_dget, dictG_str, dictG_int, keyOf_s, keyOf_i, getset, dnewR_3, o_mod_ii, o_fdiv_ii, o_eq_int, o_eq_str, o_eq_bl, o_ne_int, o_ne_str, o_ne_bl, o_lt_i, o_le_i, o_gt_i, o_ge_i, o_in_s, o_nin_s, o_eq_d, o_ne_d, o_len_s, o_len_t, o_len_kt, o_len_l, o_tup_l, o_tup_t, oTup_l, oLen_l, oIx_l, oLst_l, o_tup_o, o_len_o, o_all, o_any, o_str_i, o_int_i, o_sum, o_join, o_join_t, o_split, atI_0, atI_1, atI_2, atI_3, o_ix_t, o_ix_kt, o_ix_l, o_ix_o, o_ix_s, o_sl_s, o_sl_t, o_sl_l, o_lof_l, o_sof_l, o_sof_t, o_lof_o, List.getElem?_cons_zero, List.getElem?_cons_succ, List.set_cons_zero, List.set_cons_succ, Option.bind_some, List.length_cons, List.length_nil, if_true, if_false, Bool.not_true, Bool.not_false, Bool.and_true, Bool.true_and, Bool.and_false, Bool.false_and, Bool.or_true, Bool.true_or, Bool.or_false, Bool.false_or, Bool.not_not, ite_true, ite_false, reduceIte, Nat.reduceAdd, Int.reduceAdd, Int.reduceSub, Int.reduceMod, Int.reduceMul, Nat.reduceLT, reduceCtorEq, startD, List.map_cons, List.map_nil, List.replicate_succ, List.replicate_zero, List.cons_append, List.nil_append, Nat.reduceSub, decide_true, decide_false, true_and, and_true, eq_self, Int.reduceEq, Int.reduceNe, Int.reduceLT, Int.reduceLE, Nat.reduceEqDiff, Int.reduceToNat, Nat.reduceLeDiff, List.length_map, signs_mp, join_opt, ne_nil_s, ne_nil_i, ne_nil_n, isEmpty_filt, upto_z, compL_nil, Int.toNat_natCast, id_eq, List.length_set, cst0, cst1, cst2, cst3, cst4, cst5, cst6, ne_eq, not_true_eq_false, not_false_eq_true, *])
local macro_rules | `(tactic| bv_omega) => `(tactic| (first | rfl | (simp [-List.all_eq_true] at *; done) | (simp [-List.all_eq_true] at *; omega) | (simp [-List.all_eq_true] at *; grind)))
/-! a comprehension over an object of the store that no turn changes -/
theorem compG_obj {f : D → M (Option D)} {α : Type} {k : α → D} {g : α → D} {p : α → Bool} {l : List α} {L : Store} {o : Nat} (hL : L[o]? = some (.lst (l.map k))) (h : ∀ a ∈ l, f (k a) L = .ok (if p a = true then some (g a) else none) L) :
    ∀ (n i : Nat), l.length - i < n → compG f (.obj o) n i L = .ok (((l.drop i).filter p).map g) L
  | 0, i, hn => absurd hn (Nat.not_lt_zero _)
  | n + 1, i, hn => by
    have hi : items (.obj o) L = some (l.map k) := by simp [items, listOf, hL]
    unfold compG
    rw [hi]
    simp only
    by_cases hl : i < l.length
    · have e : (l.map k)[i]? = some (k l[i]) := by rw [List.getElem?_map, List.getElem?_eq_getElem hl]; rfl
      rw [e]
      simp only
      rw [h _ (List.getElem_mem hl)]
      simp only [R.bind]
      rw [compG_obj hL h n (i + 1) (by omega)]
      rw [List.drop_eq_getElem_cons hl, List.filter_cons]
      cases p l[i] <;> rfl
    · have e : (l.map k)[i]? = none := by rw [List.getElem?_eq_none]; rw [List.length_map]; omega
      rw [e, List.drop_eq_nil_of_le (by omega)]
      rfl
theorem compW_obj {f : D → M (Option D)} {α : Type} {k : α → D} {g : α → D} {p : α → Bool} {l : List α} {L : Store} {o : Nat} (hL : L[o]? = some (.lst (l.map k))) (hl : l.length < 16777216) (h : ∀ a ∈ l, f (k a) L = .ok (if p a = true then some (g a) else none) L) :
    compW f (.obj o) L = .ok ((l.filter p).map g) L := by
  unfold compW smallW fuelW
  rw [if_pos rfl]
  have := compG_obj hL h big 0 (by unfold big; omega)
  rw [this, List.drop_zero]
/-! a comprehension over a written list, turn by turn -/
def kC2 (o : Option D) (r : List D) (L : Store) : R (List D) := .ok (match o with
  | some x => x :: r
  | none => r) L
def kC1 (f : D → M (Option D)) (ds : List D) (o : Option D) (L1 : Store) : R (List D) := (compL f ds L1).bind (kC2 o)
theorem compL_un {f : D → M (Option D)} {d : D} {ds : List D} {L : Store} : compL f (d :: ds) L = (f d L).bind (kC1 f ds) := rfl
theorem compL_un0 {f : D → M (Option D)} {L : Store} : compL f [] L = .ok [] L := rfl
theorem kC2_some {x : D} {r : List D} {L : Store} : kC2 (some x) r L = .ok (x :: r) L := rfl
theorem kC2_none {r : List D} {L : Store} : kC2 none r L = .ok r L := rfl
theorem o_str_s {L : Store} {a : List Nat} : biV L .str [.str a] = some (.str a) := rfl

end EV
end

section
namespace EV
open PySem
local macro_rules | `(tactic| trivial) => `(tactic| simp (config := {contextual := true, maxSteps := 1000000, implicitDefEqProofs := false}) (disch := first | with_reducible assumption | omega | (simp only [List.length_map, List.length_set, upto_len, List.length_cons, List.length_nil, List.length_append, big, Bool.not_eq_true, Bool.not_eq_true', Bool.not_eq_false', Bool.and_eq_true, decide_eq_true_eq, decide_eq_false_iff_not] at *; omega)) only [x_slot, x_cst, x_glob, x_fnv, x_bin, x_neg, x_not, x_cmp, x_chain, x_isN, x_notN, x_and, x_or, x_ife, x_tup, x_frz, x_mut, x_call, x_callk, x_callv, x_bi, x_split, x_join, x_index, x_append, x_ix, x_dget, x_sl, x_isi, x_dnew, x_xfld, x_mkx, x_mk0, x_isx, x_xfl, x_strx, x_tupr, x_nil, x_cons, x_onone, x_osome, x_tnone, x_tsome, x_knil, x_kcons, x_disp, x_lc, x_fsl, x_rev, x_cat, x_lis, x_val, x_rng, x_rng2, x_enum, x_zip, x_turn, x_comp, y_nil, y_cons, y_set, y_par, y_asg, y_setIx, y_setK, y_ex, y_ife, y_body, y_for, y_forW, y_turn, y_done, y_ret, y_retN, y_raise, y_pass, y_brk, y_cont, y_try, y_hs, kBin2, kBin1, kCmp2, kCmp1, kBool, kNot, kNeg, kCh3, kCh2, kCh1b, kCh1, kIsN, kNotN, kAnd, kOr, kIfe, kTup, kFrz, kMut, kCall, kCallk, kCallv, kBi, kMe2, kMe1, kAp3, kAp2, kAp1, kIx2, kIx1, kDg2, kDg1, kSl3, kSl2, kSl1, kIsi, kDnew, kTupr, kEs2, kEs1, kInt, kTst, kK4, kK3, kK2, kK1, kDisp, kLc, kFs4, kFs3, kFs2, kFs1, kRev2, kRev, kCat4, kCat3, kCat2, kCat1, kLis, kVal, kRng, kRng2b, kRng2, kEnum, kZip2, kZip1, kSome, kTn2, kTn1, jSeq, jSet, jPar, jAsg, jSx3, jSx2, jSx1, jSk3, jSk2, jSk1, jEx, jIf, jBody, jFor, jExc, kMkx, kIsx, kXfl, kStrx, bind_ok, bind_exc, bind_bad, then_ok, then_exc, then_bad, seq_next, seq_ret, seq_exc, seq_brk, seq_cont, seq_bad, optR_some, blR_some, slotR_some, condR_t, condR_f, condS_t, condS_f, condR_bl, condS_bl, join_and, join_or, bind_ite, then_ite, seq_ite, negR_int, notR_bl, boolR_bl, isNon_non, isNon_int, isNon_str, isNon_tup, isNon_lst, isNon_obj, sizR_0, sizR_1, sizR_2, sizR_3, sizR_4, sizR_5, sizR_6, sizR_7, sizR_8, sizR_ok, intR_int, tstR_bl, recvA_obj, recvL_lst, appR_obj, appL_ok, setKS_obj, setKO_str, setIxS_obj, valO_lst, valR_obj, recvS_str, xfR_ok, isxR_exv, xflR_exv, strxR_exv, tuprR_int, lstR_some, valR_lst, valR_tup, valR_ktup, valR_str, rngR_int, rng2R_int, enumR_lst, zipR_lst, zipR_tup, callvR_ok, noX_ok, noX_ite, noX_f, bindT_name, bindT_tup, bindT_ktup, bindTs_nil, bindTs_cons, wipe_nil, wipe_cons, envS_some, envB_some, loop_next, loop_cont, loop_brk, loop_ret, loop_exc, loop_ite, tryS_exc, tryS_ret, tryS_next, endH_ret, retS_next, retS_ret, retS_exc, retS_ite, setAll, o_isi_int_non, o_isi_int_bl, o_isi_int_int, o_isi_int_str, o_isi_int_tup, o_isi_int_ktup, o_isi_int_lst, o_isi_str_non, o_isi_str_bl, o_isi_str_int, o_isi_str_str, o_isi_str_tup, o_isi_str_ktup, o_isi_str_lst, o_isi_bool_non, o_isi_bool_bl, o_isi_bool_int, o_isi_bool_str, o_isi_bool_tup, o_isi_bool_ktup, o_isi_bool_lst, o_isi_tuple_non, o_isi_tuple_bl, o_isi_tuple_int, o_isi_tuple_str, o_isi_tuple_tup, o_isi_tuple_ktup, o_isi_tuple_lst, o_isi_list_non, o_isi_list_bl, o_isi_list_int, o_isi_list_str, o_isi_list_tup, o_isi_list_ktup, o_isi_list_lst, o_add_ii, o_sub_ii, o_add_ss, o_add_tt, o_add_ll, o_mul_il, o_mul_ir, o_pow_ii, o_dget, dictG_str, dictG_int, keyOf_s, keyOf_i, getset, dnewR_3, o_mod_ii, o_fdiv_ii, o_eq_int, o_eq_str, o_eq_bl, o_ne_int, o_ne_str, o_ne_bl, o_lt_i, o_le_i, o_gt_i, o_ge_i, o_in_s, o_nin_s, o_eq_d, o_ne_d, o_len_s, o_len_t, o_len_kt, o_len_l, o_tup_l, o_tup_t, oTup_l, oLen_l, oIx_l, oLst_l, o_tup_o, o_len_o, o_all, o_any, o_str_i, o_int_i, o_sum, o_join, o_join_t, o_split, atI_0, atI_1, atI_2, atI_3, o_ix_t, o_ix_kt, o_ix_l, o_ix_o, o_ix_s, o_sl_s, o_sl_t, o_sl_l, o_lof_l, o_sof_l, o_sof_t, o_lof_o, List.getElem?_cons_zero, List.getElem?_cons_succ, List.set_cons_zero, List.set_cons_succ, Option.bind_some, List.length_cons, List.length_nil, if_true, if_false, Bool.not_true, Bool.not_false, Bool.and_true, Bool.true_and, Bool.and_false, Bool.false_and, Bool.or_true, Bool.true_or, Bool.or_false, Bool.false_or, Bool.not_not, ite_true, ite_false, reduceIte, Nat.reduceAdd, Int.reduceAdd, Int.reduceSub, Int.reduceMod, Int.reduceMul, Nat.reduceLT, reduceCtorEq, startD, List.map_cons, List.map_nil, List.replicate_succ, List.replicate_zero, List.cons_append, List.nil_append, Nat.reduceSub, decide_true, decide_false, true_and, and_true, eq_self, Int.reduceEq, Int.reduceNe, Int.reduceLT, Int.reduceLE, Nat.reduceEqDiff, Int.reduceToNat, Nat.reduceLeDiff, List.length_map, signs_mp, join_opt, ne_nil_s, ne_nil_i, ne_nil_n, isEmpty_filt, upto_z, compL_nil, Int.toNat_natCast, id_eq, List.length_set, cst0, cst1, cst2, cst3, cst4, cst5, cst6, ne_eq, not_true_eq_false, not_false_eq_true, *])
local macro_rules | `(tactic| bv_omega) => `(tactic| (first | rfl | (simp [-List.all_eq_true] at *; done) | (simp [-List.all_eq_true] at *; omega) | (simp [-List.all_eq_true] at *; grind)))
/-! what is equal to itself -/
mutual
theorem eqv_self : ∀ (n : Nat) (d : D), d.shp n = true → d.eqv d = true
  | _, .non, _ => by simp [D.eqv]
  | _, .bl b, _ => by simp [D.eqv]
  | _, .int i, _ => by simp [D.eqv]
  | _, .str s, _ => by simp [D.eqv]
  | 0, .tup ds, h => by simp [D.shp] at h
  | 0, .lst ds, h => by simp [D.shp] at h
  | 0, .ktup ds, h => by simp [D.shp] at h
  | n + 1, .tup ds, h => by
    have := eqvAll_self n ds (by simpa [D.shp] using h)
    simpa [D.eqv] using this
  | n + 1, .lst ds, h => by
    have := eqvAll_self n ds (by simpa [D.shp] using h)
    simpa [D.eqv] using this
  | n + 1, .ktup ds, h => by
    have := eqvAll_self n ds (by simpa [D.shp] using h)
    simpa [D.eqv] using this
  | _, .obj _, h => by simp [D.shp] at h
  | _, .fn _, h => by simp [D.shp] at h
  | _, .exn _ _, h => by simp [D.shp] at h
  | _, .exv _ _ _ _, h => by simp [D.shp] at h
theorem eqvAll_self : ∀ (n : Nat) (ds : List D), shpAll n ds = true → eqvAll ds ds = true
  | _, [], _ => by simp [eqvAll]
  | n, d :: ds, h => by
    simp only [shpAll, Bool.and_eq_true] at h
    simp only [eqvAll, Bool.and_eq_true]
    exact ⟨eqv_self n d h.1, eqvAll_self n ds h.2⟩
end
theorem ne_self {L : Store} {d : D} (h : d.shp 64 = true) : cmpV L .ne d d = some false := by
  rw [o_ne_d h h, eqv_self 64 d h]; rfl
theorem eq_self_d {L : Store} {d : D} (h : d.shp 64 = true) : cmpV L .eq d d = some true := by
  rw [o_eq_d h h, eqv_self 64 d h]

end EV
end

section
namespace EV
open PySem
local macro_rules | `(tactic| trivial) => `(tactic| simp (config := {contextual := true, maxSteps := 1000000, implicitDefEqProofs := false}) (disch := first | with_reducible assumption | omega | (simp only [List.length_map, List.length_set, upto_len, List.length_cons, List.length_nil, List.length_append, big, Bool.not_eq_true, Bool.not_eq_true', Bool.not_eq_false', Bool.and_eq_true, decide_eq_true_eq, decide_eq_false_iff_not] at *; omega)) only [x_slot, x_cst, x_glob, x_fnv, x_bin, x_neg, x_not, x_cmp, x_chain, x_isN, x_notN, x_and, x_or, x_ife, x_tup, x_frz, x_mut, x_call, x_callk, x_callv, x_bi, x_split, x_join, x_index, x_append, x_ix, x_dget, x_sl, x_isi, x_dnew, x_xfld, x_mkx, x_mk0, x_isx, x_xfl, x_strx, x_tupr, x_nil, x_cons, x_onone, x_osome, x_tnone, x_tsome, x_knil, x_kcons, x_disp, x_lc, x_fsl, x_rev, x_cat, x_lis, x_val, x_rng, x_rng2, x_enum, x_zip, x_turn, x_comp, y_nil, y_cons, y_set, y_par, y_asg, y_setIx, y_setK, y_ex, y_ife, y_body, y_for, y_forW, y_turn, y_done, y_ret, y_retN, y_raise, y_pass, y_brk, y_cont, y_try, y_hs, kBin2, kBin1, kCmp2, kCmp1, kBool, kNot, kNeg, kCh3, kCh2, kCh1b, kCh1, kIsN, kNotN, kAnd, kOr, kIfe, kTup, kFrz, kMut, kCall, kCallk, kCallv, kBi, kMe2, kMe1, kAp3, kAp2, kAp1, kIx2, kIx1, kDg2, kDg1, kSl3, kSl2, kSl1, kIsi, kDnew, kTupr, kEs2, kEs1, kInt, kTst, kK4, kK3, kK2, kK1, kDisp, kLc, kFs4, kFs3, kFs2, kFs1, kRev2, kRev, kCat4, kCat3, kCat2, kCat1, kLis, kVal, kRng, kRng2b, kRng2, kEnum, kZip2, kZip1, kSome, kTn2, kTn1, jSeq, jSet, jPar, jAsg, jSx3, jSx2, jSx1, jSk3, jSk2, jSk1, jEx, jIf, jBody, jFor, jExc, kMkx, kIsx, kXfl, kStrx, bind_ok, bind_exc, bind_bad, then_ok, then_exc, then_bad, seq_next, seq_ret, seq_exc, seq_brk, seq_cont, seq_bad, optR_some, blR_some, slotR_some, condR_t, condR_f, condS_t, condS_f, condR_bl, condS_bl, join_and, join_or, bind_ite, then_ite, seq_ite, negR_int, notR_bl, boolR_bl, isNon_non, isNon_int, isNon_str, isNon_tup, isNon_lst, isNon_obj, sizR_0, sizR_1, sizR_2, sizR_3, sizR_4, sizR_5, sizR_6, sizR_7, sizR_8, sizR_ok, intR_int, tstR_bl, recvA_obj, recvL_lst, appR_obj, appL_ok, setKS_obj, setKO_str, setIxS_obj, valO_lst, valR_obj, recvS_str, xfR_ok, isxR_exv, xflR_exv, strxR_exv, tuprR_int, lstR_some, valR_lst, valR_tup, valR_ktup, valR_str, rngR_int, rng2R_int, enumR_lst, zipR_lst, zipR_tup, callvR_ok, noX_ok, noX_ite, noX_f, bindT_name, bindT_tup, bindT_ktup, bindTs_nil, bindTs_cons, wipe_nil, wipe_cons, envS_some, envB_some, loop_next, loop_cont, loop_brk, loop_ret, loop_exc, loop_ite, tryS_exc, tryS_ret, tryS_next, endH_ret, retS_next, retS_ret, retS_exc, retS_ite, setAll, o_isi_int_non, o_isi_int_bl, o_isi_int_int, o_isi_int_str, o_isi_int_tup, o_isi_int_ktup, o_isi_int_lst, o_isi_str_non, o_isi_str_bl, o_isi_str_int, o_isi_str_str, o_isi_str_tup, o_isi_str_ktup, o_isi_str_lst, o_isi_bool_non, o_isi_bool_bl, o_isi_bool_int, o_isi_bool_str, o_isi_bool_tup, o_isi_bool_ktup, o_isi_bool_lst, o_isi_tuple_non, o_isi_tuple_bl, o_isi_tuple_int, o_isi_tuple_str, o_isi_tuple_tup, o_isi_tuple_ktup, o_isi_tuple_lst, o_isi_list_non, o_isi_list_bl, o_isi_list_int, o_isi_list_str, o_isi_list_tup, o_isi_list_ktup, o_isi_list_lst, o_add_ii, o_sub_ii, o_add_ss, o_add_tt, o_add_ll, o_mul_il, o_mul_ir, o_pow_ii, o_dget, dictG_str, dictG_int, keyOf_s, keyOf_i, getset, dnewR_3, o_mod_ii, o_fdiv_ii, o_eq_int, o_eq_str, o_eq_bl, o_ne_int, o_ne_str, o_ne_bl, o_lt_i, o_le_i, o_gt_i, o_ge_i, o_in_s, o_nin_s, o_eq_d, o_ne_d, o_len_s, o_len_t, o_len_kt, o_len_l, o_tup_l, o_tup_t, oTup_l, oLen_l, oIx_l, oLst_l, o_tup_o, o_len_o, o_all, o_any, o_str_i, o_int_i, o_sum, o_join, o_join_t, o_split, atI_0, atI_1, atI_2, atI_3, o_ix_t, o_ix_kt, o_ix_l, o_ix_o, o_ix_s, o_sl_s, o_sl_t, o_sl_l, o_lof_l, o_sof_l, o_sof_t, o_lof_o, List.getElem?_cons_zero, List.getElem?_cons_succ, List.set_cons_zero, List.set_cons_succ, Option.bind_some, List.length_cons, List.length_nil, if_true, if_false, Bool.not_true, Bool.not_false, Bool.and_true, Bool.true_and, Bool.and_false, Bool.false_and, Bool.or_true, Bool.true_or, Bool.or_false, Bool.false_or, Bool.not_not, ite_true, ite_false, reduceIte, Nat.reduceAdd, Int.reduceAdd, Int.reduceSub, Int.reduceMod, Int.reduceMul, Nat.reduceLT, reduceCtorEq, startD, List.map_cons, List.map_nil, List.replicate_succ, List.replicate_zero, List.cons_append, List.nil_append, Nat.reduceSub, decide_true, decide_false, true_and, and_true, eq_self, Int.reduceEq, Int.reduceNe, Int.reduceLT, Int.reduceLE, Nat.reduceEqDiff, Int.reduceToNat, Nat.reduceLeDiff, List.length_map, signs_mp, join_opt, ne_nil_s, ne_nil_i, ne_nil_n, isEmpty_filt, upto_z, compL_nil, Int.toNat_natCast, id_eq, List.length_set, cst0, cst1, cst2, cst3, cst4, cst5, cst6, ne_eq, not_true_eq_false, not_false_eq_true, *])
local macro_rules | `(tactic| bv_omega) => `(tactic| (first | rfl | (simp [-List.all_eq_true] at *; done) | (simp [-List.all_eq_true] at *; omega) | (simp [-List.all_eq_true] at *; grind)))
/-! enumerate(script[:4] + [sum(script)]) -/
def pairsA (a : Int) : List Int → List (Int × Int)
  | [] => []
  | c :: r => (a, c) :: pairsA (a + 1) r
theorem numbered_pairs : ∀ (l : List Int) (a : Int), numbered a (l.map .int) = (pairsA a l).map fun q => .tup [.int q.1, .int q.2]
  | [], _ => rfl
  | c :: r, a => by rw [List.map_cons, numbered, numbered_pairs r (a + 1)]; rfl
theorem pairsA_mem : ∀ (l : List Int) (a : Int), ∀ q ∈ pairsA a l, a ≤ q.1 ∧ q.1 < a + l.length
  | [], _, q, h => by simp [pairsA] at h
  | c :: r, a, q, h => by
    rcases List.mem_cons.mp h with rfl | h
    · simp only [List.length_cons]; omega
    · have := pairsA_mem r (a + 1) q h
      simp only [List.length_cons]
      omega
theorem cutL_map {α β : Type} (g : α → β) (xs : List α) (lo hi : Option Int) : cutL (xs.map g) lo hi = (cutL xs lo hi).map g := by
  unfold cutL
  rw [List.length_map, ← List.map_drop, ← List.map_take]
theorem cutL_len {α : Type} (xs : List α) (lo hi : Option Int) : (cutL xs lo hi).length ≤ xs.length := by
  unfold cutL
  rw [List.length_take, List.length_drop]
  omega

end EV
end

section
namespace EV
open PySem
local macro_rules | `(tactic| trivial) => `(tactic| simp (config := {contextual := true, maxSteps := 1000000, implicitDefEqProofs := false}) (disch := first | with_reducible assumption | omega | (simp only [List.length_map, List.length_set, upto_len, List.length_cons, List.length_nil, List.length_append, big, Bool.not_eq_true, Bool.not_eq_true', Bool.not_eq_false', Bool.and_eq_true, decide_eq_true_eq, decide_eq_false_iff_not] at *; omega)) only [x_slot, x_cst, x_glob, x_fnv, x_bin, x_neg, x_not, x_cmp, x_chain, x_isN, x_notN, x_and, x_or, x_ife, x_tup, x_frz, x_mut, x_call, x_callk, x_callv, x_bi, x_split, x_join, x_index, x_append, x_ix, x_dget, x_sl, x_isi, x_dnew, x_xfld, x_mkx, x_mk0, x_isx, x_xfl, x_strx, x_tupr, x_nil, x_cons, x_onone, x_osome, x_tnone, x_tsome, x_knil, x_kcons, x_disp, x_lc, x_fsl, x_rev, x_cat, x_lis, x_val, x_rng, x_rng2, x_enum, x_zip, x_turn, x_comp, y_nil, y_cons, y_set, y_par, y_asg, y_setIx, y_setK, y_ex, y_ife, y_body, y_for, y_forW, y_turn, y_done, y_ret, y_retN, y_raise, y_pass, y_brk, y_cont, y_try, y_hs, kBin2, kBin1, kCmp2, kCmp1, kBool, kNot, kNeg, kCh3, kCh2, kCh1b, kCh1, kIsN, kNotN, kAnd, kOr, kIfe, kTup, kFrz, kMut, kCall, kCallk, kCallv, kBi, kMe2, kMe1, kAp3, kAp2, kAp1, kIx2, kIx1, kDg2, kDg1, kSl3, kSl2, kSl1, kIsi, kDnew, kTupr, kEs2, kEs1, kInt, kTst, kK4, kK3, kK2, kK1, kDisp, kLc, kFs4, kFs3, kFs2, kFs1, kRev2, kRev, kCat4, kCat3, kCat2, kCat1, kLis, kVal, kRng, kRng2b, kRng2, kEnum, kZip2, kZip1, kSome, kTn2, kTn1, jSeq, jSet, jPar, jAsg, jSx3, jSx2, jSx1, jSk3, jSk2, jSk1, jEx, jIf, jBody, jFor, jExc, kMkx, kIsx, kXfl, kStrx, bind_ok, bind_exc, bind_bad, then_ok, then_exc, then_bad, seq_next, seq_ret, seq_exc, seq_brk, seq_cont, seq_bad, optR_some, blR_some, slotR_some, condR_t, condR_f, condS_t, condS_f, condR_bl, condS_bl, join_and, join_or, bind_ite, then_ite, seq_ite, negR_int, notR_bl, boolR_bl, isNon_non, isNon_int, isNon_str, isNon_tup, isNon_lst, isNon_obj, sizR_0, sizR_1, sizR_2, sizR_3, sizR_4, sizR_5, sizR_6, sizR_7, sizR_8, sizR_ok, intR_int, tstR_bl, recvA_obj, recvL_lst, appR_obj, appL_ok, setKS_obj, setKO_str, setIxS_obj, valO_lst, valR_obj, recvS_str, xfR_ok, isxR_exv, xflR_exv, strxR_exv, tuprR_int, lstR_some, valR_lst, valR_tup, valR_ktup, valR_str, rngR_int, rng2R_int, enumR_lst, zipR_lst, zipR_tup, callvR_ok, noX_ok, noX_ite, noX_f, bindT_name, bindT_tup, bindT_ktup, bindTs_nil, bindTs_cons, wipe_nil, wipe_cons, envS_some, envB_some, loop_next, loop_cont, loop_brk, loop_ret, loop_exc, loop_ite, tryS_exc, tryS_ret, tryS_next, endH_ret, retS_next, retS_ret, retS_exc, retS_ite, setAll, o_isi_int_non, o_isi_int_bl, o_isi_int_int, o_isi_int_str, o_isi_int_tup, o_isi_int_ktup, o_isi_int_lst, o_isi_str_non, o_isi_str_bl, o_isi_str_int, o_isi_str_str, o_isi_str_tup, o_isi_str_ktup, o_isi_str_lst, o_isi_bool_non, o_isi_bool_bl, o_isi_bool_int, o_isi_bool_str, o_isi_bool_tup, o_isi_bool_ktup, o_isi_bool_lst, o_isi_tuple_non, o_isi_tuple_bl, o_isi_tuple_int, o_isi_tuple_str, o_isi_tuple_tup, o_isi_tuple_ktup, o_isi_tuple_lst, o_isi_list_non, o_isi_list_bl, o_isi_list_int, o_isi_list_str, o_isi_list_tup, o_isi_list_ktup, o_isi_list_lst, o_add_ii, o_sub_ii, o_add_ss, o_add_tt, o_add_ll, o_mul_il, o_mul_ir, o_pow_ii, o_dget, dictG_str, dictG_int, keyOf_s, keyOf_i, getset, dnewR_3, o_mod_ii, o_fdiv_ii, o_eq_int, o_eq_str, o_eq_bl, o_ne_int, o_ne_str, o_ne_bl, o_lt_i, o_le_i, o_gt_i, o_ge_i, o_in_s, o_nin_s, o_eq_d, o_ne_d, o_len_s, o_len_t, o_len_kt, o_len_l, o_tup_l, o_tup_t, oTup_l, oLen_l, oIx_l, oLst_l, o_tup_o, o_len_o, o_all, o_any, o_str_i, o_int_i, o_sum, o_join, o_join_t, o_split, atI_0, atI_1, atI_2, atI_3, o_ix_t, o_ix_kt, o_ix_l, o_ix_o, o_ix_s, o_sl_s, o_sl_t, o_sl_l, o_lof_l, o_sof_l, o_sof_t, o_lof_o, List.getElem?_cons_zero, List.getElem?_cons_succ, List.set_cons_zero, List.set_cons_succ, Option.bind_some, List.length_cons, List.length_nil, if_true, if_false, Bool.not_true, Bool.not_false, Bool.and_true, Bool.true_and, Bool.and_false, Bool.false_and, Bool.or_true, Bool.true_or, Bool.or_false, Bool.false_or, Bool.not_not, ite_true, ite_false, reduceIte, Nat.reduceAdd, Int.reduceAdd, Int.reduceSub, Int.reduceMod, Int.reduceMul, Nat.reduceLT, reduceCtorEq, startD, List.map_cons, List.map_nil, List.replicate_succ, List.replicate_zero, List.cons_append, List.nil_append, Nat.reduceSub, decide_true, decide_false, true_and, and_true, eq_self, Int.reduceEq, Int.reduceNe, Int.reduceLT, Int.reduceLE, Nat.reduceEqDiff, Int.reduceToNat, Nat.reduceLeDiff, List.length_map, signs_mp, join_opt, ne_nil_s, ne_nil_i, ne_nil_n, isEmpty_filt, upto_z, compL_nil, Int.toNat_natCast, id_eq, List.length_set, cst0, cst1, cst2, cst3, cst4, cst5, cst6, ne_eq, not_true_eq_false, not_false_eq_true, *])
local macro_rules | `(tactic| bv_omega) => `(tactic| (first | rfl | (simp [-List.all_eq_true] at *; done) | (simp [-List.all_eq_true] at *; omega) | (simp [-List.all_eq_true] at *; grind)))
theorem f990 : fs99[0]? = some fdMixed := rfl
theorem f991 : fs99[1]? = some fdDraw := rfl
theorem f992 : fs99[2]? = some (fdDigit 0) := rfl
def kp (c : Nat) : List (List Nat × Bool) := [
  ([66, 97, 100, 66, 111, 97, 114, 100], ([false, false, true, false, false, false, false, false, false, false, false, false, false, false, false, false, false] : List Bool).getD c false),
  ([66, 97, 100, 66, 111, 111, 107], ([false, false, false, false, false, true, false, false, false, false, false, false, false, false, false, false, false] : List Bool).getD c false),
  ([66, 97, 100, 68, 101, 101, 100], ([false, false, false, false, false, false, false, false, false, false, false, false, false, false, true, false, false] : List Bool).getD c false),
  ([66, 97, 100, 68, 105, 114, 101, 99, 116, 105, 111, 110], ([false, false, false, true, false, false, false, false, false, false, false, false, false, false, false, false, false] : List Bool).getD c false),
  ([66, 97, 100, 71, 97, 109, 101], ([false, false, false, false, false, false, false, true, false, false, false, false, false, false, false, false, false] : List Bool).getD c false),
  ([66, 97, 100, 71, 117, 97, 114, 100], ([false, false, false, false, false, false, true, false, false, false, false, false, false, false, false, false, false] : List Bool).getD c false),
  ([66, 97, 100, 76, 105, 110, 101], ([false, true, false, false, false, false, false, false, false, false, false, false, false, false, false, false, false] : List Bool).getD c false),
  ([66, 97, 100, 77, 97, 99, 104, 105, 110, 101], ([false, false, false, false, true, false, false, false, false, false, false, false, false, false, false, false, false] : List Bool).getD c false),
  ([66, 97, 100, 77, 111, 100, 115], ([false, false, false, false, false, false, false, false, false, false, false, false, true, false, false, false, false] : List Bool).getD c false),
  ([66, 97, 100, 78, 117, 109, 98, 101, 114], ([false, false, false, false, false, false, false, false, false, false, false, true, false, false, false, false, false] : List Bool).getD c false),
  ([66, 97, 100, 80, 97, 112, 101, 114], ([false, false, false, false, false, false, false, false, false, true, false, false, false, false, false, false, false] : List Bool).getD c false),
  ([66, 97, 100, 83, 97, 109, 112, 108, 101], ([false, false, false, false, false, false, false, false, false, false, false, false, false, true, false, false, false] : List Bool).getD c false),
  ([66, 97, 100, 83, 105, 103, 110, 115], ([true, false, false, false, false, false, false, false, false, false, false, false, false, false, false, false, false] : List Bool).getD c false),
  ([66, 97, 100, 84, 101, 120, 116], ([false, false, false, false, false, false, false, false, false, false, true, false, false, false, false, false, false] : List Bool).getD c false),
  ([66, 97, 100, 87, 101, 105, 103, 104, 116, 115], ([false, false, false, false, false, false, false, false, true, false, false, false, false, false, false, false, false] : List Bool).getD c false),
  ([78, 111, 83, 117, 99, 104], ([false, false, false, false, false, false, false, false, false, false, false, false, false, false, false, false, true] : List Bool).getD c false),
  ([84, 111, 111, 77, 97, 110, 121], ([false, false, false, false, false, false, false, false, false, false, false, false, false, false, false, true, false] : List Bool).getD c false),
  ([112, 108, 97, 121], ([true, true, true, true, true, true, true, true, true, true, true, true, true, true, true, false, false] : List Bool).getD c false),
  ([118, 97, 108, 117, 101], ([true, true, true, true, true, true, true, true, true, true, true, true, true, true, true, false, false] : List Bool).getD c false),
  ([108, 111, 111, 107, 117, 112], ([false, false, false, false, false, false, false, false, false, false, false, false, false, false, false, false, true] : List Bool).getD c false),
  ([111, 118, 101, 114, 102, 108, 111, 119], ([false, false, false, false, false, false, false, false, false, false, false, false, false, false, false, true, false] : List Bool).getD c false)]
theorem s_k1 {n c : Nat} {f : Str} {m : List Nat} {d : D} (hc : c < 17) : ∃ L1, evFn fs99 (n + 1) 3 [.exv c f m d] [] = .ok (.lst (((kp c).filter (·.2)).map fun p => .str p.1)) L1 := by
  apply Exists.intro
  refine run_to P99_3 rfl rfl ?_
  unfold P99_3
  trivial
  rw [compW_obj (l := kp c) (k := fun p => .tup [.str p.1, .bl p.2]) (g := fun p => .str p.1) (p := (·.2)) (by unfold kp; rfl) (by unfold kp; simp only [List.length_cons, List.length_nil]; omega) fun a _ => ?_]
  · trivial
    rfl
  · obtain ⟨w, b⟩ := a
    trivial
theorem pur_strs {l : List (List Nat × Bool)} : (D.lst ((l.filter (·.2)).map fun p => .str p.1)).pure = true := by
  show purAll _ = true
  exact pur_of _ (fun _ => rfl) _
theorem s_3 {n c : Nat} {f : Str} {m : List Nat} {d : D} (hc : c < 17) (hd : d.pure = true) : ∀ L, callF (evFn fs99 (n + 1)) 3 [.exv c f m d] L = .ok (.lst (((kp c).filter (·.2)).map fun p => .str p.1)) L := by
  obtain ⟨L1, h⟩ := @s_k1 n c f m d hc
  exact callF_of h (by simp [purAll, D.pure, hd]) pur_strs

end EV
end

section
namespace EV
open PySem
local macro_rules | `(tactic| trivial) => `(tactic| simp (config := {contextual := true, maxSteps := 1000000, implicitDefEqProofs := false}) (disch := first | with_reducible assumption | omega | (simp only [List.length_map, List.length_set, upto_len, List.length_cons, List.length_nil, List.length_append, big, Bool.not_eq_true, Bool.not_eq_true', Bool.not_eq_false', Bool.and_eq_true, decide_eq_true_eq, decide_eq_false_iff_not] at *; omega)) only [x_slot, x_cst, x_glob, x_fnv, x_bin, x_neg, x_not, x_cmp, x_chain, x_isN, x_notN, x_and, x_or, x_ife, x_tup, x_frz, x_mut, x_call, x_callk, x_callv, x_bi, x_split, x_join, x_index, x_append, x_ix, x_dget, x_sl, x_isi, x_dnew, x_xfld, x_mkx, x_mk0, x_isx, x_xfl, x_strx, x_tupr, x_nil, x_cons, x_onone, x_osome, x_tnone, x_tsome, x_knil, x_kcons, x_disp, x_lc, x_fsl, x_rev, x_cat, x_lis, x_val, x_rng, x_rng2, x_enum, x_zip, x_turn, x_comp, y_nil, y_cons, y_set, y_par, y_asg, y_setIx, y_setK, y_ex, y_ife, y_body, y_for, y_forW, y_turn, y_done, y_ret, y_retN, y_raise, y_pass, y_brk, y_cont, y_try, y_hs, kBin2, kBin1, kCmp2, kCmp1, kBool, kNot, kNeg, kCh3, kCh2, kCh1b, kCh1, kIsN, kNotN, kAnd, kOr, kIfe, kTup, kFrz, kMut, kCall, kCallk, kCallv, kBi, kMe2, kMe1, kAp3, kAp2, kAp1, kIx2, kIx1, kDg2, kDg1, kSl3, kSl2, kSl1, kIsi, kDnew, kTupr, kEs2, kEs1, kInt, kTst, kK4, kK3, kK2, kK1, kDisp, kLc, kFs4, kFs3, kFs2, kFs1, kRev2, kRev, kCat4, kCat3, kCat2, kCat1, kLis, kVal, kRng, kRng2b, kRng2, kEnum, kZip2, kZip1, kSome, kTn2, kTn1, jSeq, jSet, jPar, jAsg, jSx3, jSx2, jSx1, jSk3, jSk2, jSk1, jEx, jIf, jBody, jFor, jExc, kMkx, kIsx, kXfl, kStrx, bind_ok, bind_exc, bind_bad, then_ok, then_exc, then_bad, seq_next, seq_ret, seq_exc, seq_brk, seq_cont, seq_bad, optR_some, blR_some, slotR_some, condR_t, condR_f, condS_t, condS_f, condR_bl, condS_bl, join_and, join_or, bind_ite, then_ite, seq_ite, negR_int, notR_bl, boolR_bl, isNon_non, isNon_int, isNon_str, isNon_tup, isNon_lst, isNon_obj, sizR_0, sizR_1, sizR_2, sizR_3, sizR_4, sizR_5, sizR_6, sizR_7, sizR_8, sizR_ok, intR_int, tstR_bl, recvA_obj, recvL_lst, appR_obj, appL_ok, setKS_obj, setKO_str, setIxS_obj, valO_lst, valR_obj, recvS_str, xfR_ok, isxR_exv, xflR_exv, strxR_exv, tuprR_int, lstR_some, valR_lst, valR_tup, valR_ktup, valR_str, rngR_int, rng2R_int, enumR_lst, zipR_lst, zipR_tup, callvR_ok, noX_ok, noX_ite, noX_f, bindT_name, bindT_tup, bindT_ktup, bindTs_nil, bindTs_cons, wipe_nil, wipe_cons, envS_some, envB_some, loop_next, loop_cont, loop_brk, loop_ret, loop_exc, loop_ite, tryS_exc, tryS_ret, tryS_next, endH_ret, retS_next, retS_ret, retS_exc, retS_ite, setAll, o_isi_int_non, o_isi_int_bl, o_isi_int_int, o_isi_int_str, o_isi_int_tup, o_isi_int_ktup, o_isi_int_lst, o_isi_str_non, o_isi_str_bl, o_isi_str_int, o_isi_str_str, o_isi_str_tup, o_isi_str_ktup, o_isi_str_lst, o_isi_bool_non, o_isi_bool_bl, o_isi_bool_int, o_isi_bool_str, o_isi_bool_tup, o_isi_bool_ktup, o_isi_bool_lst, o_isi_tuple_non, o_isi_tuple_bl, o_isi_tuple_int, o_isi_tuple_str, o_isi_tuple_tup, o_isi_tuple_ktup, o_isi_tuple_lst, o_isi_list_non, o_isi_list_bl, o_isi_list_int, o_isi_list_str, o_isi_list_tup, o_isi_list_ktup, o_isi_list_lst, o_add_ii, o_sub_ii, o_add_ss, o_add_tt, o_add_ll, o_mul_il, o_mul_ir, o_pow_ii, o_dget, dictG_str, dictG_int, keyOf_s, keyOf_i, getset, dnewR_3, o_mod_ii, o_fdiv_ii, o_eq_int, o_eq_str, o_eq_bl, o_ne_int, o_ne_str, o_ne_bl, o_lt_i, o_le_i, o_gt_i, o_ge_i, o_in_s, o_nin_s, o_eq_d, o_ne_d, o_len_s, o_len_t, o_len_kt, o_len_l, o_tup_l, o_tup_t, oTup_l, oLen_l, oIx_l, oLst_l, o_tup_o, o_len_o, o_all, o_any, o_str_i, o_int_i, o_sum, o_join, o_join_t, o_split, atI_0, atI_1, atI_2, atI_3, o_ix_t, o_ix_kt, o_ix_l, o_ix_o, o_ix_s, o_sl_s, o_sl_t, o_sl_l, o_lof_l, o_sof_l, o_sof_t, o_lof_o, List.getElem?_cons_zero, List.getElem?_cons_succ, List.set_cons_zero, List.set_cons_succ, Option.bind_some, List.length_cons, List.length_nil, if_true, if_false, Bool.not_true, Bool.not_false, Bool.and_true, Bool.true_and, Bool.and_false, Bool.false_and, Bool.or_true, Bool.true_or, Bool.or_false, Bool.false_or, Bool.not_not, ite_true, ite_false, reduceIte, Nat.reduceAdd, Int.reduceAdd, Int.reduceSub, Int.reduceMod, Int.reduceMul, Nat.reduceLT, reduceCtorEq, startD, List.map_cons, List.map_nil, List.replicate_succ, List.replicate_zero, List.cons_append, List.nil_append, Nat.reduceSub, decide_true, decide_false, true_and, and_true, eq_self, Int.reduceEq, Int.reduceNe, Int.reduceLT, Int.reduceLE, Nat.reduceEqDiff, Int.reduceToNat, Nat.reduceLeDiff, List.length_map, signs_mp, join_opt, ne_nil_s, ne_nil_i, ne_nil_n, isEmpty_filt, upto_z, compL_nil, Int.toNat_natCast, id_eq, List.length_set, cst0, cst1, cst2, cst3, cst4, cst5, cst6, ne_eq, not_true_eq_false, not_false_eq_true, *])
local macro_rules | `(tactic| bv_omega) => `(tactic| (first | rfl | (simp [-List.all_eq_true] at *; done) | (simp [-List.all_eq_true] at *; omega) | (simp [-List.all_eq_true] at *; grind)))
/-- a row of _law_valued, of _law_placed: class, message, name -/
structure Rw where
  c : Nat
  m : List Nat
  w : List Nat
def vls : List Rw := [⟨0, [110, 111, 32, 115, 117, 99, 104, 32, 115, 105, 103, 110, 115], [66, 97, 100, 83, 105, 103, 110, 115]⟩, ⟨1, [110, 111, 32, 115, 117, 99, 104, 32, 108, 105, 110, 101], [66, 97, 100, 76, 105, 110, 101]⟩, ⟨2, [110, 111, 32, 115, 117, 99, 104, 32, 98, 111, 97, 114, 100], [66, 97, 100, 66, 111, 97, 114, 100]⟩, ⟨3, [110, 111, 32, 115, 117, 99, 104, 32, 100, 105, 114, 101, 99, 116, 105, 111, 110], [66, 97, 100, 68, 105, 114, 101, 99, 116, 105, 111, 110]⟩, ⟨11, [110, 111, 32, 115, 117, 99, 104, 32, 110, 117, 109, 98, 101, 114], [66, 97, 100, 78, 117, 109, 98, 101, 114]⟩]
def pls : List Rw := [⟨4, [110, 111, 32, 115, 117, 99, 104, 32, 109, 97, 99, 104, 105, 110, 101], [66, 97, 100, 77, 97, 99, 104, 105, 110, 101]⟩, ⟨5, [110, 111, 32, 115, 117, 99, 104, 32, 98, 111, 111, 107], [66, 97, 100, 66, 111, 111, 107]⟩, ⟨6, [110, 111, 32, 115, 117, 99, 104, 32, 103, 117, 97, 114, 100], [66, 97, 100, 71, 117, 97, 114, 100]⟩, ⟨7, [110, 111, 32, 115, 117, 99, 104, 32, 103, 97, 109, 101], [66, 97, 100, 71, 97, 109, 101]⟩, ⟨8, [110, 111, 32, 115, 117, 99, 104, 32, 119, 101, 105, 103, 104, 116, 115], [66, 97, 100, 87, 101, 105, 103, 104, 116, 115]⟩, ⟨9, [110, 111, 32, 115, 117, 99, 104, 32, 112, 97, 112, 101, 114], [66, 97, 100, 80, 97, 112, 101, 114]⟩, ⟨10, [110, 111, 32, 115, 117, 99, 104, 32, 116, 101, 120, 116], [66, 97, 100, 84, 101, 120, 116]⟩, ⟨12, [110, 111, 32, 115, 117, 99, 104, 32, 109, 111, 100, 115], [66, 97, 100, 77, 111, 100, 115]⟩, ⟨13, [110, 111, 32, 115, 117, 99, 104, 32, 115, 97, 109, 112, 108, 101], [66, 97, 100, 83, 97, 109, 112, 108, 101]⟩, ⟨14, [110, 111, 32, 115, 117, 99, 104, 32, 100, 101, 101, 100], [66, 97, 100, 68, 101, 101, 100]⟩]
abbrev fVal : Str := "value"
abbrev fPla : Str := "place"
def rwD (f : Str) (x : D) (r : Rw) : D := .tup [.exv r.c f r.m x, .exv r.c f r.m x, .str r.w]
theorem s_4 {n : Nat} {x : D} (hp : x.pure = true) : ∀ L, callF (evFn fs99 (n + 1)) 4 [x] L = .ok (.lst (vls.map (rwD fVal x))) L := by
  refine callF_of (L1 := []) (run_to P99_4 rfl rfl ?_) (by simp [purAll, hp]) (by simp [vls, rwD, D.pure, purAll, hp])
  unfold P99_4 vls
  trivial
  rfl
theorem s_5 {n : Nat} {x : D} (hp : x.pure = true) : ∀ L, callF (evFn fs99 (n + 1)) 5 [x] L = .ok (.lst (pls.map (rwD fPla x))) L := by
  refine callF_of (L1 := []) (run_to P99_5 rfl rfl ?_) (by simp [purAll, hp]) (by simp [pls, rwD, D.pure, purAll, hp])
  unfold P99_5 pls
  trivial
  rfl

end EV
end

section
namespace EV
open PySem
local macro_rules | `(tactic| trivial) => `(tactic| simp (config := {contextual := true, maxSteps := 1000000, implicitDefEqProofs := false}) (disch := first | with_reducible assumption | omega | (simp only [List.length_map, List.length_set, upto_len, List.length_cons, List.length_nil, List.length_append, big, Bool.not_eq_true, Bool.not_eq_true', Bool.not_eq_false', Bool.and_eq_true, decide_eq_true_eq, decide_eq_false_iff_not] at *; omega)) only [x_slot, x_cst, x_glob, x_fnv, x_bin, x_neg, x_not, x_cmp, x_chain, x_isN, x_notN, x_and, x_or, x_ife, x_tup, x_frz, x_mut, x_call, x_callk, x_callv, x_bi, x_split, x_join, x_index, x_append, x_ix, x_dget, x_sl, x_isi, x_dnew, x_xfld, x_mkx, x_mk0, x_isx, x_xfl, x_strx, x_tupr, x_nil, x_cons, x_onone, x_osome, x_tnone, x_tsome, x_knil, x_kcons, x_disp, x_lc, x_fsl, x_rev, x_cat, x_lis, x_val, x_rng, x_rng2, x_enum, x_zip, x_turn, x_comp, y_nil, y_cons, y_set, y_par, y_asg, y_setIx, y_setK, y_ex, y_ife, y_body, y_for, y_forW, y_turn, y_done, y_ret, y_retN, y_raise, y_pass, y_brk, y_cont, y_try, y_hs, kBin2, kBin1, kCmp2, kCmp1, kBool, kNot, kNeg, kCh3, kCh2, kCh1b, kCh1, kIsN, kNotN, kAnd, kOr, kIfe, kTup, kFrz, kMut, kCall, kCallk, kCallv, kBi, kMe2, kMe1, kAp3, kAp2, kAp1, kIx2, kIx1, kDg2, kDg1, kSl3, kSl2, kSl1, kIsi, kDnew, kTupr, kEs2, kEs1, kInt, kTst, kK4, kK3, kK2, kK1, kDisp, kLc, kFs4, kFs3, kFs2, kFs1, kRev2, kRev, kCat4, kCat3, kCat2, kCat1, kLis, kVal, kRng, kRng2b, kRng2, kEnum, kZip2, kZip1, kSome, kTn2, kTn1, jSeq, jSet, jPar, jAsg, jSx3, jSx2, jSx1, jSk3, jSk2, jSk1, jEx, jIf, jBody, jFor, jExc, kMkx, kIsx, kXfl, kStrx, bind_ok, bind_exc, bind_bad, then_ok, then_exc, then_bad, seq_next, seq_ret, seq_exc, seq_brk, seq_cont, seq_bad, optR_some, blR_some, slotR_some, condR_t, condR_f, condS_t, condS_f, condR_bl, condS_bl, join_and, join_or, bind_ite, then_ite, seq_ite, negR_int, notR_bl, boolR_bl, isNon_non, isNon_int, isNon_str, isNon_tup, isNon_lst, isNon_obj, sizR_0, sizR_1, sizR_2, sizR_3, sizR_4, sizR_5, sizR_6, sizR_7, sizR_8, sizR_ok, intR_int, tstR_bl, recvA_obj, recvL_lst, appR_obj, appL_ok, setKS_obj, setKO_str, setIxS_obj, valO_lst, valR_obj, recvS_str, xfR_ok, isxR_exv, xflR_exv, strxR_exv, tuprR_int, lstR_some, valR_lst, valR_tup, valR_ktup, valR_str, rngR_int, rng2R_int, enumR_lst, zipR_lst, zipR_tup, callvR_ok, noX_ok, noX_ite, noX_f, bindT_name, bindT_tup, bindT_ktup, bindTs_nil, bindTs_cons, wipe_nil, wipe_cons, envS_some, envB_some, loop_next, loop_cont, loop_brk, loop_ret, loop_exc, loop_ite, tryS_exc, tryS_ret, tryS_next, endH_ret, retS_next, retS_ret, retS_exc, retS_ite, setAll, o_isi_int_non, o_isi_int_bl, o_isi_int_int, o_isi_int_str, o_isi_int_tup, o_isi_int_ktup, o_isi_int_lst, o_isi_str_non, o_isi_str_bl, o_isi_str_int, o_isi_str_str, o_isi_str_tup, o_isi_str_ktup, o_isi_str_lst, o_isi_bool_non, o_isi_bool_bl, o_isi_bool_int, o_isi_bool_str, o_isi_bool_tup, o_isi_bool_ktup, o_isi_bool_lst, o_isi_tuple_non, o_isi_tuple_bl, o_isi_tuple_int, o_isi_tuple_str, o_isi_tuple_tup, o_isi_tuple_ktup, o_isi_tuple_lst, o_isi_list_non, o_isi_list_bl, o_isi_list_int, o_isi_list_str, o_isi_list_tup, o_isi_list_ktup, o_isi_list_lst, o_add_ii, o_sub_ii, o_add_ss, o_add_tt, o_add_ll, o_mul_il, o_mul_ir, o_pow_ii, o_dget, dictG_str, dictG_int, keyOf_s, keyOf_i, getset, dnewR_3, o_mod_ii, o_fdiv_ii, o_eq_int, o_eq_str, o_eq_bl, o_ne_int, o_ne_str, o_ne_bl, o_lt_i, o_le_i, o_gt_i, o_ge_i, o_in_s, o_nin_s, o_eq_d, o_ne_d, o_len_s, o_len_t, o_len_kt, o_len_l, o_tup_l, o_tup_t, oTup_l, oLen_l, oIx_l, oLst_l, o_tup_o, o_len_o, o_all, o_any, o_str_i, o_int_i, o_sum, o_join, o_join_t, o_split, atI_0, atI_1, atI_2, atI_3, o_ix_t, o_ix_kt, o_ix_l, o_ix_o, o_ix_s, o_sl_s, o_sl_t, o_sl_l, o_lof_l, o_sof_l, o_sof_t, o_lof_o, List.getElem?_cons_zero, List.getElem?_cons_succ, List.set_cons_zero, List.set_cons_succ, Option.bind_some, List.length_cons, List.length_nil, if_true, if_false, Bool.not_true, Bool.not_false, Bool.and_true, Bool.true_and, Bool.and_false, Bool.false_and, Bool.or_true, Bool.true_or, Bool.or_false, Bool.false_or, Bool.not_not, ite_true, ite_false, reduceIte, Nat.reduceAdd, Int.reduceAdd, Int.reduceSub, Int.reduceMod, Int.reduceMul, Nat.reduceLT, reduceCtorEq, startD, List.map_cons, List.map_nil, List.replicate_succ, List.replicate_zero, List.cons_append, List.nil_append, Nat.reduceSub, decide_true, decide_false, true_and, and_true, eq_self, Int.reduceEq, Int.reduceNe, Int.reduceLT, Int.reduceLE, Nat.reduceEqDiff, Int.reduceToNat, Nat.reduceLeDiff, List.length_map, signs_mp, join_opt, ne_nil_s, ne_nil_i, ne_nil_n, isEmpty_filt, upto_z, compL_nil, Int.toNat_natCast, id_eq, List.length_set, cst0, cst1, cst2, cst3, cst4, cst5, cst6, ne_eq, not_true_eq_false, not_false_eq_true, *])
local macro_rules | `(tactic| bv_omega) => `(tactic| (first | rfl | (simp [-List.all_eq_true] at *; done) | (simp [-List.all_eq_true] at *; omega) | (simp [-List.all_eq_true] at *; grind)))
theorem ne_3s {L : Store} {a b c : List Nat} : cmpV L .ne (.lst [.str a, .str b, .str c]) (.lst [.str a, .str b, .str c]) = some false := ne_self (by simp [D.shp, shpAll])
theorem ne_2s {L : Store} {a b : List Nat} : cmpV L .ne (.lst [.str a, .str b]) (.lst [.str a, .str b]) = some false := ne_self (by simp [D.shp, shpAll])
def wPlay : List Nat := [112, 108, 97, 121]
def wValue : List Nat := [118, 97, 108, 117, 101]
theorem vls_ok : ∀ r ∈ vls, r.c < 17 ∧ ((kp r.c).filter (·.2)).map (·.1) = [r.w, wPlay, wValue] := by
  unfold vls; simp only [List.mem_cons, List.not_mem_nil, or_false]
  rintro r (rfl | rfl | rfl | rfl | rfl) <;> decide
theorem pls_ok : ∀ r ∈ pls, r.c < 17 ∧ ((kp r.c).filter (·.2)).map (·.1) = [r.w, wPlay, wValue] := by
  unfold pls; simp only [List.mem_cons, List.not_mem_nil, or_false]
  rintro r (rfl | rfl | rfl | rfl | rfl | rfl | rfl | rfl | rfl | rfl) <;> decide
theorem kinds3 {n c : Nat} {f : Str} {m : List Nat} {d : D} {w : List Nat} (h : c < 17 ∧ ((kp c).filter (·.2)).map (·.1) = [w, wPlay, wValue]) (hd : d.pure = true) : ∀ L, callF (evFn fs99 (n + 1)) 3 [.exv c f m d] L = .ok (.lst [.str w, .str [112, 108, 97, 121], .str [118, 97, 108, 117, 101]]) L := by
  have := @s_3 n c f m d h.1 hd
  have e : ((kp c).filter (·.2)).map (fun p => D.str p.1) = [.str w, .str wPlay, .str wValue] := by
    have := congrArg (List.map D.str) h.2
    rw [List.map_map] at this
    exact this
  rw [e] at this
  exact this
local macro_rules | `(tactic| trivial) => `(tactic| simp (config := {contextual := true, maxSteps := 1000000, implicitDefEqProofs := false}) (disch := first | with_reducible assumption | omega | (simp only [List.length_map, List.length_set, upto_len, List.length_cons, List.length_nil, List.length_append, big, Bool.not_eq_true, Bool.not_eq_true', Bool.not_eq_false', Bool.and_eq_true, decide_eq_true_eq, decide_eq_false_iff_not] at *; omega)) only [x_slot, x_cst, x_glob, x_fnv, x_bin, x_neg, x_not, x_cmp, x_chain, x_isN, x_notN, x_and, x_or, x_ife, x_tup, x_frz, x_mut, x_call, x_callk, x_callv, x_bi, x_split, x_join, x_index, x_append, x_ix, x_dget, x_sl, x_isi, x_dnew, x_xfld, x_mkx, x_mk0, x_isx, x_xfl, x_strx, x_tupr, x_nil, x_cons, x_onone, x_osome, x_tnone, x_tsome, x_knil, x_kcons, x_disp, x_lc, x_fsl, x_rev, x_cat, x_lis, x_val, x_rng, x_rng2, x_enum, x_zip, x_turn, x_comp, y_nil, y_cons, y_set, y_par, y_asg, y_setIx, y_setK, y_ex, y_ife, y_body, y_for, y_forW, y_turn, y_done, y_ret, y_retN, y_raise, y_pass, y_brk, y_cont, y_try, y_hs, kBin2, kBin1, kCmp2, kCmp1, kBool, kNot, kNeg, kCh3, kCh2, kCh1b, kCh1, kIsN, kNotN, kAnd, kOr, kIfe, kTup, kFrz, kMut, kCall, kCallk, kCallv, kBi, kMe2, kMe1, kAp3, kAp2, kAp1, kIx2, kIx1, kDg2, kDg1, kSl3, kSl2, kSl1, kIsi, kDnew, kTupr, kEs2, kEs1, kInt, kTst, kK4, kK3, kK2, kK1, kDisp, kLc, kFs4, kFs3, kFs2, kFs1, kRev2, kRev, kCat4, kCat3, kCat2, kCat1, kLis, kVal, kRng, kRng2b, kRng2, kEnum, kZip2, kZip1, kSome, kTn2, kTn1, jSeq, jSet, jPar, jAsg, jSx3, jSx2, jSx1, jSk3, jSk2, jSk1, jEx, jIf, jBody, jFor, jExc, kMkx, kIsx, kXfl, kStrx, bind_ok, bind_exc, bind_bad, then_ok, then_exc, then_bad, seq_next, seq_ret, seq_exc, seq_brk, seq_cont, seq_bad, optR_some, blR_some, slotR_some, condR_t, condR_f, condS_t, condS_f, condR_bl, condS_bl, join_and, join_or, bind_ite, then_ite, seq_ite, negR_int, notR_bl, boolR_bl, isNon_non, isNon_int, isNon_str, isNon_tup, isNon_lst, isNon_obj, sizR_0, sizR_1, sizR_2, sizR_3, sizR_4, sizR_5, sizR_6, sizR_7, sizR_8, sizR_ok, intR_int, tstR_bl, recvA_obj, recvL_lst, appR_obj, appL_ok, setKS_obj, setKO_str, setIxS_obj, valO_lst, valR_obj, recvS_str, xfR_ok, isxR_exv, xflR_exv, strxR_exv, tuprR_int, lstR_some, valR_lst, valR_tup, valR_ktup, valR_str, rngR_int, rng2R_int, enumR_lst, zipR_lst, zipR_tup, callvR_ok, noX_ok, noX_ite, noX_f, bindT_name, bindT_tup, bindT_ktup, bindTs_nil, bindTs_cons, wipe_nil, wipe_cons, envS_some, envB_some, loop_next, loop_cont, loop_brk, loop_ret, loop_exc, loop_ite, tryS_exc, tryS_ret, tryS_next, endH_ret, retS_next, retS_ret, retS_exc, retS_ite, setAll, o_isi_int_non, o_isi_int_bl, o_isi_int_int, o_isi_int_str, o_isi_int_tup, o_isi_int_ktup, o_isi_int_lst, o_isi_str_non, o_isi_str_bl, o_isi_str_int, o_isi_str_str, o_isi_str_tup, o_isi_str_ktup, o_isi_str_lst, o_isi_bool_non, o_isi_bool_bl, o_isi_bool_int, o_isi_bool_str, o_isi_bool_tup, o_isi_bool_ktup, o_isi_bool_lst, o_isi_tuple_non, o_isi_tuple_bl, o_isi_tuple_int, o_isi_tuple_str, o_isi_tuple_tup, o_isi_tuple_ktup, o_isi_tuple_lst, o_isi_list_non, o_isi_list_bl, o_isi_list_int, o_isi_list_str, o_isi_list_tup, o_isi_list_ktup, o_isi_list_lst, o_add_ii, o_sub_ii, o_add_ss, o_add_tt, o_add_ll, o_mul_il, o_mul_ir, o_pow_ii, o_dget, dictG_str, dictG_int, keyOf_s, keyOf_i, getset, dnewR_3, o_mod_ii, o_fdiv_ii, o_eq_int, o_eq_str, o_eq_bl, o_ne_int, o_ne_str, o_ne_bl, o_lt_i, o_le_i, o_gt_i, o_ge_i, o_in_s, o_nin_s, o_eq_d, o_ne_d, o_len_s, o_len_t, o_len_kt, o_len_l, o_tup_l, o_tup_t, oTup_l, oLen_l, oIx_l, oLst_l, o_tup_o, o_len_o, o_all, o_any, o_str_i, o_int_i, o_sum, o_join, o_join_t, o_split, atI_0, atI_1, atI_2, atI_3, o_ix_t, o_ix_kt, o_ix_l, o_ix_o, o_ix_s, o_sl_s, o_sl_t, o_sl_l, o_lof_l, o_sof_l, o_sof_t, o_lof_o, List.getElem?_cons_zero, List.getElem?_cons_succ, List.set_cons_zero, List.set_cons_succ, Option.bind_some, List.length_cons, List.length_nil, if_true, if_false, Bool.not_true, Bool.not_false, Bool.and_true, Bool.true_and, Bool.and_false, Bool.false_and, Bool.or_true, Bool.true_or, Bool.or_false, Bool.false_or, Bool.not_not, ite_true, ite_false, reduceIte, Nat.reduceAdd, Int.reduceAdd, Int.reduceSub, Int.reduceMod, Int.reduceMul, Nat.reduceLT, reduceCtorEq, startD, List.map_cons, List.map_nil, List.replicate_succ, List.replicate_zero, List.cons_append, List.nil_append, Nat.reduceSub, decide_true, decide_false, true_and, and_true, eq_self, Int.reduceEq, Int.reduceNe, Int.reduceLT, Int.reduceLE, Nat.reduceEqDiff, Int.reduceToNat, Nat.reduceLeDiff, List.length_map, signs_mp, join_opt, ne_nil_s, ne_nil_i, ne_nil_n, isEmpty_filt, upto_z, compL_nil, Int.toNat_natCast, id_eq, List.length_set, cst0, cst1, cst2, cst3, cst4, cst5, cst6, ne_eq, not_true_eq_false, not_false_eq_true, ne_3s, ne_2s, *])
theorem s_6 {n : Nat} {x : D} (hp : x.pure = true) (hx : x.shp 64 = true) : ∀ L, callF (evFn fs99 (n + 2)) 6 [x] L = .ok (.bl true) L := by
  have nx := fun L => @ne_self L x hx
  have k4 := @s_4 n x hp
  have k5 := @s_5 n x hp
  have kn : ∀ L, callF (evFn fs99 (n + 1)) 3 [.exv 16 fVal [110, 111, 116, 104, 105, 110, 103, 32, 115, 111, 32, 99, 97, 108, 108, 101, 100] x] L = .ok (.lst [.str [78, 111, 83, 117, 99, 104], .str [108, 111, 111, 107, 117, 112]]) L := @s_3 n 16 fVal _ x (by decide) hp
  have kt : ∀ L, callF (evFn fs99 (n + 1)) 3 [.exv 15 "most" [116, 111, 111, 32, 109, 97, 110, 121] x] L = .ok (.lst [.str [84, 111, 111, 77, 97, 110, 121], .str [111, 118, 101, 114, 102, 108, 111, 119]]) L := @s_3 n 15 "most" _ x (by decide) hp
  refine callF_of (L1 := []) (run_to P99_6 rfl rfl ?_) (by simp [purAll, hp]) rfl
  unfold P99_6
  trivial
  refine seq_all_t (fun s => retS s = .ok (.bl true) []) (fun _ => true) (fun ρ => ∃ u v w, ρ = [some x, u, v, w]) (.bl false) ⟨_, _, _, rfl⟩ ?_ (fun _ _ _ _ z => nomatch z) (by simp) ?_
  · rintro r hr ρ ⟨u, v, w, rfl⟩ _
    have hc := (vls_ok r hr).1
    have q := @kinds3 n r.c fVal r.m x r.w (vls_ok r hr) hp
    clear kn kt k4 k5
    unfold rwD
    trivial
    exact nextP_of ⟨_, _, _, rfl⟩
  rintro ρ ⟨u, v, w, rfl⟩
  trivial
  refine seq_all_t (fun s => retS s = .ok (.bl true) []) (fun _ => true) (fun ρ => ∃ u v w, ρ = [some x, u, v, w]) (.bl false) ⟨_, _, _, rfl⟩ ?_ (fun _ _ _ _ z => nomatch z) (by simp) ?_
  · rintro r hr ρ ⟨u, v, w, rfl⟩ _
    have hc := (pls_ok r hr).1
    have q := @kinds3 n r.c fPla r.m x r.w (pls_ok r hr) hp
    clear kn kt k4 k5
    unfold rwD
    trivial
    exact nextP_of ⟨_, _, _, rfl⟩
  rintro ρ ⟨u, v, w, rfl⟩
  trivial

end EV
end

section
namespace EV
open PySem
local macro_rules | `(tactic| trivial) => `(tactic| simp (config := {contextual := true, maxSteps := 1000000, implicitDefEqProofs := false}) (disch := first | with_reducible assumption | omega | (simp only [List.length_map, List.length_set, upto_len, List.length_cons, List.length_nil, List.length_append, big, Bool.not_eq_true, Bool.not_eq_true', Bool.not_eq_false', Bool.and_eq_true, decide_eq_true_eq, decide_eq_false_iff_not] at *; omega)) only [x_slot, x_cst, x_glob, x_fnv, x_bin, x_neg, x_not, x_cmp, x_chain, x_isN, x_notN, x_and, x_or, x_ife, x_tup, x_frz, x_mut, x_call, x_callk, x_callv, x_bi, x_split, x_join, x_index, x_append, x_ix, x_dget, x_sl, x_isi, x_dnew, x_xfld, x_mkx, x_mk0, x_isx, x_xfl, x_strx, x_tupr, x_nil, x_cons, x_onone, x_osome, x_tnone, x_tsome, x_knil, x_kcons, x_disp, x_lc, x_fsl, x_rev, x_cat, x_lis, x_val, x_rng, x_rng2, x_enum, x_zip, x_turn, x_comp, y_nil, y_cons, y_set, y_par, y_asg, y_setIx, y_setK, y_ex, y_ife, y_body, y_for, y_forW, y_turn, y_done, y_ret, y_retN, y_raise, y_pass, y_brk, y_cont, y_try, y_hs, kBin2, kBin1, kCmp2, kCmp1, kBool, kNot, kNeg, kCh3, kCh2, kCh1b, kCh1, kIsN, kNotN, kAnd, kOr, kIfe, kTup, kFrz, kMut, kCall, kCallk, kCallv, kBi, kMe2, kMe1, kAp3, kAp2, kAp1, kIx2, kIx1, kDg2, kDg1, kSl3, kSl2, kSl1, kIsi, kDnew, kTupr, kEs2, kEs1, kInt, kTst, kK4, kK3, kK2, kK1, kDisp, kLc, kFs4, kFs3, kFs2, kFs1, kRev2, kRev, kCat4, kCat3, kCat2, kCat1, kLis, kVal, kRng, kRng2b, kRng2, kEnum, kZip2, kZip1, kSome, kTn2, kTn1, jSeq, jSet, jPar, jAsg, jSx3, jSx2, jSx1, jSk3, jSk2, jSk1, jEx, jIf, jBody, jFor, jExc, kMkx, kIsx, kXfl, kStrx, bind_ok, bind_exc, bind_bad, then_ok, then_exc, then_bad, seq_next, seq_ret, seq_exc, seq_brk, seq_cont, seq_bad, optR_some, blR_some, slotR_some, condR_t, condR_f, condS_t, condS_f, condR_bl, condS_bl, join_and, join_or, bind_ite, then_ite, seq_ite, negR_int, notR_bl, boolR_bl, isNon_non, isNon_int, isNon_str, isNon_tup, isNon_lst, isNon_obj, sizR_0, sizR_1, sizR_2, sizR_3, sizR_4, sizR_5, sizR_6, sizR_7, sizR_8, sizR_ok, intR_int, tstR_bl, recvA_obj, recvL_lst, appR_obj, appL_ok, setKS_obj, setKO_str, setIxS_obj, valO_lst, valR_obj, recvS_str, xfR_ok, isxR_exv, xflR_exv, strxR_exv, tuprR_int, lstR_some, valR_lst, valR_tup, valR_ktup, valR_str, rngR_int, rng2R_int, enumR_lst, zipR_lst, zipR_tup, callvR_ok, noX_ok, noX_ite, noX_f, bindT_name, bindT_tup, bindT_ktup, bindTs_nil, bindTs_cons, wipe_nil, wipe_cons, envS_some, envB_some, loop_next, loop_cont, loop_brk, loop_ret, loop_exc, loop_ite, tryS_exc, tryS_ret, tryS_next, endH_ret, retS_next, retS_ret, retS_exc, retS_ite, setAll, o_isi_int_non, o_isi_int_bl, o_isi_int_int, o_isi_int_str, o_isi_int_tup, o_isi_int_ktup, o_isi_int_lst, o_isi_str_non, o_isi_str_bl, o_isi_str_int, o_isi_str_str, o_isi_str_tup, o_isi_str_ktup, o_isi_str_lst, o_isi_bool_non, o_isi_bool_bl, o_isi_bool_int, o_isi_bool_str, o_isi_bool_tup, o_isi_bool_ktup, o_isi_bool_lst, o_isi_tuple_non, o_isi_tuple_bl, o_isi_tuple_int, o_isi_tuple_str, o_isi_tuple_tup, o_isi_tuple_ktup, o_isi_tuple_lst, o_isi_list_non, o_isi_list_bl, o_isi_list_int, o_isi_list_str, o_isi_list_tup, o_isi_list_ktup, o_isi_list_lst, o_add_ii, o_sub_ii, o_add_ss, o_add_tt, o_add_ll, o_mul_il, o_mul_ir, o_pow_ii, o_dget, dictG_str, dictG_int, keyOf_s, keyOf_i, getset, dnewR_3, o_mod_ii, o_fdiv_ii, o_eq_int, o_eq_str, o_eq_bl, o_ne_int, o_ne_str, o_ne_bl, o_lt_i, o_le_i, o_gt_i, o_ge_i, o_in_s, o_nin_s, o_eq_d, o_ne_d, o_len_s, o_len_t, o_len_kt, o_len_l, o_tup_l, o_tup_t, oTup_l, oLen_l, oIx_l, oLst_l, o_tup_o, o_len_o, o_all, o_any, o_str_i, o_int_i, o_sum, o_join, o_join_t, o_split, atI_0, atI_1, atI_2, atI_3, o_ix_t, o_ix_kt, o_ix_l, o_ix_o, o_ix_s, o_sl_s, o_sl_t, o_sl_l, o_lof_l, o_sof_l, o_sof_t, o_lof_o, List.getElem?_cons_zero, List.getElem?_cons_succ, List.set_cons_zero, List.set_cons_succ, Option.bind_some, List.length_cons, List.length_nil, if_true, if_false, Bool.not_true, Bool.not_false, Bool.and_true, Bool.true_and, Bool.and_false, Bool.false_and, Bool.or_true, Bool.true_or, Bool.or_false, Bool.false_or, Bool.not_not, ite_true, ite_false, reduceIte, Nat.reduceAdd, Int.reduceAdd, Int.reduceSub, Int.reduceMod, Int.reduceMul, Nat.reduceLT, reduceCtorEq, startD, List.map_cons, List.map_nil, List.replicate_succ, List.replicate_zero, List.cons_append, List.nil_append, Nat.reduceSub, decide_true, decide_false, true_and, and_true, eq_self, Int.reduceEq, Int.reduceNe, Int.reduceLT, Int.reduceLE, Nat.reduceEqDiff, Int.reduceToNat, Nat.reduceLeDiff, List.length_map, signs_mp, join_opt, ne_nil_s, ne_nil_i, ne_nil_n, isEmpty_filt, upto_z, compL_nil, Int.toNat_natCast, id_eq, List.length_set, cst0, cst1, cst2, cst3, cst4, cst5, cst6, ne_eq, not_true_eq_false, not_false_eq_true, *])
local macro_rules | `(tactic| bv_omega) => `(tactic| (first | rfl | (simp [-List.all_eq_true] at *; done) | (simp [-List.all_eq_true] at *; omega) | (simp [-List.all_eq_true] at *; grind)))
def eBig : E := (.bin .pow (.bin .pow (.bin .pow (.cst (.int 10)) (.cst (.int 50))) (.cst (.int 50))) (.cst (.int 2)))
def e30 : E := (.bin .pow (.cst (.int 10)) (.cst (.int 30)))
def n30 : Int := 1000000000000000000000000000000
theorem powW {L : Store} {i j : Int} (h : 0 ≤ j) (h2 : j ≤ 8000) (h3 : i.natAbs < 2 ^ 16384) : binV L .pow (.int i) (.int j) = some (.int (i ^ j.toNat)) := if_pos ⟨h, .inr ⟨h2, h3⟩⟩
def b1 : Int := 10 ^ (50 : Int).toNat
def b2 : Int := b1 ^ (50 : Int).toNat
def b3 : Int := b2 ^ (2 : Int).toNat
theorem big_ev : ∃ N : Int, ∀ (cf : Nat → List D → M D) (ρ : Env) (L : Store), evE cf eBig ρ L = .ok (.int N) L := by
  have h1 : ∀ L, binV L .pow (.int 10) (.int 50) = some (.int b1) := fun L => powW (by decide) (by decide) (by decide +kernel)
  have h2 : ∀ L, binV L .pow (.int b1) (.int 50) = some (.int b2) := fun L => powW (by decide) (by decide) (by decide +kernel)
  have h3 : ∀ L, binV L .pow (.int b2) (.int 2) = some (.int b3) := fun L => powW (by decide) (by decide) (by decide +kernel)
  refine ⟨b3, fun cf ρ L => ?_⟩
  unfold eBig
  simp only [evE, R.bind, EV.look, h1, h2, h3]
theorem n30_ev (cf : Nat → List D → M D) (ρ : Env) (L : Store) : evE cf e30 ρ L = .ok (.int n30) L := by
  have e : (10 : Int) ^ (30 : Int).toNat = n30 := by decide +kernel
  have h1 : ∀ L, binV L .pow (.int 10) (.int 30) = some (.int n30) := fun L => by rw [← e]; exact powW (by decide) (by decide) (by decide +kernel)
  unfold e30
  simp only [evE, R.bind, EV.look, h1]

end EV
end

section
namespace EV
open PySem
local macro_rules | `(tactic| trivial) => `(tactic| simp (config := {contextual := true, maxSteps := 1000000, implicitDefEqProofs := false}) (disch := first | with_reducible assumption | omega | (simp only [List.length_map, List.length_set, upto_len, List.length_cons, List.length_nil, List.length_append, big, Bool.not_eq_true, Bool.not_eq_true', Bool.not_eq_false', Bool.and_eq_true, decide_eq_true_eq, decide_eq_false_iff_not] at *; omega)) only [x_slot, x_cst, x_glob, x_fnv, x_bin, x_neg, x_not, x_cmp, x_chain, x_isN, x_notN, x_and, x_or, x_ife, x_tup, x_frz, x_mut, x_call, x_callk, x_callv, x_bi, x_split, x_join, x_index, x_append, x_ix, x_dget, x_sl, x_isi, x_dnew, x_xfld, x_mkx, x_mk0, x_isx, x_xfl, x_strx, x_tupr, x_nil, x_cons, x_onone, x_osome, x_tnone, x_tsome, x_knil, x_kcons, x_disp, x_lc, x_fsl, x_rev, x_cat, x_lis, x_val, x_rng, x_rng2, x_enum, x_zip, x_turn, x_comp, y_nil, y_cons, y_set, y_par, y_asg, y_setIx, y_setK, y_ex, y_ife, y_body, y_for, y_forW, y_turn, y_done, y_ret, y_retN, y_raise, y_pass, y_brk, y_cont, y_try, y_hs, kBin2, kBin1, kCmp2, kCmp1, kBool, kNot, kNeg, kCh3, kCh2, kCh1b, kCh1, kIsN, kNotN, kAnd, kOr, kIfe, kTup, kFrz, kMut, kCall, kCallk, kCallv, kBi, kMe2, kMe1, kAp3, kAp2, kAp1, kIx2, kIx1, kDg2, kDg1, kSl3, kSl2, kSl1, kIsi, kDnew, kTupr, kEs2, kEs1, kInt, kTst, kK4, kK3, kK2, kK1, kDisp, kLc, kFs4, kFs3, kFs2, kFs1, kRev2, kRev, kCat4, kCat3, kCat2, kCat1, kLis, kVal, kRng, kRng2b, kRng2, kEnum, kZip2, kZip1, kSome, kTn2, kTn1, jSeq, jSet, jPar, jAsg, jSx3, jSx2, jSx1, jSk3, jSk2, jSk1, jEx, jIf, jBody, jFor, jExc, kMkx, kIsx, kXfl, kStrx, bind_ok, bind_exc, bind_bad, then_ok, then_exc, then_bad, seq_next, seq_ret, seq_exc, seq_brk, seq_cont, seq_bad, optR_some, blR_some, slotR_some, condR_t, condR_f, condS_t, condS_f, condR_bl, condS_bl, join_and, join_or, bind_ite, then_ite, seq_ite, negR_int, notR_bl, boolR_bl, isNon_non, isNon_int, isNon_str, isNon_tup, isNon_lst, isNon_obj, sizR_0, sizR_1, sizR_2, sizR_3, sizR_4, sizR_5, sizR_6, sizR_7, sizR_8, sizR_ok, intR_int, tstR_bl, recvA_obj, recvL_lst, appR_obj, appL_ok, setKS_obj, setKO_str, setIxS_obj, valO_lst, valR_obj, recvS_str, xfR_ok, isxR_exv, xflR_exv, strxR_exv, tuprR_int, lstR_some, valR_lst, valR_tup, valR_ktup, valR_str, rngR_int, rng2R_int, enumR_lst, zipR_lst, zipR_tup, callvR_ok, noX_ok, noX_ite, noX_f, bindT_name, bindT_tup, bindT_ktup, bindTs_nil, bindTs_cons, wipe_nil, wipe_cons, envS_some, envB_some, loop_next, loop_cont, loop_brk, loop_ret, loop_exc, loop_ite, tryS_exc, tryS_ret, tryS_next, endH_ret, retS_next, retS_ret, retS_exc, retS_ite, setAll, o_isi_int_non, o_isi_int_bl, o_isi_int_int, o_isi_int_str, o_isi_int_tup, o_isi_int_ktup, o_isi_int_lst, o_isi_str_non, o_isi_str_bl, o_isi_str_int, o_isi_str_str, o_isi_str_tup, o_isi_str_ktup, o_isi_str_lst, o_isi_bool_non, o_isi_bool_bl, o_isi_bool_int, o_isi_bool_str, o_isi_bool_tup, o_isi_bool_ktup, o_isi_bool_lst, o_isi_tuple_non, o_isi_tuple_bl, o_isi_tuple_int, o_isi_tuple_str, o_isi_tuple_tup, o_isi_tuple_ktup, o_isi_tuple_lst, o_isi_list_non, o_isi_list_bl, o_isi_list_int, o_isi_list_str, o_isi_list_tup, o_isi_list_ktup, o_isi_list_lst, o_add_ii, o_sub_ii, o_add_ss, o_add_tt, o_add_ll, o_mul_il, o_mul_ir, o_pow_ii, o_dget, dictG_str, dictG_int, keyOf_s, keyOf_i, getset, dnewR_3, o_mod_ii, o_fdiv_ii, o_eq_int, o_eq_str, o_eq_bl, o_ne_int, o_ne_str, o_ne_bl, o_lt_i, o_le_i, o_gt_i, o_ge_i, o_in_s, o_nin_s, o_eq_d, o_ne_d, o_len_s, o_len_t, o_len_kt, o_len_l, o_tup_l, o_tup_t, oTup_l, oLen_l, oIx_l, oLst_l, o_tup_o, o_len_o, o_all, o_any, o_str_i, o_int_i, o_sum, o_join, o_join_t, o_split, atI_0, atI_1, atI_2, atI_3, o_ix_t, o_ix_kt, o_ix_l, o_ix_o, o_ix_s, o_sl_s, o_sl_t, o_sl_l, o_lof_l, o_sof_l, o_sof_t, o_lof_o, List.getElem?_cons_zero, List.getElem?_cons_succ, List.set_cons_zero, List.set_cons_succ, Option.bind_some, List.length_cons, List.length_nil, if_true, if_false, Bool.not_true, Bool.not_false, Bool.and_true, Bool.true_and, Bool.and_false, Bool.false_and, Bool.or_true, Bool.true_or, Bool.or_false, Bool.false_or, Bool.not_not, ite_true, ite_false, reduceIte, Nat.reduceAdd, Int.reduceAdd, Int.reduceSub, Int.reduceMod, Int.reduceMul, Nat.reduceLT, reduceCtorEq, startD, List.map_cons, List.map_nil, List.replicate_succ, List.replicate_zero, List.cons_append, List.nil_append, Nat.reduceSub, decide_true, decide_false, true_and, and_true, eq_self, Int.reduceEq, Int.reduceNe, Int.reduceLT, Int.reduceLE, Nat.reduceEqDiff, Int.reduceToNat, Nat.reduceLeDiff, List.length_map, signs_mp, join_opt, ne_nil_s, ne_nil_i, ne_nil_n, isEmpty_filt, upto_z, compL_nil, Int.toNat_natCast, id_eq, List.length_set, cst0, cst1, cst2, cst3, cst4, cst5, cst6, ne_eq, not_true_eq_false, not_false_eq_true, *])
local macro_rules | `(tactic| bv_omega) => `(tactic| (first | rfl | (simp [-List.all_eq_true] at *; done) | (simp [-List.all_eq_true] at *; omega) | (simp [-List.all_eq_true] at *; grind)))
theorem mulT {L : Store} {a : List D} {k : Int} (h : a ≠ [] ∧ 2 ≤ k ∧ k ≤ 1000 ∧ a.length ≤ 1000) : binV L .mul (.tup a) (.int k) = some (.tup (List.replicate k.toNat a).flatten) := if_pos h
def b99 : Ss := (.cons (.set 6 (.callk 1 (.cons (.slot 5) (.cons (.slot 4) .nil))))
(.cons (.set 7 (.call 2 (.cons (.slot 6) (.cons (.cst (.int 100000)) .nil))))
(.cons (.set 1 (.frz (.disp (.cons (.slot 7) (.cons (.bin .sub (.cst (.int 0)) (.slot 7)) (.cons (.bin .mul (.cst (.str [97, 98])) (.bin .mod (.slot 7) (.cst (.int 50)))) (.cons (.tup (.cons (.cst (.str [108, 101, 102, 116, 115])) (.cons (.tup (.cons (.cst (.int 0)) (.cons (.slot 7) .nil))) .nil))) (.cons (.cst .non) (.cons (.tup (.cons (.bin .pow (.cst (.int 10)) (.cst (.int 30))) (.cons (.tup .nil) .nil))) (.cons (.bin .mul (.tup (.cons (.slot 7) .nil)) (.cst (.int 9))) .nil))))))))))
(.cons (.ife (.or (.not (.call 6 (.cons (.ix (.slot 1) (.call 2 (.cons (.slot 6) (.cons (.cst (.int 7)) .nil)))) .nil))) (.not (.call 6 (.cons (.bin .pow (.bin .pow (.bin .pow (.cst (.int 10)) (.cst (.int 50))) (.cst (.int 50))) (.cst (.int 2))) .nil))))
(.cons (.ret (.cst (.bl false)))
.nil)
.nil)
.nil))))
theorem some_ix {d0 d1 : Int} {st : List Nat} (h0 : 0 ≤ d1) (h1 : d1 < 7) : ∃ x : D, L2.atI [.int d0, .int (0 - d0), .str st, .tup [.str [108, 101, 102, 116, 115], .tup [.int 0, .int d0]], .non, .tup [.int n30, .tup []], .tup [.int d0, .int d0, .int d0, .int d0, .int d0, .int d0, .int d0, .int d0, .int d0]] d1 = some x ∧ x.pure = true ∧ x.shp 64 = true := by
  have : d1 = 0 ∨ d1 = 1 ∨ d1 = 2 ∨ d1 = 3 ∨ d1 = 4 ∨ d1 = 5 ∨ d1 = 6 := by omega
  rcases this with rfl | rfl | rfl | rfl | rfl | rfl | rfl
  · exact ⟨_, L2.atI_nat (j := 0) rfl, rfl, rfl⟩
  · exact ⟨_, L2.atI_nat (j := 1) rfl, rfl, rfl⟩
  · exact ⟨_, L2.atI_nat (j := 2) rfl, rfl, rfl⟩
  · exact ⟨_, L2.atI_nat (j := 3) rfl, rfl, rfl⟩
  · exact ⟨_, L2.atI_nat (j := 4) rfl, rfl, rfl⟩
  · exact ⟨_, L2.atI_nat (j := 5) rfl, rfl, rfl⟩
  · exact ⟨_, L2.atI_nat (j := 6) rfl, rfl, rfl⟩
theorem turn7 {n : Nat} {sc : List D} {a d k0 c0 s0 n0 : Option D} {k ce : Int} {L : Store} (h0 : 0 ≤ k) (h1 : k ≤ 1000) (hs : storeP L = true) :
    ∃ (ρ' : Env) (L' : Store), bodyF (evFn fs99 (n + 2)) (.tup (.cons (.name 4) (.cons (.name 5) .nil))) b99 (.tup [.int k, .int ce]) [some (.lst sc), a, none, none, k0, c0, s0, n0, none, none, none, none, none] L = .next ρ' L' ∧ (∃ a k0 c0 s0 n0, ρ' = [some (.lst sc), a, none, none, k0, c0, s0, n0, none, none, none, none, none]) ∧ storeP L' = true := by
  obtain ⟨o, e1, ho⟩ := d_draw f991 (n := n + 1) (B := 0 + 1 + 1) (c := ce) (k := k) h0 h1 (by omega)
  have e1 := e1 L
  have hD : Dr L.length (0 + 1 + 1) (L ++ [o]) := ⟨by rw [List.length_append]; simp, ⟨o, by simp, ho⟩, storeP_app hs (by simp [storeP, ho.pure])⟩
  obtain ⟨d0, o2, e2, p0, p1, D2⟩ := d_digit f990 f992 (n := n) (p := L.length) (B := 0 + 1) (m := 100000) hD (by omega) (by omega)
  obtain ⟨d1, o3, e3, p2, p3, D3⟩ := d_digit f990 f992 (n := n) (p := L.length) (B := 0) (m := 7) D2 (by omega) (by omega)
  obtain ⟨N, hN⟩ := big_ev
  have h30 := n30_ev
  obtain ⟨st, hst⟩ : ∃ st, ∀ L, binV L .mul (.str [97, 98]) (.int (d0 % 50)) = some (.str st) := ⟨_, fun L => if_pos ⟨by omega, by omega, by simp only [List.length_cons, List.length_nil, big]; omega⟩⟩
  have hT : ∀ L, binV L .mul (.tup [.int d0]) (.int 9) = some (.tup [.int d0, .int d0, .int d0, .int d0, .int d0, .int d0, .int d0, .int d0, .int d0]) := fun L => mulT ⟨by simp, by decide, by decide, by simp⟩
  obtain ⟨x, hx, xp, xs⟩ := some_ix (d0 := d0) (st := st) p2 p3
  have r1 := @s_6 n x xp xs
  have r2 := @s_6 n (.int N) rfl rfl
  refine ⟨[some (.lst sc), some (.lst [.int d0, .int (0 - d0), .str st, .tup [.str [108, 101, 102, 116, 115], .tup [.int 0, .int d0]], .non, .tup [.int n30, .tup []], .tup [.int d0, .int d0, .int d0, .int d0, .int d0, .int d0, .int d0, .int d0, .int d0]]), none, none, some (.int k), some (.int ce), some (.obj L.length), some (.int d0), none, none, none, none, none], ((L ++ [o]).set L.length o2).set L.length o3, ?_, ⟨_, _, _, _, _, rfl⟩, D3.pu⟩
  unfold b99
  clear hD D2 D3 hs ho
  change bodyF _ _ _ _ _ _ = _
  have eB := hN
  unfold eBig at eB
  have e3' := h30
  unfold e30 at e3'
  generalize E.bin Bin.pow (.bin .pow (.bin .pow (.cst (.int 10)) (.cst (.int 50))) (.cst (.int 50))) (.cst (.int 2)) = eb at eB ⊢
  generalize E.bin Bin.pow (.cst (.int 10)) (.cst (.int 30)) = ec at e3' ⊢
  clear hN h30
  trivial

end EV
end

section
namespace EV
open PySem
local macro_rules | `(tactic| trivial) => `(tactic| simp (config := {contextual := true, maxSteps := 1000000, implicitDefEqProofs := false}) (disch := first | with_reducible assumption | omega | (simp only [List.length_map, List.length_set, upto_len, List.length_cons, List.length_nil, List.length_append, big, Bool.not_eq_true, Bool.not_eq_true', Bool.not_eq_false', Bool.and_eq_true, decide_eq_true_eq, decide_eq_false_iff_not] at *; omega)) only [x_slot, x_cst, x_glob, x_fnv, x_bin, x_neg, x_not, x_cmp, x_chain, x_isN, x_notN, x_and, x_or, x_ife, x_tup, x_frz, x_mut, x_call, x_callk, x_callv, x_bi, x_split, x_join, x_index, x_append, x_ix, x_dget, x_sl, x_isi, x_dnew, x_xfld, x_mkx, x_mk0, x_isx, x_xfl, x_strx, x_tupr, x_nil, x_cons, x_onone, x_osome, x_tnone, x_tsome, x_knil, x_kcons, x_disp, x_lc, x_fsl, x_rev, x_cat, x_lis, x_val, x_rng, x_rng2, x_enum, x_zip, x_turn, x_comp, y_nil, y_cons, y_set, y_par, y_asg, y_setIx, y_setK, y_ex, y_ife, y_body, y_for, y_forW, y_turn, y_done, y_ret, y_retN, y_raise, y_pass, y_brk, y_cont, y_try, y_hs, kBin2, kBin1, kCmp2, kCmp1, kBool, kNot, kNeg, kCh3, kCh2, kCh1b, kCh1, kIsN, kNotN, kAnd, kOr, kIfe, kTup, kFrz, kMut, kCall, kCallk, kCallv, kBi, kMe2, kMe1, kAp3, kAp2, kAp1, kIx2, kIx1, kDg2, kDg1, kSl3, kSl2, kSl1, kIsi, kDnew, kTupr, kEs2, kEs1, kInt, kTst, kK4, kK3, kK2, kK1, kDisp, kLc, kFs4, kFs3, kFs2, kFs1, kRev2, kRev, kCat4, kCat3, kCat2, kCat1, kLis, kVal, kRng, kRng2b, kRng2, kEnum, kZip2, kZip1, kSome, kTn2, kTn1, jSeq, jSet, jPar, jAsg, jSx3, jSx2, jSx1, jSk3, jSk2, jSk1, jEx, jIf, jBody, jFor, jExc, kMkx, kIsx, kXfl, kStrx, bind_ok, bind_exc, bind_bad, then_ok, then_exc, then_bad, seq_next, seq_ret, seq_exc, seq_brk, seq_cont, seq_bad, optR_some, blR_some, slotR_some, condR_t, condR_f, condS_t, condS_f, condR_bl, condS_bl, join_and, join_or, bind_ite, then_ite, seq_ite, negR_int, notR_bl, boolR_bl, isNon_non, isNon_int, isNon_str, isNon_tup, isNon_lst, isNon_obj, sizR_0, sizR_1, sizR_2, sizR_3, sizR_4, sizR_5, sizR_6, sizR_7, sizR_8, sizR_ok, intR_int, tstR_bl, recvA_obj, recvL_lst, appR_obj, appL_ok, setKS_obj, setKO_str, setIxS_obj, valO_lst, valR_obj, recvS_str, xfR_ok, isxR_exv, xflR_exv, strxR_exv, tuprR_int, lstR_some, valR_lst, valR_tup, valR_ktup, valR_str, rngR_int, rng2R_int, enumR_lst, zipR_lst, zipR_tup, callvR_ok, noX_ok, noX_ite, noX_f, bindT_name, bindT_tup, bindT_ktup, bindTs_nil, bindTs_cons, wipe_nil, wipe_cons, envS_some, envB_some, loop_next, loop_cont, loop_brk, loop_ret, loop_exc, loop_ite, tryS_exc, tryS_ret, tryS_next, endH_ret, retS_next, retS_ret, retS_exc, retS_ite, setAll, o_isi_int_non, o_isi_int_bl, o_isi_int_int, o_isi_int_str, o_isi_int_tup, o_isi_int_ktup, o_isi_int_lst, o_isi_str_non, o_isi_str_bl, o_isi_str_int, o_isi_str_str, o_isi_str_tup, o_isi_str_ktup, o_isi_str_lst, o_isi_bool_non, o_isi_bool_bl, o_isi_bool_int, o_isi_bool_str, o_isi_bool_tup, o_isi_bool_ktup, o_isi_bool_lst, o_isi_tuple_non, o_isi_tuple_bl, o_isi_tuple_int, o_isi_tuple_str, o_isi_tuple_tup, o_isi_tuple_ktup, o_isi_tuple_lst, o_isi_list_non, o_isi_list_bl, o_isi_list_int, o_isi_list_str, o_isi_list_tup, o_isi_list_ktup, o_isi_list_lst, o_add_ii, o_sub_ii, o_add_ss, o_add_tt, o_add_ll, o_mul_il, o_mul_ir, o_pow_ii, o_dget, dictG_str, dictG_int, keyOf_s, keyOf_i, getset, dnewR_3, o_mod_ii, o_fdiv_ii, o_eq_int, o_eq_str, o_eq_bl, o_ne_int, o_ne_str, o_ne_bl, o_lt_i, o_le_i, o_gt_i, o_ge_i, o_in_s, o_nin_s, o_eq_d, o_ne_d, o_len_s, o_len_t, o_len_kt, o_len_l, o_tup_l, o_tup_t, oTup_l, oLen_l, oIx_l, oLst_l, o_tup_o, o_len_o, o_all, o_any, o_str_i, o_int_i, o_sum, o_join, o_join_t, o_split, atI_0, atI_1, atI_2, atI_3, o_ix_t, o_ix_kt, o_ix_l, o_ix_o, o_ix_s, o_sl_s, o_sl_t, o_sl_l, o_lof_l, o_sof_l, o_sof_t, o_lof_o, List.getElem?_cons_zero, List.getElem?_cons_succ, List.set_cons_zero, List.set_cons_succ, Option.bind_some, List.length_cons, List.length_nil, if_true, if_false, Bool.not_true, Bool.not_false, Bool.and_true, Bool.true_and, Bool.and_false, Bool.false_and, Bool.or_true, Bool.true_or, Bool.or_false, Bool.false_or, Bool.not_not, ite_true, ite_false, reduceIte, Nat.reduceAdd, Int.reduceAdd, Int.reduceSub, Int.reduceMod, Int.reduceMul, Nat.reduceLT, reduceCtorEq, startD, List.map_cons, List.map_nil, List.replicate_succ, List.replicate_zero, List.cons_append, List.nil_append, Nat.reduceSub, decide_true, decide_false, true_and, and_true, eq_self, Int.reduceEq, Int.reduceNe, Int.reduceLT, Int.reduceLE, Nat.reduceEqDiff, Int.reduceToNat, Nat.reduceLeDiff, List.length_map, signs_mp, join_opt, ne_nil_s, ne_nil_i, ne_nil_n, isEmpty_filt, upto_z, compL_nil, Int.toNat_natCast, id_eq, List.length_set, cst0, cst1, cst2, cst3, cst4, cst5, cst6, ne_eq, not_true_eq_false, not_false_eq_true, *])
local macro_rules | `(tactic| bv_omega) => `(tactic| (first | rfl | (simp [-List.all_eq_true] at *; done) | (simp [-List.all_eq_true] at *; omega) | (simp [-List.all_eq_true] at *; grind)))
local macro_rules | `(tactic| trivial) => `(tactic| simp (config := {contextual := true, maxSteps := 1000000, implicitDefEqProofs := false}) (disch := first | with_reducible assumption | omega | (simp only [List.length_map, List.length_set, upto_len, List.length_cons, List.length_nil, List.length_append, big, Bool.not_eq_true, Bool.not_eq_true', Bool.not_eq_false', Bool.and_eq_true, decide_eq_true_eq, decide_eq_false_iff_not] at *; omega)) only [x_slot, x_cst, x_glob, x_fnv, x_bin, x_neg, x_not, x_cmp, x_chain, x_isN, x_notN, x_and, x_or, x_ife, x_tup, x_frz, x_mut, x_call, x_callk, x_callv, x_bi, x_split, x_join, x_index, x_append, x_ix, x_dget, x_sl, x_isi, x_dnew, x_xfld, x_mkx, x_mk0, x_isx, x_xfl, x_strx, x_tupr, x_nil, x_cons, x_onone, x_osome, x_tnone, x_tsome, x_knil, x_kcons, x_disp, x_lc, x_fsl, x_rev, x_cat, x_lis, x_val, x_rng, x_rng2, x_enum, x_zip, x_turn, x_comp, y_nil, y_cons, y_set, y_par, y_asg, y_setIx, y_setK, y_ex, y_ife, y_body, y_for, y_forW, y_turn, y_done, y_ret, y_retN, y_raise, y_pass, y_brk, y_cont, y_try, y_hs, kBin2, kBin1, kCmp2, kCmp1, kBool, kNot, kNeg, kCh3, kCh2, kCh1b, kCh1, kIsN, kNotN, kAnd, kOr, kIfe, kTup, kFrz, kMut, kCall, kCallk, kCallv, kBi, kMe2, kMe1, kAp3, kAp2, kAp1, kIx2, kIx1, kDg2, kDg1, kSl3, kSl2, kSl1, kIsi, kDnew, kTupr, kEs2, kEs1, kInt, kTst, kK4, kK3, kK2, kK1, kDisp, kLc, kFs4, kFs3, kFs2, kFs1, kRev2, kRev, kCat4, kCat3, kCat2, kCat1, kLis, kVal, kRng, kRng2b, kRng2, kEnum, kZip2, kZip1, kSome, kTn2, kTn1, jSeq, jSet, jPar, jAsg, jSx3, jSx2, jSx1, jSk3, jSk2, jSk1, jEx, jIf, jBody, jFor, jExc, kMkx, kIsx, kXfl, kStrx, bind_ok, bind_exc, bind_bad, then_ok, then_exc, then_bad, seq_next, seq_ret, seq_exc, seq_brk, seq_cont, seq_bad, optR_some, blR_some, slotR_some, condR_t, condR_f, condS_t, condS_f, condR_bl, condS_bl, join_and, join_or, bind_ite, then_ite, seq_ite, negR_int, notR_bl, boolR_bl, isNon_non, isNon_int, isNon_str, isNon_tup, isNon_lst, isNon_obj, sizR_0, sizR_1, sizR_2, sizR_3, sizR_4, sizR_5, sizR_6, sizR_7, sizR_8, sizR_ok, intR_int, tstR_bl, recvA_obj, recvL_lst, appR_obj, appL_ok, setKS_obj, setKO_str, setIxS_obj, valO_lst, valR_obj, recvS_str, xfR_ok, isxR_exv, xflR_exv, strxR_exv, tuprR_int, lstR_some, valR_lst, valR_tup, valR_ktup, valR_str, rngR_int, rng2R_int, enumR_lst, zipR_lst, zipR_tup, callvR_ok, noX_ok, noX_ite, noX_f, bindT_name, bindT_tup, bindT_ktup, bindTs_nil, bindTs_cons, wipe_nil, wipe_cons, envS_some, envB_some, loop_next, loop_cont, loop_brk, loop_ret, loop_exc, loop_ite, tryS_exc, tryS_ret, tryS_next, endH_ret, retS_next, retS_ret, retS_exc, retS_ite, setAll, o_isi_int_non, o_isi_int_bl, o_isi_int_int, o_isi_int_str, o_isi_int_tup, o_isi_int_ktup, o_isi_int_lst, o_isi_str_non, o_isi_str_bl, o_isi_str_int, o_isi_str_str, o_isi_str_tup, o_isi_str_ktup, o_isi_str_lst, o_isi_bool_non, o_isi_bool_bl, o_isi_bool_int, o_isi_bool_str, o_isi_bool_tup, o_isi_bool_ktup, o_isi_bool_lst, o_isi_tuple_non, o_isi_tuple_bl, o_isi_tuple_int, o_isi_tuple_str, o_isi_tuple_tup, o_isi_tuple_ktup, o_isi_tuple_lst, o_isi_list_non, o_isi_list_bl, o_isi_list_int, o_isi_list_str, o_isi_list_tup, o_isi_list_ktup, o_isi_list_lst, o_add_ii, o_sub_ii, o_add_ss, o_add_tt, o_add_ll, o_mul_il, o_mul_ir, o_pow_ii, o_dget, dictG_str, dictG_int, keyOf_s, keyOf_i, getset, dnewR_3, o_mod_ii, o_fdiv_ii, o_eq_int, o_eq_str, o_eq_bl, o_ne_int, o_ne_str, o_ne_bl, o_lt_i, o_le_i, o_gt_i, o_ge_i, o_in_s, o_nin_s, o_eq_d, o_ne_d, o_len_s, o_len_t, o_len_kt, o_len_l, o_tup_l, o_tup_t, oTup_l, oLen_l, oIx_l, oLst_l, o_tup_o, o_len_o, o_all, o_any, o_str_i, o_int_i, o_sum, o_join, o_join_t, o_split, atI_0, atI_1, atI_2, atI_3, o_ix_t, o_ix_kt, o_ix_l, o_ix_o, o_ix_s, o_sl_s, o_sl_t, o_sl_l, o_lof_l, o_sof_l, o_sof_t, o_lof_o, List.getElem?_cons_zero, List.getElem?_cons_succ, List.set_cons_zero, List.set_cons_succ, Option.bind_some, List.length_cons, List.length_nil, if_true, if_false, Bool.not_true, Bool.not_false, Bool.and_true, Bool.true_and, Bool.and_false, Bool.false_and, Bool.or_true, Bool.true_or, Bool.or_false, Bool.false_or, Bool.not_not, ite_true, ite_false, reduceIte, Nat.reduceAdd, Int.reduceAdd, Int.reduceSub, Int.reduceMod, Int.reduceMul, Nat.reduceLT, reduceCtorEq, startD, List.map_cons, List.map_nil, List.replicate_succ, List.replicate_zero, List.cons_append, List.nil_append, Nat.reduceSub, decide_true, decide_false, true_and, and_true, eq_self, Int.reduceEq, Int.reduceNe, Int.reduceLT, Int.reduceLE, Nat.reduceEqDiff, Int.reduceToNat, Nat.reduceLeDiff, List.length_map, signs_mp, join_opt, ne_nil_s, ne_nil_i, ne_nil_n, isEmpty_filt, upto_z, compL_nil, Int.toNat_natCast, id_eq, List.length_set, cst0, cst1, cst2, cst3, cst4, cst5, cst6, ne_eq, not_true_eq_false, not_false_eq_true, compL_un, kC1, compL_un0, kC2_some, kC2_none, vls, pls, rwD, List.map_cons, List.map_nil, List.cons_append, List.nil_append, *])
def msgs : List (List Nat) := [[110, 111, 32, 115, 117, 99, 104, 32, 115, 105, 103, 110, 115], [110, 111, 32, 115, 117, 99, 104, 32, 108, 105, 110, 101], [110, 111, 32, 115, 117, 99, 104, 32, 98, 111, 97, 114, 100], [110, 111, 32, 115, 117, 99, 104, 32, 100, 105, 114, 101, 99, 116, 105, 111, 110], [110, 111, 32, 115, 117, 99, 104, 32, 110, 117, 109, 98, 101, 114], [110, 111, 32, 115, 117, 99, 104, 32, 109, 97, 99, 104, 105, 110, 101], [110, 111, 32, 115, 117, 99, 104, 32, 98, 111, 111, 107], [110, 111, 32, 115, 117, 99, 104, 32, 103, 117, 97, 114, 100], [110, 111, 32, 115, 117, 99, 104, 32, 103, 97, 109, 101], [110, 111, 32, 115, 117, 99, 104, 32, 119, 101, 105, 103, 104, 116, 115], [110, 111, 32, 115, 117, 99, 104, 32, 112, 97, 112, 101, 114], [110, 111, 32, 115, 117, 99, 104, 32, 116, 101, 120, 116], [110, 111, 32, 115, 117, 99, 104, 32, 109, 111, 100, 115], [110, 111, 32, 115, 117, 99, 104, 32, 115, 97, 109, 112, 108, 101], [110, 111, 32, 115, 117, 99, 104, 32, 100, 101, 101, 100], [110, 111, 116, 104, 105, 110, 103, 32, 115, 111, 32, 99, 97, 108, 108, 101, 100], [116, 111, 111, 32, 109, 97, 110, 121]]
def b99b : Ss := (.cons (.set 8 (.bin .add (.frz (.lc false (.slot 10) (.tup (.cons (.name 10) (.cons (.name 11) (.cons (.name 12) .nil)))) (.val (.bin .add (.call 4 (.cons (.slot 3) .nil)) (.call 5 (.cons (.slot 3) .nil)))) .none [10, 11, 12])) (.frz (.disp (.cons (.mkx 16 "value" [110, 111, 116, 104, 105, 110, 103, 32, 115, 111, 32, 99, 97, 108, 108, 101, 100] false (.slot 3)) (.cons (.mkx 15 "most" [116, 111, 111, 32, 109, 97, 110, 121] false (.slot 3)) .nil))))))
(.cons (.ife (.cmp .ne (.frz (.lc false (.slot 9) (.name 9) (.val (.slot 8)) (.some (.cmp .isin (.bi .str (.cons (.slot 3) .nil)) (.strx 17 (.slot 9)))) [9])) (.frz (.disp .nil)))
(.cons (.ret (.cst (.bl false)))
.nil)
.nil)
.nil))
theorem turn7b {n : Nat} {x : D} {t : List Nat} {a0 a1 a2 a3 a4 a5 a6 a7 a8 : Option D} {L : Store} (hp : x.pure = true) (hstr : ∀ L, biV L .str [x] = some (.str t)) (hni : ∀ m ∈ msgs, ∀ L, cmpV L .isin (.str t) (.str m) = some false) :
    ∃ ρ', bodyF (evFn fs99 (n + 2)) (.name 3) b99b x [a0, a1, a2, a3, a4, a5, a6, a7, a8, none, none, none, none] L = .next ρ' L ∧ ∃ a0 a1 a2 a3 a4 a5 a6 a7 a8, ρ' = [a0, a1, a2, a3, a4, a5, a6, a7, a8, none, none, none, none] := by
  have k4 := @s_4 (n + 1) x hp
  have k5 := @s_5 (n + 1) x hp
  have m0 := hni [110, 111, 32, 115, 117, 99, 104, 32, 115, 105, 103, 110, 115] (by simp [msgs])
  have m1 := hni [110, 111, 32, 115, 117, 99, 104, 32, 108, 105, 110, 101] (by simp [msgs])
  have m2 := hni [110, 111, 32, 115, 117, 99, 104, 32, 98, 111, 97, 114, 100] (by simp [msgs])
  have m3 := hni [110, 111, 32, 115, 117, 99, 104, 32, 100, 105, 114, 101, 99, 116, 105, 111, 110] (by simp [msgs])
  have m4 := hni [110, 111, 32, 115, 117, 99, 104, 32, 110, 117, 109, 98, 101, 114] (by simp [msgs])
  have m5 := hni [110, 111, 32, 115, 117, 99, 104, 32, 109, 97, 99, 104, 105, 110, 101] (by simp [msgs])
  have m6 := hni [110, 111, 32, 115, 117, 99, 104, 32, 98, 111, 111, 107] (by simp [msgs])
  have m7 := hni [110, 111, 32, 115, 117, 99, 104, 32, 103, 117, 97, 114, 100] (by simp [msgs])
  have m8 := hni [110, 111, 32, 115, 117, 99, 104, 32, 103, 97, 109, 101] (by simp [msgs])
  have m9 := hni [110, 111, 32, 115, 117, 99, 104, 32, 119, 101, 105, 103, 104, 116, 115] (by simp [msgs])
  have m10 := hni [110, 111, 32, 115, 117, 99, 104, 32, 112, 97, 112, 101, 114] (by simp [msgs])
  have m11 := hni [110, 111, 32, 115, 117, 99, 104, 32, 116, 101, 120, 116] (by simp [msgs])
  have m12 := hni [110, 111, 32, 115, 117, 99, 104, 32, 109, 111, 100, 115] (by simp [msgs])
  have m13 := hni [110, 111, 32, 115, 117, 99, 104, 32, 115, 97, 109, 112, 108, 101] (by simp [msgs])
  have m14 := hni [110, 111, 32, 115, 117, 99, 104, 32, 100, 101, 101, 100] (by simp [msgs])
  have m15 := hni [110, 111, 116, 104, 105, 110, 103, 32, 115, 111, 32, 99, 97, 108, 108, 101, 100] (by simp [msgs])
  have m16 := hni [116, 111, 111, 32, 109, 97, 110, 121] (by simp [msgs])
  clear hni
  have nn : ∀ L, cmpV L .ne (.lst []) (.lst []) = some false := fun L => ne_nil_n
  refine Exists.intro ?_ (And.intro ?_ ?_)
  rotate_left
  · unfold b99b
    trivial
    rfl
  · exact ⟨_, _, _, _, _, _, _, _, _, rfl⟩

end EV
end

section
namespace EV
open PySem
local macro_rules | `(tactic| trivial) => `(tactic| simp (config := {contextual := true, maxSteps := 1000000, implicitDefEqProofs := false}) (disch := first | with_reducible assumption | omega | (simp only [List.length_map, List.length_set, upto_len, List.length_cons, List.length_nil, List.length_append, big, Bool.not_eq_true, Bool.not_eq_true', Bool.not_eq_false', Bool.and_eq_true, decide_eq_true_eq, decide_eq_false_iff_not] at *; omega)) only [x_slot, x_cst, x_glob, x_fnv, x_bin, x_neg, x_not, x_cmp, x_chain, x_isN, x_notN, x_and, x_or, x_ife, x_tup, x_frz, x_mut, x_call, x_callk, x_callv, x_bi, x_split, x_join, x_index, x_append, x_ix, x_dget, x_sl, x_isi, x_dnew, x_xfld, x_mkx, x_mk0, x_isx, x_xfl, x_strx, x_tupr, x_nil, x_cons, x_onone, x_osome, x_tnone, x_tsome, x_knil, x_kcons, x_disp, x_lc, x_fsl, x_rev, x_cat, x_lis, x_val, x_rng, x_rng2, x_enum, x_zip, x_turn, x_comp, y_nil, y_cons, y_set, y_par, y_asg, y_setIx, y_setK, y_ex, y_ife, y_body, y_for, y_forW, y_turn, y_done, y_ret, y_retN, y_raise, y_pass, y_brk, y_cont, y_try, y_hs, kBin2, kBin1, kCmp2, kCmp1, kBool, kNot, kNeg, kCh3, kCh2, kCh1b, kCh1, kIsN, kNotN, kAnd, kOr, kIfe, kTup, kFrz, kMut, kCall, kCallk, kCallv, kBi, kMe2, kMe1, kAp3, kAp2, kAp1, kIx2, kIx1, kDg2, kDg1, kSl3, kSl2, kSl1, kIsi, kDnew, kTupr, kEs2, kEs1, kInt, kTst, kK4, kK3, kK2, kK1, kDisp, kLc, kFs4, kFs3, kFs2, kFs1, kRev2, kRev, kCat4, kCat3, kCat2, kCat1, kLis, kVal, kRng, kRng2b, kRng2, kEnum, kZip2, kZip1, kSome, kTn2, kTn1, jSeq, jSet, jPar, jAsg, jSx3, jSx2, jSx1, jSk3, jSk2, jSk1, jEx, jIf, jBody, jFor, jExc, kMkx, kIsx, kXfl, kStrx, bind_ok, bind_exc, bind_bad, then_ok, then_exc, then_bad, seq_next, seq_ret, seq_exc, seq_brk, seq_cont, seq_bad, optR_some, blR_some, slotR_some, condR_t, condR_f, condS_t, condS_f, condR_bl, condS_bl, join_and, join_or, bind_ite, then_ite, seq_ite, negR_int, notR_bl, boolR_bl, isNon_non, isNon_int, isNon_str, isNon_tup, isNon_lst, isNon_obj, sizR_0, sizR_1, sizR_2, sizR_3, sizR_4, sizR_5, sizR_6, sizR_7, sizR_8, sizR_ok, intR_int, tstR_bl, recvA_obj, recvL_lst, appR_obj, appL_ok, setKS_obj, setKO_str, setIxS_obj, valO_lst, valR_obj, recvS_str, xfR_ok, isxR_exv, xflR_exv, strxR_exv, tuprR_int, lstR_some, valR_lst, valR_tup, valR_ktup, valR_str, rngR_int, rng2R_int, enumR_lst, zipR_lst, zipR_tup, callvR_ok, noX_ok, noX_ite, noX_f, bindT_name, bindT_tup, bindT_ktup, bindTs_nil, bindTs_cons, wipe_nil, wipe_cons, envS_some, envB_some, loop_next, loop_cont, loop_brk, loop_ret, loop_exc, loop_ite, tryS_exc, tryS_ret, tryS_next, endH_ret, retS_next, retS_ret, retS_exc, retS_ite, setAll, o_isi_int_non, o_isi_int_bl, o_isi_int_int, o_isi_int_str, o_isi_int_tup, o_isi_int_ktup, o_isi_int_lst, o_isi_str_non, o_isi_str_bl, o_isi_str_int, o_isi_str_str, o_isi_str_tup, o_isi_str_ktup, o_isi_str_lst, o_isi_bool_non, o_isi_bool_bl, o_isi_bool_int, o_isi_bool_str, o_isi_bool_tup, o_isi_bool_ktup, o_isi_bool_lst, o_isi_tuple_non, o_isi_tuple_bl, o_isi_tuple_int, o_isi_tuple_str, o_isi_tuple_tup, o_isi_tuple_ktup, o_isi_tuple_lst, o_isi_list_non, o_isi_list_bl, o_isi_list_int, o_isi_list_str, o_isi_list_tup, o_isi_list_ktup, o_isi_list_lst, o_add_ii, o_sub_ii, o_add_ss, o_add_tt, o_add_ll, o_mul_il, o_mul_ir, o_pow_ii, o_dget, dictG_str, dictG_int, keyOf_s, keyOf_i, getset, dnewR_3, o_mod_ii, o_fdiv_ii, o_eq_int, o_eq_str, o_eq_bl, o_ne_int, o_ne_str, o_ne_bl, o_lt_i, o_le_i, o_gt_i, o_ge_i, o_in_s, o_nin_s, o_eq_d, o_ne_d, o_len_s, o_len_t, o_len_kt, o_len_l, o_tup_l, o_tup_t, oTup_l, oLen_l, oIx_l, oLst_l, o_tup_o, o_len_o, o_all, o_any, o_str_i, o_int_i, o_sum, o_join, o_join_t, o_split, atI_0, atI_1, atI_2, atI_3, o_ix_t, o_ix_kt, o_ix_l, o_ix_o, o_ix_s, o_sl_s, o_sl_t, o_sl_l, o_lof_l, o_sof_l, o_sof_t, o_lof_o, List.getElem?_cons_zero, List.getElem?_cons_succ, List.set_cons_zero, List.set_cons_succ, Option.bind_some, List.length_cons, List.length_nil, if_true, if_false, Bool.not_true, Bool.not_false, Bool.and_true, Bool.true_and, Bool.and_false, Bool.false_and, Bool.or_true, Bool.true_or, Bool.or_false, Bool.false_or, Bool.not_not, ite_true, ite_false, reduceIte, Nat.reduceAdd, Int.reduceAdd, Int.reduceSub, Int.reduceMod, Int.reduceMul, Nat.reduceLT, reduceCtorEq, startD, List.map_cons, List.map_nil, List.replicate_succ, List.replicate_zero, List.cons_append, List.nil_append, Nat.reduceSub, decide_true, decide_false, true_and, and_true, eq_self, Int.reduceEq, Int.reduceNe, Int.reduceLT, Int.reduceLE, Nat.reduceEqDiff, Int.reduceToNat, Nat.reduceLeDiff, List.length_map, signs_mp, join_opt, ne_nil_s, ne_nil_i, ne_nil_n, isEmpty_filt, upto_z, compL_nil, Int.toNat_natCast, id_eq, List.length_set, cst0, cst1, cst2, cst3, cst4, cst5, cst6, ne_eq, not_true_eq_false, not_false_eq_true, *])
local macro_rules | `(tactic| bv_omega) => `(tactic| (first | rfl | (simp [-List.all_eq_true] at *; done) | (simp [-List.all_eq_true] at *; omega) | (simp [-List.all_eq_true] at *; grind)))
local macro_rules | `(tactic| trivial) => `(tactic| simp (config := {contextual := true, maxSteps := 1000000, implicitDefEqProofs := false}) (disch := first | with_reducible assumption | omega | (simp only [List.length_map, List.length_set, upto_len, List.length_cons, List.length_nil, List.length_append, big, Bool.not_eq_true, Bool.not_eq_true', Bool.not_eq_false', Bool.and_eq_true, decide_eq_true_eq, decide_eq_false_iff_not] at *; omega)) only [x_slot, x_cst, x_glob, x_fnv, x_bin, x_neg, x_not, x_cmp, x_chain, x_isN, x_notN, x_and, x_or, x_ife, x_tup, x_frz, x_mut, x_call, x_callk, x_callv, x_bi, x_split, x_join, x_index, x_append, x_ix, x_dget, x_sl, x_isi, x_dnew, x_xfld, x_mkx, x_mk0, x_isx, x_xfl, x_strx, x_tupr, x_nil, x_cons, x_onone, x_osome, x_tnone, x_tsome, x_knil, x_kcons, x_disp, x_lc, x_fsl, x_rev, x_cat, x_lis, x_val, x_rng, x_rng2, x_enum, x_zip, x_turn, x_comp, y_nil, y_cons, y_set, y_par, y_asg, y_setIx, y_setK, y_ex, y_ife, y_body, y_for, y_forW, y_turn, y_done, y_ret, y_retN, y_raise, y_pass, y_brk, y_cont, y_try, y_hs, kBin2, kBin1, kCmp2, kCmp1, kBool, kNot, kNeg, kCh3, kCh2, kCh1b, kCh1, kIsN, kNotN, kAnd, kOr, kIfe, kTup, kFrz, kMut, kCall, kCallk, kCallv, kBi, kMe2, kMe1, kAp3, kAp2, kAp1, kIx2, kIx1, kDg2, kDg1, kSl3, kSl2, kSl1, kIsi, kDnew, kTupr, kEs2, kEs1, kInt, kTst, kK4, kK3, kK2, kK1, kDisp, kLc, kFs4, kFs3, kFs2, kFs1, kRev2, kRev, kCat4, kCat3, kCat2, kCat1, kLis, kVal, kRng, kRng2b, kRng2, kEnum, kZip2, kZip1, kSome, kTn2, kTn1, jSeq, jSet, jPar, jAsg, jSx3, jSx2, jSx1, jSk3, jSk2, jSk1, jEx, jIf, jBody, jFor, jExc, kMkx, kIsx, kXfl, kStrx, bind_ok, bind_exc, bind_bad, then_ok, then_exc, then_bad, seq_next, seq_ret, seq_exc, seq_brk, seq_cont, seq_bad, optR_some, blR_some, slotR_some, condR_t, condR_f, condS_t, condS_f, condR_bl, condS_bl, join_and, join_or, bind_ite, then_ite, seq_ite, negR_int, notR_bl, boolR_bl, isNon_non, isNon_int, isNon_str, isNon_tup, isNon_lst, isNon_obj, sizR_0, sizR_1, sizR_2, sizR_3, sizR_4, sizR_5, sizR_6, sizR_7, sizR_8, sizR_ok, intR_int, tstR_bl, recvA_obj, recvL_lst, appR_obj, appL_ok, setKS_obj, setKO_str, setIxS_obj, valO_lst, valR_obj, recvS_str, xfR_ok, isxR_exv, xflR_exv, strxR_exv, tuprR_int, lstR_some, valR_lst, valR_tup, valR_ktup, valR_str, rngR_int, rng2R_int, enumR_lst, zipR_lst, zipR_tup, callvR_ok, noX_ok, noX_ite, noX_f, bindT_name, bindT_tup, bindT_ktup, bindTs_nil, bindTs_cons, wipe_nil, wipe_cons, envS_some, envB_some, loop_next, loop_cont, loop_brk, loop_ret, loop_exc, loop_ite, tryS_exc, tryS_ret, tryS_next, endH_ret, retS_next, retS_ret, retS_exc, retS_ite, setAll, o_isi_int_non, o_isi_int_bl, o_isi_int_int, o_isi_int_str, o_isi_int_tup, o_isi_int_ktup, o_isi_int_lst, o_isi_str_non, o_isi_str_bl, o_isi_str_int, o_isi_str_str, o_isi_str_tup, o_isi_str_ktup, o_isi_str_lst, o_isi_bool_non, o_isi_bool_bl, o_isi_bool_int, o_isi_bool_str, o_isi_bool_tup, o_isi_bool_ktup, o_isi_bool_lst, o_isi_tuple_non, o_isi_tuple_bl, o_isi_tuple_int, o_isi_tuple_str, o_isi_tuple_tup, o_isi_tuple_ktup, o_isi_tuple_lst, o_isi_list_non, o_isi_list_bl, o_isi_list_int, o_isi_list_str, o_isi_list_tup, o_isi_list_ktup, o_isi_list_lst, o_add_ii, o_sub_ii, o_add_ss, o_add_tt, o_add_ll, o_mul_il, o_mul_ir, o_pow_ii, o_dget, dictG_str, dictG_int, keyOf_s, keyOf_i, getset, dnewR_3, o_mod_ii, o_fdiv_ii, o_eq_int, o_eq_str, o_eq_bl, o_ne_int, o_ne_str, o_ne_bl, o_lt_i, o_le_i, o_gt_i, o_ge_i, o_in_s, o_nin_s, o_eq_d, o_ne_d, o_len_s, o_len_t, o_len_kt, o_len_l, o_tup_l, o_tup_t, oTup_l, oLen_l, oIx_l, oLst_l, o_tup_o, o_len_o, o_all, o_any, o_str_i, o_int_i, o_sum, o_join, o_join_t, o_split, atI_0, atI_1, atI_2, atI_3, o_ix_t, o_ix_kt, o_ix_l, o_ix_o, o_ix_s, o_sl_s, o_sl_t, o_sl_l, o_lof_l, o_sof_l, o_sof_t, o_lof_o, List.getElem?_cons_zero, List.getElem?_cons_succ, List.set_cons_zero, List.set_cons_succ, Option.bind_some, List.length_cons, List.length_nil, if_true, if_false, Bool.not_true, Bool.not_false, Bool.and_true, Bool.true_and, Bool.and_false, Bool.false_and, Bool.or_true, Bool.true_or, Bool.or_false, Bool.false_or, Bool.not_not, ite_true, ite_false, reduceIte, Nat.reduceAdd, Int.reduceAdd, Int.reduceSub, Int.reduceMod, Int.reduceMul, Nat.reduceLT, reduceCtorEq, startD, List.map_cons, List.map_nil, List.replicate_succ, List.replicate_zero, List.cons_append, List.nil_append, Nat.reduceSub, decide_true, decide_false, true_and, and_true, eq_self, Int.reduceEq, Int.reduceNe, Int.reduceLT, Int.reduceLE, Nat.reduceEqDiff, Int.reduceToNat, Nat.reduceLeDiff, List.length_map, signs_mp, join_opt, ne_nil_s, ne_nil_i, ne_nil_n, isEmpty_filt, upto_z, compL_nil, Int.toNat_natCast, id_eq, List.length_set, cst0, cst1, cst2, cst3, cst4, cst5, cst6, ne_eq, not_true_eq_false, not_false_eq_true, compL_un, kC1, compL_un0, kC2_some, kC2_none, List.cons_append, List.nil_append, *])
def ths : List (D × List Nat) := [(.str [122, 113, 122, 113], [122, 113, 122, 113]), (.int n30, [49, 48, 48, 48, 48, 48, 48, 48, 48, 48, 48, 48, 48, 48, 48, 48, 48, 48, 48, 48, 48, 48, 48, 48, 48, 48, 48, 48, 48, 48, 48]), (.int 70707, [55, 48, 55, 48, 55])]
theorem ths_ok : ∀ p ∈ ths, p.1.pure = true ∧ (∀ L, biV L .str [p.1] = some (.str p.2)) ∧ ∀ m ∈ msgs, ∀ L, cmpV L .isin (.str p.2) (.str m) = some false := by
  unfold ths; simp only [List.mem_cons, List.not_mem_nil, or_false]
  rintro p (rfl | rfl | rfl)
  · refine ⟨rfl, fun L => rfl, ?_⟩
    unfold msgs; simp only [List.mem_cons, List.not_mem_nil, or_false]
    rintro m (rfl | rfl | rfl | rfl | rfl | rfl | rfl | rfl | rfl | rfl | rfl | rfl | rfl | rfl | rfl | rfl | rfl) L <;> kernel_rfl
  · refine ⟨rfl, fun L => ?_, ?_⟩
    · rw [o_str_i ⟨by decide, by decide +kernel⟩]
      kernel_rfl
    unfold msgs; simp only [List.mem_cons, List.not_mem_nil, or_false]
    rintro m (rfl | rfl | rfl | rfl | rfl | rfl | rfl | rfl | rfl | rfl | rfl | rfl | rfl | rfl | rfl | rfl | rfl) L <;> kernel_rfl
  · refine ⟨rfl, fun L => ?_, ?_⟩
    · rw [o_str_i ⟨by decide, by decide +kernel⟩]
      kernel_rfl
    unfold msgs; simp only [List.mem_cons, List.not_mem_nil, or_false]
    rintro m (rfl | rfl | rfl | rfl | rfl | rfl | rfl | rfl | rfl | rfl | rfl | rfl | rfl | rfl | rfl | rfl | rfl) L <;> kernel_rfl
def eThs : E := (.tup (.cons (.cst (.str [122, 113, 122, 113])) (.cons (.bin .pow (.cst (.int 10)) (.cst (.int 30))) (.cons (.cst (.int 70707)) .nil))))
theorem eThs_ev (cf : Nat → List D → M D) (ρ : Env) (L : Store) : evE cf eThs ρ L = .ok (.tup (ths.map (·.1))) L := by
  have h30 := n30_ev
  unfold e30 at h30
  unfold eThs
  generalize E.bin Bin.pow (.cst (.int 10)) (.cst (.int 30)) = ec at h30 ⊢
  simp only [evE, evEs, R.bind, h30, List.length_cons, List.length_nil]
  rw [if_pos (by unfold big; omega)]
  rfl
theorem mulL {L : Store} {k : Int} (h : 0 ≤ k ∧ k < 2 ^ 63 ∧ [D.non].length * k.toNat ≤ big) : binV L .mul (.lst [.non]) (.int k) = some (.lst (List.replicate k.toNat [D.non]).flatten) := by
  unfold binV
  simp only [listOf]
  exact if_pos h
theorem pure99 (ns : List Int) (hn : ns.length ≤ 63) : ∃ L, evFn fs99 3 7 [.lst (ns.map .int)] [] = .ok (.bl true) L := by
  obtain ⟨l4, hl4⟩ : ∃ l4 : List Int, l4 = cutL ns none (some 4) ++ [ns.sum] := ⟨_, rfl⟩
  have l4n : l4.length ≤ 64 := by
    have := cutL_len ns none (some 4)
    rw [hl4, List.length_append]
    simp only [List.length_cons, List.length_nil]
    omega
  have cl : (cutL (ns.map D.int) none (some 4)).length ≤ 63 := by have := cutL_len (ns.map D.int) none (some 4); rw [List.length_map] at this; omega
  have cc : cutL (ns.map D.int) none (some 4) ++ [.int ns.sum] = l4.map .int := by rw [hl4, cutL_map, List.map_append]; rfl
  have np := numbered_pairs l4 0
  have pm := pairsA_mem l4 0
  have loop := for_st (b := bodyF (evFn fs99 2) (.tup (.cons (.name 4) (.cons (.name 5) .nil))) b99) (k := fun q : Int × Int => D.tup [.int q.1, .int q.2]) (I := fun _ N ρ L => (∃ a k0 c0 s0 n0, ρ = [some (.lst (ns.map .int)), a, none, none, k0, c0, s0, n0, none, none, none, none, none]) ∧ storeP L = true) 0 (w := pairsA 0 l4) (n := 0) (ρ := [some (.lst (ns.map .int)), none, none, none, none, none, none, none, none, none, none, none, none]) (L := []) ⟨⟨_, _, _, _, _, rfl⟩, rfl⟩ (fun d q r hw N ρ L hI => by
      obtain ⟨⟨a, k0, c0, s0, n0, rfl⟩, hs⟩ := hI
      have := pm q (by rw [hw]; simp)
      exact turn7 (n := 0) (d := none) (by omega) (by omega) hs)
  obtain ⟨ρ', K, el, ⟨a, k0, c0, s0, n0, rfl⟩, hs⟩ := loop
  unfold b99 at el
  have h6 : ∀ L, binV L .mul (.lst [.non]) (.int 6) = some (.lst [.non, .non, .non, .non, .non, .non]) := fun L => mulL ⟨by decide, by decide, by decide⟩
  have h10 : ∀ L, binV L .mul (.lst [.non]) (.int 10) = some (.lst [.non, .non, .non, .non, .non, .non, .non, .non, .non, .non]) := fun L => mulL ⟨by decide, by decide, by decide⟩
  have n6 : ∀ L, cmpV L .ne (.lst [.non, .non, .non, .non, .non, .non]) (.lst [.non, .non, .non, .non, .non, .non]) = some false := fun L => ne_self rfl
  have n10 : ∀ L, cmpV L .ne (.lst [.non, .non, .non, .non, .non, .non, .non, .non, .non, .non]) (.lst [.non, .non, .non, .non, .non, .non, .non, .non, .non, .non]) = some false := fun L => ne_self rfl
  have het := eThs_ev
  have tl : (ths.map (·.1)).length = 3 := rfl
  clear hs pm hl4
  refine ⟨K, run_to P99_7 rfl rfl ?_⟩
  unfold P99_7
  have hE : eThs = (.tup (.cons (.cst (.str [122, 113, 122, 113])) (.cons (.bin .pow (.cst (.int 10)) (.cst (.int 30))) (.cons (.cst (.int 70707)) .nil)))) := rfl
  rw [← hE]
  generalize eThs = et at het
  generalize htt : List.map (fun x : D × List Nat => x.1) ths = tt at het tl
  clear hE
  have key : ∀ tt' : List D, tt' = tt → tt' = List.map (fun x : D × List Nat => x.1) ths := fun tt' e => e.trans htt.symm
  clear htt
  trivial
  rw [key tt rfl]
  refine seq_all_t (fun s => retS s = .ok (.bl true) K) (fun _ => true) (fun ρ => ∃ a0 a1 a2 a3 a4 a5 a6 a7 a8, ρ = [a0, a1, a2, a3, a4, a5, a6, a7, a8, none, none, none, none]) (.bl false) ⟨_, _, _, _, _, _, _, _, _, rfl⟩ ?_ (fun _ _ _ _ z => nomatch z) (by simp) ?_
  · rintro r hr ρ ⟨a0, a1, a2, a3, a4, a5, a6, a7, a8, rfl⟩ _
    obtain ⟨o1, o2, o3⟩ := ths_ok r hr
    obtain ⟨ρ', e, p⟩ := turn7b (n := 0) (a0 := a0) (a1 := a1) (a2 := a2) (a3 := a3) (a4 := a4) (a5 := a5) (a6 := a6) (a7 := a7) (a8 := a8) (L := K) o1 o2 o3
    exact ⟨ρ', p, e⟩
  · rintro ρ ⟨a0, a1, a2, a3, a4, a5, a6, a7, a8, rfl⟩
    trivial

end EV
end

namespace EV
def P99_depth : Nat := 3
theorem P99_ok : P99_dat.okB = true := by kernel_rfl
theorem P99_pure : ∀ ns : List Int, ns.length ≤ 63 → ∃ L, evFn P99_dat.fs P99_depth 7 [.lst (ns.map .int)] [] = .ok (.bl true) L := fun ns h => pure99 ns h
end EV

set_option maxHeartbeats 8000000
namespace EV
open PySem PySem.Spec PyProof.Rows
abbrev P99_R : PySem.W.OpenRow := PySem.W.OpenLaw.row PySem.Challenge.rw_playedalike_k99_errors_by_hand
abbrev P99_hk : PySem.W.Hook := hookL 6 P99_dat.fa P99_dat.fn P99_dat.ex
def P99_ob (s : PySem.W.SharedT) : AlL := obsL 6 P99_dat.fa P99_dat.fn P99_dat.ex (HandSHeadRun.getT s)
theorem P99_obeq (s : PySem.W.SharedT) : P99_ob s = P99_hk.obs s.abs := obsL_eq (HandSHeadRun.getT_eq s)
def P99_nm : List PySem.Str := (["PlayError", "BadSigns", "BadLine", "BadBoard", "BadDirection", "BadMachine", "BadBook", "BadGuard", "BadGame", "BadWeights", "BadPaper", "BadText", "BadNumber", "BadMods", "BadSample", "BadDeed", "TooMany", "NoSuch", "_law_mixed", "_law_draw", "_law_digit", "_law_kinds", "_law_valued", "_law_placed", "_law_right"] : List PySem.Str)
theorem P99_run (w : World) : HandSHeadRun.RunEq P99_R (PySem.W.view P99_R.prog [27]) P99_hk P99_ob 6000 P99_nm w := by
  intro os
  kernel_rfl
end EV
open PySem PySem.W PySem.Calls PyProof.Rows
theorem PySem.Challenge.cw_playedalike_k99_errors_by_hand_holds : PySem.Challenge.rw_playedalike_k99_errors_by_hand.Holds := by
  w_on; o_law
  refine HandSHeadRun.head_any (r := OpenLaw.row PySem.Challenge.rw_playedalike_k99_errors_by_hand) (q := view (OpenLaw.row PySem.Challenge.rw_playedalike_k99_errors_by_hand).prog [27]) (H := EV.P99_hk) (ob := EV.P99_ob) (M := 6000) (loose := EV.P99_nm) (d := HandSHeadRun.topDef (OpenLaw.row PySem.Challenge.rw_playedalike_k99_errors_by_hand).prog 27) (kwd := []) EV.P99_obeq
    (by kernel_rfl) (fun s => by kernel_rfl) EV.P99_run (by kernel_rfl) (by kernel_rfl) (by kernel_rfl) (by rfl) (by first | assumption | decide +kernel) (by decide +kernel) ⟨rfl, rfl, rfl, rfl, rfl, by decide +kernel⟩ ?hw ?hc
  case hw => w_witness2
  case hc =>
    exact EV.end_of (l := PySem.Challenge.rw_playedalike_k99_errors_by_hand) (d := EV.P99_dat) (n := EV.P99_depth) (ix := 7) (x := "script") rfl (by kernel_rfl) EV.P99_ok rfl (by kernel_rfl) (by kernel_rfl) ⟨rfl, by decide, by decide⟩ EV.P99_pure

