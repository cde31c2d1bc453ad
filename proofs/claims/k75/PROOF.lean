import PyProof.Rows.All
import Wide.All
import OpenK.AllK
import Wide.FinOn
import HandS.ForMost
import HandS.Exc
import HandS.ExcInit
import HandS.Codes
import HandS.Style
import HandS.Conv
import HandS.TupMul
import HandS.CallLocal
import HandS.Zip
import HandS.Small
import HandS.Deep
import HandS.TupAny
import HandS.IsInst
import HandS.Replace
import HandS.WordsDict
import HandS.CallSlots
import KE.GoesRaise
import HandS.ExcField
import HandS.Defaults
import HandS.CallRecv
import HandS.Head0
import HandS.Head1
import HandS.Head2
import HandS.HeadEnd
import HandS.HeadHook1
import HandS.HeadHook2
import HandS.Words
import PySem.Challenge.RW_playedalike_k75_texts_of_machines_and_gu
set_option Elab.async false
set_option linter.all false
set_option maxRecDepth 100000
section
/-! A small pure evaluator over plain data, for the subset of Python in which the program is written. -/
namespace EV
open PySem

/-- data: plain values, frozen lists, mutable objects by their number in the store, functions of the text -/
inductive D where
  | non
  | bl (b : Bool)
  | int (i : Int)
  | str (x : List Nat)
  | tup (ds : List D)
  | lst (ds : List D)
  /-- a tuple that is a constant of the text -/
  | ktup (ds : List D)
  | obj (k : Nat)
  | fn (f : Nat)
  | exn (c : Nat) (d : D)

instance : Inhabited D := ⟨.non⟩

inductive O where
  | lst (ds : List D)
  | dK (kvs : List (L2.Key × D))
  | dT (kvs : List (List L2.Key × D))

abbrev Store := List O
abbrev Env := List (Option D)

inductive R (α : Type) where
  | ok (a : α) (L : Store)
  | exc (c : Nat) (d : D) (L : Store)
  | bad

@[reducible] def M (α : Type) := Store → R α
def R.bind {α β : Type} (r : R α) (f : α → M β) : R β := match r with
  | .ok a L => f a L
  | .exc c d L => .exc c d L
  | .bad => .bad
def M.bind {α β : Type} (m : M α) (f : α → M β) : M β := fun L => (m L).bind f
def M.pure {α : Type} (a : α) : M α := fun L => .ok a L
instance : Monad M where
  pure := M.pure
  bind := M.bind
def bad {α : Type} : M α := fun _ => .bad
def ofOpt {α : Type} : Option α → M α
  | some a => M.pure a
  | none => bad
def guardM (b : Bool) : M Unit := if b then M.pure () else bad

/-! ### pure looks at data -/
mutual
/-- no object within -/
def D.pure : D → Bool
  | .obj _ => false
  | .tup ds => purAll ds
  | .lst ds => purAll ds
  | .ktup ds => purAll ds
  | .exn _ _ => false
  | _ => true
def purAll : List D → Bool
  | [] => true
  | d :: ds => d.pure && purAll ds
end

mutual
/-- as the library's plain data: no objects, no functions -/
def D.py : D → PyData
  | .non => .none
  | .bl b => .bool b
  | .int i => .int i
  | .str x => .str (SX.S x)
  | .tup ds => .tuple (pyAll ds)
  | .lst ds => .list (pyAll ds)
  | .ktup ds => .tuple (pyAll ds)
  | _ => .none
def pyAll : List D → List PyData
  | [] => []
  | d :: ds => d.py :: pyAll ds
end
mutual
/-- == -/
def D.eqv : D → D → Bool
  | .non, .non => true
  | .bl a, .bl b => a == b
  | .bl a, .int j => (if a then 1 else 0) == j
  | .int i, .bl b => i == (if b then 1 else 0)
  | .int i, .int j => i == j
  | .str a, .str b => a == b
  | .tup xs, .tup ys => eqvAll xs ys
  | .lst xs, .lst ys => eqvAll xs ys
  | .ktup xs, .tup ys => eqvAll xs ys
  | .tup xs, .ktup ys => eqvAll xs ys
  | .ktup xs, .ktup ys => eqvAll xs ys
  | _, _ => false
def eqvAll : List D → List D → Bool
  | [], [] => true
  | x :: xs, y :: ys => x.eqv y && eqvAll xs ys
  | _, _ => false
end
mutual
/-- plain data of at most this depth -/
def D.shp : Nat → D → Bool
  | _, .non => true
  | _, .bl _ => true
  | _, .int _ => true
  | _, .str _ => true
  | n + 1, .tup ds => shpAll n ds
  | n + 1, .lst ds => shpAll n ds
  | n + 1, .ktup ds => shpAll n ds
  | _, _ => false
def shpAll : Nat → List D → Bool
  | _, [] => true
  | n, d :: ds => d.shp n && shpAll n ds
end

/-- the items of a list, frozen or an object -/
def listOf (L : Store) : D → Option (List D)
  | .lst ds => some ds
  | .obj k => match L[k]? with
    | some (.lst ds) => some ds
    | _ => none
  | _ => none
/-- of a list or a tuple -/
def seqOf (L : Store) : D → Option (List D)
  | .tup ds => some ds
  | .ktup ds => some ds
  | d => listOf L d

def keyOf : D → Option L2.Key
  | .int i => some (.inl i)
  | .str x => some (.inr (SX.S x))
  | _ => none
def keysOf : List D → Option (List L2.Key)
  | [] => some []
  | d :: ds => match keyOf d, keysOf ds with
    | some k, some r => some (k :: r)
    | _, _ => none
/-- the signs of a text -/
def signs (x : List Nat) : List D := x.map fun c => .str [c]

/-! ### the syntax -/
inductive Bin where | add | sub | mul | fdiv | mod | pow
  deriving DecidableEq
inductive Cmp where | eq | ne | lt | le | gt | ge | isin | notin
  deriving DecidableEq
inductive Ty where | int | str | bool | tuple | list
  deriving DecidableEq
/-- built-in functions and types, called by name -/
inductive Bi where | len | tuple | all | any | sum | str | int
  deriving DecidableEq
/-- methods of built-in types -/
inductive Me where | split | join | index | append | count | startswith | endswith
  deriving DecidableEq

mutual
inductive E where
  | slot (i : Nat)
  | cst (d : D)
  | glob (d : D)
  | fnv (f : Nat)
  | bin (o : Bin) (a b : E)
  | neg (a : E)
  | not (a : E)
  | cmp (o : Cmp) (a b : E)
  | chain (o1 o2 : Cmp) (a b c : E)
  | isN (a : E)
  | notN (a : E)
  | and (a b : E)
  | or (a b : E)
  | ife (t a b : E)
  | tup (es : Es)
  | frz (f : F)
  | mut (f : F)
  | call (f : Nat) (es : Es)
  | callk (f : Nat) (es : Es)
  | callv (i n : Nat) (es : Es)
  | bi (b : Bi) (es : Es)
  | meth (m : Me) (o : E) (es : Es)
  | ix (a b : E)
  | dget (a b : E)
  | sl (a : E) (lo hi : Oe)
  | isi (a : E) (t : Ty)
  | dnew (kt : Bool) (kvs : Kvs)
  | xfld (i c : Nat)
  | tupr (a : E)
inductive Es where
  | nil
  | cons (e : E) (r : Es)
inductive Oe where
  | none
  | some (e : E)
inductive Kvs where
  | nil
  | cons (k v : E) (r : Kvs)
/-- lists that are made anew -/
inductive F where
  | disp (es : Es)
  | lc (n : Bool) (elt : E) (tg : Tg) (it : It) (t : Oe) (own : List Nat)
  | sl (a : E) (lo hi : Oe)
  | rev (a : E)
  | cat (a b : E)
  | lis (a : E)
/-- what is walked -/
inductive It where
  | val (e : E)
  | range1 (a : E)
  | range2 (a b : E)
  | enum (e : E)
  | zip (a b : E)
/-- targets -/
inductive Tg where
  | name (i : Nat)
  | tup (ts : Tgs)
inductive Tgs where
  | nil
  | cons (t : Tg) (r : Tgs)
end

mutual
inductive S where
  | set (i : Nat) (e : E)
  | par (is : List Nat) (es : Es)
  | asg (t : Tg) (e : E)
  | setIx (o i e : E)
  | setK (o i e : E)
  | aug (i : Nat) (o : Bin) (e : E)
  | ex (e : E)
  | ife (t : E) (a b : Ss)
  | for_ (t : Tg) (it : It) (b : Ss)
  | while_ (t : E) (b : Ss)
  | ret (e : E)
  | retN
  | raise (c : Nat) (e : E)
  | try_ (b : Ss) (hs : Hs)
  | pass
  | brk
  | cont
inductive Ss where
  | nil
  | cons (s : S) (r : Ss)
/-- except C as n: s -/
inductive Hs where
  | nil
  | cons (n c : Nat) (i : Option Nat) (s : Ss) (r : Hs)
end
end EV
end

section
namespace EV
open PySem

def big : Nat := 16777216

/-! ### operators by values -/
def cmul (i j : Int) : Bool := (decide (-(2 ^ 64) < i) && decide (i < 2 ^ 64)) || (decide (-(2 ^ 64) < j) && decide (j < 2 ^ 64))
/-- a op b -/
def binV (L : Store) (o : Bin) (x y : D) : Option D :=
  match o, x, y with
  | .add, .int i, .int j => some (.int (i + j))
  | .add, .str a, .str b => if a.length + b.length ≤ big then some (.str (a ++ b)) else none
  | .add, .tup a, .tup b => if a.length + b.length ≤ big then some (.tup (a ++ b)) else none
  | .sub, .int i, .int j => some (.int (i - j))
  | .mul, .int i, .int j => if cmul i j then some (.int (i * j)) else none
  | .mul, .tup a, .int k => if a ≠ [] ∧ 2 ≤ k ∧ k ≤ 1000 ∧ a.length ≤ 1000 then some (.tup (List.replicate k.toNat a).flatten) else none
  | .mul, .str a, .int k => if 0 ≤ k ∧ k < 2 ^ 63 ∧ a.length * k.toNat ≤ big then some (.str (List.replicate k.toNat a).flatten) else none
  | .fdiv, .int i, .int j => if 0 < j ∧ j < 1073741824 then some (.int (i / j)) else none
  | .mod, .int i, .int j => if 0 < j then some (.int (i % j)) else none
  | .pow, .int i, .int j => if 0 ≤ j ∧ j ≤ 1000000 ∧ i.natAbs < 2 ^ 64 then some (.int (i ^ j.toNat)) else none
  | .add, x, y => match listOf L x, listOf L y with
    | some a, some b => if a.length + b.length ≤ big then some (.lst (a ++ b)) else none
    | _, _ => none
  | .mul, x, .int k => match listOf L x with
    | some a => if 0 ≤ k ∧ k < 2 ^ 63 ∧ a.length * k.toNat ≤ big then some (.lst (List.replicate k.toNat a).flatten) else none
    | none => none
  | _, _, _ => none

/-- a look through an object's list -/
def derf (L : Store) : D → D
  | .obj k => match L[k]? with
    | some (.lst ds) => .lst ds
    | _ => .obj k
  | d => d
/-- == of data -/
def eqV (L : Store) (x y : D) : Option Bool :=
  match x, y with
  | .int i, .int j => some (decide (i = j))
  | .str a, .str b => some (decide (a = b))
  | .bl a, .bl b => some (decide (a = b))
  | x, y => if (derf L x).shp 64 && (derf L y).shp 64 then some ((derf L x).eqv (derf L y)) else none
/-- flat values: x in a list -/
def flat : D → Bool
  | .int _ => true
  | .str _ => true
  | .bl _ => true
  | .non => true
  | _ => false
def valK {κ : Type} [DecidableEq κ] : List (κ × D) → κ → Option D
  | [], _ => none
  | (k, d) :: r, x => if k = x then some d else valK r x
def putK {κ : Type} [DecidableEq κ] (kvs : List (κ × D)) (x : κ) (v : D) : List (κ × D) :=
  if (valK kvs x).isSome then kvs.map fun p => if p.1 = x then (p.1, v) else p else kvs ++ [(x, v)]
/-- d.get(k) of a dict that is an object -/
def dictGet (L : Store) (x k : D) : Option (Option D) :=
  match x with
  | .obj n => match L[n]?, k with
    | some (.dK kvs), k => match keyOf k with
      | some q => some (valK kvs q)
      | none => none
    | some (.dT kvs), .tup ds => match keysOf ds with
      | some q => some (valK kvs q)
      | none => none
    | _, _ => none
  | _ => none
def inV (L : Store) (x y : D) : Option Bool :=
  match y with
  | .str b => match x with
    | .str [c] => some (decide (c ∈ b))
    | .str a => some (!(Builtin.Str.occurrences (SX.S b) (SX.S a) 0 (SX.S b).length 1).isEmpty)
    | _ => none
  | y => match seqOf L y with
    | some ds => if flat x && ds.all flat then some (ds.any fun d => d.eqv x) else match y with
      | .tup _ => none
      | .ktup _ => none
      | _ => if x.shp 64 && shpAll 63 ds then some (ds.any fun d => d.eqv x) else none
    | none => match dictGet L y x with
      | some o => some o.isSome
      | none => none
def lexI : List Int → List Int → Bool := HT.lexLt
def intsOf : List D → Option (List Int)
  | [] => some []
  | .int i :: r => match intsOf r with
    | some l => some (i :: l)
    | none => none
  | _ :: _ => none
def cmpV (L : Store) (o : Cmp) (x y : D) : Option Bool :=
  match o with
  | .eq => eqV L x y
  | .ne => match eqV L x y with
    | some b => some (!b)
    | none => none
  | .isin => inV L x y
  | .notin => match inV L x y with
    | some b => some (!b)
    | none => none
  | .lt => match x, y with
    | .int i, .int j => some (decide (i < j))
    | .str a, .str b => some (decide (a < b))
    | .tup a, .tup b => match intsOf a, intsOf b with
      | some a, some b => some (lexI a b)
      | _, _ => none
    | _, _ => none
  | .le => match x, y with
    | .int i, .int j => some (decide (i ≤ j))
    | _, _ => none
  | .gt => match x, y with
    | .int i, .int j => some (decide (j < i))
    | _, _ => none
  | .ge => match x, y with
    | .int i, .int j => some (decide (j ≤ i))
    | _, _ => none
/-- truth -/
def truV (L : Store) (x : D) : Option Bool :=
  match x with
  | .bl b => some b
  | _ => none
/-- o[i] -/
def ixV (L : Store) (x i : D) : Option D :=
  match x, i with
  | .str a, .int i => if a.length ≤ big then match L2.atI a i with
    | some c => some (.str [c])
    | none => none else none
  | x, .int i => match seqOf L x with
    | some ds => L2.atI ds i
    | none => none
  | _, _ => none
def cutL {α : Type} (xs : List α) (lo hi : Option Int) : List α := (xs.drop (HT.sIx xs.length 0 lo)).take (HT.sIx xs.length xs.length hi - HT.sIx xs.length 0 lo)
/-- o[lo:hi] -/
def slV (L : Store) (x : D) (lo hi : Option Int) : Option D :=
  match x with
  | .str a => if a.length ≤ big then some (.str (cutL a lo hi)) else none
  | .tup ds => some (.tup (cutL ds lo hi))
  | x => match listOf L x with
    | some ds => some (.lst (cutL ds lo hi))
    | none => none
def isiV (t : Ty) (L : Store) (x : D) : Option Bool :=
  match x with
  | .non => some false
  | .bl _ => some (t == .bool || t == .int)
  | .int _ => some (t == .int)
  | .str _ => some (t == .str)
  | .tup _ => some (t == .tuple)
  | .ktup _ => some (t == .tuple)
  | .lst _ => some (t == .list)
  | .obj k => match L[k]? with
    | some (.lst _) => some (t == .list)
    | some _ => some false
    | none => none
  | _ => none
def blsOf : List D → Option (List Bool)
  | [] => some []
  | .bl b :: r => match blsOf r with
    | some l => some (b :: l)
    | none => none
  | _ :: _ => none
def strsOf : List D → Option (List (List Nat))
  | [] => some []
  | .str b :: r => match strsOf r with
    | some l => some (b :: l)
    | none => none
  | _ :: _ => none
/-- a built-in by its name -/
def biV (L : Store) (b : Bi) (xs : List D) : Option D :=
  match b, xs with
  | .len, [.str a] => if a.length ≤ big then some (.int a.length) else none
  | .len, [x] => match seqOf L x with
    | some ds => some (.int ds.length)
    | none => match x with
      | .obj k => match L[k]? with
        | some (.dK kvs) => some (.int kvs.length)
        | _ => none
      | _ => none
  | .tuple, [.ktup ds] => some (.ktup ds)
  | .tuple, [x] => match seqOf L x with
    | some ds => some (.tup ds)
    | none => none
  | .all, [x] => match listOf L x with
    | some ds => match blsOf ds with
      | some bs => some (.bl (bs.all id))
      | none => none
    | none => none
  | .any, [x] => match listOf L x with
    | some ds => match blsOf ds with
      | some bs => some (.bl (bs.any id))
      | none => none
    | none => none
  | .sum, [x] => match listOf L x with
    | some ds => match intsOf ds with
      | some ns => some (.int ns.sum)
      | none => none
    | none => none
  | .str, [.int i] => if 0 ≤ i ∧ i.natAbs.log2 < 1920 then some (.str (TL.numL i.toNat)) else none
  | .int, [.int i] => some (.int i)
  | .int, [.str a] => if a.length ≤ 640 then match PySem.intText? (SX.S a) with
    | some n => some (.int n)
    | none => none else none
  | _, _ => none
def lens (ys : List (List Nat)) : Nat := (ys.map List.length).sum
/-- a method that changes nothing -/
def meV (L : Store) (m : Me) (o : D) (xs : List D) : Option D :=
  match m, o, xs with
  | .split, .str a, [.str b] => if b ≠ [] ∧ b.all (· < 256) ∧ a.length + 2 ≤ big then some (.lst ((TL.spl b 0 [] a).map .str)) else none
  | .join, .str a, [x] => match seqOf L x with
    | some ds => match strsOf ds with
      | some ys => if lens ys + a.length * ys.length ≤ big then some (.str (TL.joinL a ys)) else none
      | none => none
    | none => none
  | .index, .str a, [.str b] => if b ≠ [] then match TL.par b [] a with
    | some p => some (.int (p.1.length : Nat))
    | none => none else none
  | .startswith, .str a, [.str b] => some (.bl (Txt.startswith (SX.S a) (SX.S b)))
  | .endswith, .str a, [.str b] => some (.bl (Txt.endswith (SX.S a) (SX.S b)))
  | _, _, _ => none

/-! ### the walk -/
def wipeD (ρ : Env) : List Nat → Env
  | [] => ρ
  | v :: vs => (wipeD ρ vs).set v none
/-- the items of a tuple -/
def tupOf : D → Option (List D)
  | .tup ds => some ds
  | .ktup ds => some ds
  | _ => none
mutual
def bindT : Tg → D → Env → Option Env
  | .name i, d, ρ => some (ρ.set i (some d))
  | .tup ts, d, ρ => match tupOf d with
    | some ds => bindTs ts ds ρ
    | none => none
def bindTs : Tgs → List D → Env → Option Env
  | .nil, [], ρ => some ρ
  | .cons t r, d :: ds, ρ => match bindT t d ρ with
    | some ρ' => bindTs r ds ρ'
    | none => none
  | _, _, _ => none
end
mutual
/-- the slots of a target -/
def tgIx : Tg → List Nat
  | .name i => [i]
  | .tup ts => tgsIx ts
def tgsIx : Tgs → List Nat
  | .nil => []
  | .cons t r => tgIx t ++ tgsIx r
end
def lenTs : Tgs → Nat
  | .nil => 0
  | .cons _ r => lenTs r + 1
def upto (a : Int) : Nat → List D
  | 0 => []
  | n + 1 => .int a :: upto (a + 1) n
def numbered (a : Int) : List D → List D
  | [] => []
  | d :: ds => .tup [.int a, d] :: numbered (a + 1) ds
def zipD : List D → List D → List D
  | a :: r, b :: s => .tup [a, b] :: zipD r s
  | _, _ => []
/-- what is walked: values, or an object's list as it stands at each turn -/
inductive Wk where
  | vals (ds : List D)
  | obj (k : Nat)
/-- a comprehension's loop: f gives the new item, or none -/
def compL (f : D → M (Option D)) : List D → M (List D)
  | [], L => .ok [] L
  | d :: ds, L => (f d L).bind fun o L1 => (compL f ds L1).bind fun r L2 => .ok (match o with
    | some x => x :: r
    | none => r) L2
def items (w : Wk) (L : Store) : Option (List D) := match w with
  | .vals ds => some ds
  | .obj k => listOf L (.obj k)
/-- turn by turn: n turns at most -/
def compG (f : D → M (Option D)) (w : Wk) : Nat → Nat → M (List D)
  | 0, _, _ => .bad
  | n + 1, i, L => match items w L with
    | none => .bad
    | some ds => match ds[i]? with
      | none => .ok [] L
      | some d => (f d L).bind fun o L1 => (compG f w n (i + 1) L1).bind fun r L2 => .ok (match o with
        | some x => x :: r
        | none => r) L2
/-- turns at most -/
def fuelW : Wk → Nat
  | .vals ds => ds.length + 1
  | .obj _ => big
def smallW : Wk → Bool
  | .vals ds => decide (ds.length ≤ big)
  | .obj _ => true
def compW (f : D → M (Option D)) (w : Wk) : M (List D) := fun L => if smallW w then compG f w (fuelW w) 0 L else .bad
/-- a new object -/
def alloc (o : O) : M D := fun L => .ok (.obj L.length) (L ++ [o])
/-- within a store: what looks say -/
def look {α : Type} (f : Store → Option α) : M α := fun L => match f L with
  | some a => .ok a L
  | none => .bad
/-- a call's result behind its end: an own list is frozen; the store of the caller -/
def frozen (n : Nat) (d : D) (L : Store) : Option D :=
  match d with
  | .obj k => if k < n then some d else match L[k]? with
    | some (.lst ds) => if purAll ds then some (.lst ds) else none
    | _ => none
  | d => if d.pure then some d else none
def O.pure : O → Bool
  | .lst ds => purAll ds
  | .dK kvs => purAll (kvs.map (·.2))
  | .dT kvs => purAll (kvs.map (·.2))
/-- no object within an object -/
def storeP (L : Store) : Bool := L.all O.pure
/-- f(..) -/
def callF (cf : Nat → List D → M D) (f : Nat) (xs : List D) : M D := fun L =>
  if purAll xs then match cf f xs [] with
    | .ok d L1 => match frozen 0 d L1 with
      | some d' => .ok d' L
      | none => .bad
    | .exc c d L1 => if d.pure then .exc c d L else .bad
    | .bad => .bad
  else match cf f xs L with
    | .ok d L1 => if storeP (L1.take L.length) then match frozen L.length d L1 with
      | some d' => .ok d' (L1.take L.length)
      | none => .bad else .bad
    | .exc c d L1 => if d.pure && storeP (L1.take L.length) then .exc c d (L1.take L.length) else .bad
    | .bad => .bad
/-- x = f(..), x an object that is changed later: the new object that the call hands back -/
def callK (cf : Nat → List D → M D) (f : Nat) (xs : List D) : M D := fun L =>
  if purAll xs then match cf f xs [] with
    | .ok (.obj k) L1 => match L1[k]? with
      | some o => if o.pure then .ok (.obj L.length) (L ++ [o]) else .bad
      | none => .bad
    | .exc c d L1 => if d.pure then .exc c d L else .bad
    | _ => .bad
  else .bad
def boolOf : D → Option Bool
  | .bl b => some b
  | _ => none
def intOf : D → Option Int
  | .int i => some i
  | _ => none

/-- a method's receiver -/
def recv : Me → D → Store → Bool
  | .append, .obj k, L => match L[k]? with
    | some (.lst _) => true
    | _ => false
  | .append, _, _ => false
  | _, .str _, _ => true
  | _, _, _ => false
/-- nothing is raised -/
def noX {α : Type} (n : Bool) (r : R α) : R α := match r with
  | .exc c d L => if n then .bad else .exc c d L
  | r => r
mutual
def evE (cf : Nat → List D → M D) : E → Env → M D
  | .slot i, ρ, L => match ρ[i]? with
    | some (some d) => .ok d L
    | _ => .bad
  | .cst d, _, L => .ok d L
  | .glob d, _, L => .ok d L
  | .fnv f, _, L => .ok (.fn f) L
  | .bin o a b, ρ, L => (evE cf a ρ L).bind fun x L1 => (evE cf b ρ L1).bind fun y L2 => look (fun L => binV L o x y) L2
  | .neg a, ρ, L => (evE cf a ρ L).bind fun x L1 => match x with
    | .int i => .ok (.int (-i)) L1
    | _ => .bad
  | .not a, ρ, L => (evE cf a ρ L).bind fun x L1 => match x with
    | .bl b => .ok (.bl (!b)) L1
    | _ => .bad
  | .cmp o a b, ρ, L => (evE cf a ρ L).bind fun x L1 => (evE cf b ρ L1).bind fun y L2 => (look (fun L => cmpV L o x y) L2).bind fun b L3 => .ok (.bl b) L3
  | .chain o1 o2 a b c, ρ, L => (evE cf a ρ L).bind fun x L1 => (evE cf b ρ L1).bind fun y L2 => (look (fun L => cmpV L o1 x y) L2).bind fun q L3 =>
      if q then (evE cf c ρ L3).bind fun z L4 => (look (fun L => cmpV L o2 y z) L4).bind fun b L5 => .ok (.bl b) L5 else .ok (.bl false) L3
  | .isN a, ρ, L => (evE cf a ρ L).bind fun x L1 => .ok (.bl (match x with
    | .non => true
    | _ => false)) L1
  | .notN a, ρ, L => (evE cf a ρ L).bind fun x L1 => .ok (.bl (match x with
    | .non => false
    | _ => true)) L1
  | .and a b, ρ, L => (evE cf a ρ L).bind fun x L1 => match x with
    | .bl true => (evE cf b ρ L1).bind fun y L2 => match y with
      | .bl q => .ok (.bl q) L2
      | _ => .bad
    | .bl false => .ok (.bl false) L1
    | _ => .bad
  | .or a b, ρ, L => (evE cf a ρ L).bind fun x L1 => match x with
    | .bl true => .ok (.bl true) L1
    | .bl false => (evE cf b ρ L1).bind fun y L2 => match y with
      | .bl q => .ok (.bl q) L2
      | _ => .bad
    | _ => .bad
  | .ife t a b, ρ, L => (evE cf t ρ L).bind fun x L1 => match x with
    | .bl true => evE cf a ρ L1
    | .bl false => evE cf b ρ L1
    | _ => .bad
  | .tup es, ρ, L => (evEs cf es ρ L).bind fun xs L1 => if xs.length ≤ big then .ok (.tup xs) L1 else .bad
  | .frz f, ρ, L => (evF cf f ρ L).bind fun xs L1 => .ok (.lst xs) L1
  | .mut f, ρ, L => (evF cf f ρ L).bind fun xs L1 => .ok (.obj L1.length) (L1 ++ [.lst xs])
  | .call f es, ρ, L => (evEs cf es ρ L).bind fun xs L1 => callF cf f xs L1
  | .callk f es, ρ, L => (evEs cf es ρ L).bind fun xs L1 => callK cf f xs L1
  | .callv i n es, ρ, L => match ρ[i]? with
    | some (some (.fn f)) => if f < n then (evEs cf es ρ L).bind fun xs L1 => callF cf f xs L1 else .bad
    | _ => .bad
  | .bi b es, ρ, L => (evEs cf es ρ L).bind fun xs L1 => look (fun L => biV L b xs) L1
  | .meth m o es, ρ, L => (evE cf o ρ L).bind fun x L1 => if recv m x L1 then (evEs cf es ρ L1).bind fun xs L2 => match m, x, xs with
    | .append, .obj k, [y] => match L2[k]? with
      | some (.lst ds) => if ds.length < big then .ok .non (L2.set k (.lst (ds ++ [y]))) else .bad
      | _ => .bad
    | m, x, xs => look (fun L => meV L m x xs) L2 else .bad
  | .ix a b, ρ, L => (evE cf a ρ L).bind fun x L1 => (evE cf b ρ L1).bind fun y L2 => look (fun L => ixV L x y) L2
  | .dget a b, ρ, L => (evE cf a ρ L).bind fun x L1 => (evE cf b ρ L1).bind fun y L2 => look (fun L => (dictGet L x y).bind id) L2
  | .sl a lo hi, ρ, L => (evE cf a ρ L).bind fun x L1 => (evO cf lo ρ L1).bind fun l L2 => (evO cf hi ρ L2).bind fun h L3 => look (fun L => slV L x l h) L3
  | .isi a t, ρ, L => (evE cf a ρ L).bind fun x L1 => (look (fun L => isiV t L x) L1).bind fun b L2 => .ok (.bl b) L2
  | .dnew kt kvs, ρ, L => (evK cf kvs ρ L).bind fun ps L1 => if kt then (match ps with
      | [] => .ok (.obj L1.length) (L1 ++ [.dT []])
      | _ => .bad) else if ps.length ≤ 15 then .ok (.obj L1.length) (L1 ++ [.dK (ps.foldl (fun acc p => putK acc p.1 p.2) [])]) else .bad
  | .xfld i c, ρ, L => match ρ[i]? with
    | some (some (.exn c' d)) => if c' = c then .ok d L else .bad
    | _ => .bad
  | .tupr a, ρ, L => (evE cf a ρ L).bind fun x L1 => match x with
    | .int n => if 0 ≤ n ∧ n ≤ 16777216 then .ok (.tup (upto 0 n.toNat)) L1 else .bad
    | _ => .bad
def evEs (cf : Nat → List D → M D) : Es → Env → M (List D)
  | .nil, _, L => .ok [] L
  | .cons e r, ρ, L => (evE cf e ρ L).bind fun x L1 => (evEs cf r ρ L1).bind fun xs L2 => .ok (x :: xs) L2
/-- a slice's part -/
def evO (cf : Nat → List D → M D) : Oe → Env → M (Option Int)
  | .none, _, L => .ok none L
  | .some e, ρ, L => (evE cf e ρ L).bind fun x L1 => match x with
    | .int i => .ok (some i) L1
    | _ => .bad
/-- a comprehension's test -/
def evT (cf : Nat → List D → M D) : Oe → Env → M Bool
  | .none, _, L => .ok true L
  | .some e, ρ, L => (evE cf e ρ L).bind fun x L1 => match x with
    | .bl b => .ok b L1
    | _ => .bad
def evK (cf : Nat → List D → M D) : Kvs → Env → M (List (L2.Key × D))
  | .nil, _, L => .ok [] L
  | .cons k v r, ρ, L => (evE cf k ρ L).bind fun x L1 => (evE cf v ρ L1).bind fun y L2 => match keyOf x with
    | some q => (evK cf r ρ L2).bind fun ps L3 => .ok ((q, y) :: ps) L3
    | none => .bad
def evF (cf : Nat → List D → M D) : F → Env → M (List D)
  | .disp es, ρ, L => (evEs cf es ρ L).bind fun xs L1 => if xs.length ≤ big then .ok xs L1 else .bad
  | .lc n elt tg it t own, ρ, L => (evI cf it ρ L).bind fun w L1 => compW (fun d L => match bindT tg d (wipeD ρ own) with
      | none => .bad
      | some ρ' => noX n ((evT cf t ρ' L).bind fun b L2 => if b then (evE cf elt ρ' L2).bind fun x L3 => .ok (some x) L3 else .ok none L2)) w L1
  | .sl a lo hi, ρ, L => (evE cf a ρ L).bind fun x L1 => (evO cf lo ρ L1).bind fun l L2 => (evO cf hi ρ L2).bind fun h L3 => match listOf L3 x with
    | some ds => .ok (cutL ds l h) L3
    | none => .bad
  | .rev a, ρ, L => (evE cf a ρ L).bind fun x L1 => match listOf L1 x with
    | some ds => .ok ds.reverse L1
    | none => .bad
  | .cat a b, ρ, L => (evE cf a ρ L).bind fun x L1 => (evE cf b ρ L1).bind fun y L2 => match listOf L2 x, listOf L2 y with
    | some p, some q => if p.length + q.length ≤ big then .ok (p ++ q) L2 else .bad
    | _, _ => .bad
  | .lis a, ρ, L => (evE cf a ρ L).bind fun x L1 => match seqOf L1 x with
    | some ds => .ok ds L1
    | none => .bad
def evI (cf : Nat → List D → M D) : It → Env → M Wk
  | .val e, ρ, L => (evE cf e ρ L).bind fun x L1 => match x with
    | .lst ds => .ok (.vals ds) L1
    | .tup ds => .ok (.vals ds) L1
    | .ktup ds => .ok (.vals ds) L1
    | .str a => .ok (.vals (signs a)) L1
    | .obj k => match listOf L1 (.obj k) with
      | some _ => .ok (.obj k) L1
      | none => .bad
    | _ => .bad
  | .range1 a, ρ, L => (evE cf a ρ L).bind fun x L1 => match x with
    | .int n => if n < 2 ^ 62 ∧ -(2 ^ 62) ≤ n then .ok (.vals (upto 0 n.toNat)) L1 else .bad
    | _ => .bad
  | .range2 a b, ρ, L => (evE cf a ρ L).bind fun x L1 => (evE cf b ρ L1).bind fun y L2 => match x, y with
    | .int m, .int n => if n < 2 ^ 62 ∧ -(2 ^ 62) ≤ n ∧ m < 2 ^ 62 ∧ -(2 ^ 62) ≤ m then .ok (.vals (upto m (n - m).toNat)) L2 else .bad
    | _, _ => .bad
  | .enum e, ρ, L => (evE cf e ρ L).bind fun x L1 => match x with
    | .lst ds => .ok (.vals (numbered 0 ds)) L1
    | _ => .bad
  | .zip a b, ρ, L => (evE cf a ρ L).bind fun x L1 => (evE cf b ρ L1).bind fun y L2 => match x, y with
    | .lst p, .lst q => .ok (.vals (zipD p q)) L2
    | x, y => match tupOf x, tupOf y with
      | some p, some q => .ok (.vals (zipD p q)) L2
      | _, _ => .bad
end

/-! ### statements -/
inductive SR where
  | next (ρ : Env) (L : Store)
  | brk (ρ : Env) (L : Store)
  | cont (ρ : Env) (L : Store)
  | ret (d : D) (L : Store)
  | exc (c : Nat) (d : D) (ρ : Env) (L : Store)
  | bad
/-- behind an expression -/
def R.then {α : Type} (r : R α) (ρ : Env) (f : α → Store → SR) : SR := match r with
  | .ok a L => f a L
  | .exc c d L => .exc c d ρ L
  | .bad => .bad
/-- behind a statement -/
def SR.seq (r : SR) (f : Env → Store → SR) : SR := match r with
  | .next ρ L => f ρ L
  | r => r
def forL (b : D → Env → Store → SR) : List D → Env → Store → SR
  | [], ρ, L => .next ρ L
  | d :: ds, ρ, L => match b d ρ L with
    | .next ρ1 L1 => forL b ds ρ1 L1
    | .cont ρ1 L1 => forL b ds ρ1 L1
    | .brk ρ1 L1 => .next ρ1 L1
    | r => r
def forG (b : D → Env → Store → SR) (w : Wk) : Nat → Nat → Env → Store → SR
  | 0, _, _, _ => .bad
  | n + 1, i, ρ, L => match items w L with
    | none => .bad
    | some ds => match ds[i]? with
      | none => .next ρ L
      | some d => match b d ρ L with
        | .next ρ1 L1 => forG b w n (i + 1) ρ1 L1
        | .cont ρ1 L1 => forG b w n (i + 1) ρ1 L1
        | .brk ρ1 L1 => .next ρ1 L1
        | r => r
def forW (b : D → Env → Store → SR) (w : Wk) (ρ : Env) (L : Store) : SR := forG b w (fuelW w) 0 ρ L
def whileG (t : Env → M Bool) (b : Env → Store → SR) : Nat → Env → Store → SR
  | 0, _, _ => .bad
  | n + 1, ρ, L => (t ρ L).then ρ fun q L1 => if q then (match b ρ L1 with
      | .next ρ1 L2 => whileG t b n ρ1 L2
      | .cont ρ1 L2 => whileG t b n ρ1 L2
      | .brk ρ1 L2 => .next ρ1 L2
      | r => r) else .next ρ L1
/-- turns of a while at most -/
def turns : Nat := 1000000000

def setAll : List Nat → List D → Env → Env
  | i :: is, x :: xs, ρ => setAll is xs (ρ.set i (some x))
  | _, _, ρ => ρ
mutual
def evS (cf : Nat → List D → M D) : S → Env → Store → SR
  | .set i e, ρ, L => (evE cf e ρ L).then ρ fun x L1 => .next (ρ.set i (some x)) L1
  | .par is es, ρ, L => (evEs cf es ρ L).then ρ fun xs L1 => if xs.length = is.length then .next (setAll is xs ρ) L1 else .bad
  | .asg t e, ρ, L => (evE cf e ρ L).then ρ fun x L1 => match bindT t x ρ with
    | some ρ' => .next ρ' L1
    | none => .bad
  | .setIx o i e, ρ, L => (evE cf e ρ L).then ρ fun x L1 => (evE cf o ρ L1).then ρ fun y L2 => (evE cf i ρ L2).then ρ fun z L3 => match y, z with
    | .obj k, .int n => match L3[k]? with
      | some (.lst ds) => match _root_.L2.ixN ds.length n with
        | some j => .next ρ (L3.set k (.lst (ds.set j x)))
        | none => .bad
      | _ => .bad
    | _, _ => .bad
  | .setK o i e, ρ, L => (evE cf e ρ L).then ρ fun x L1 => (evE cf o ρ L1).then ρ fun y L2 => (evE cf i ρ L2).then ρ fun z L3 => match y with
    | .obj k => match L3[k]?, z with
      | some (.dK kvs), z => match keyOf z with
        | some q => if kvs.length < big then .next ρ (L3.set k (.dK (putK kvs q x))) else .bad
        | none => .bad
      | some (.dT kvs), .tup ds => match keysOf ds with
        | some q => if kvs.length < big then .next ρ (L3.set k (.dT (putK kvs q x))) else .bad
        | none => .bad
      | _, _ => .bad
    | _ => .bad
  | .aug i o e, ρ, L => match ρ[i]? with
    | some (some x) => (evE cf e ρ L).then ρ fun y L1 => match x, y with
      | .int a, .int b => match o with
        | .add => .next (ρ.set i (some (.int (a + b)))) L1
        | .sub => .next (ρ.set i (some (.int (a - b)))) L1
        | _ => .bad
      | _, _ => .bad
    | _ => .bad
  | .ex e, ρ, L => (evE cf e ρ L).then ρ fun _ L1 => .next ρ L1
  | .ife t a b, ρ, L => (evE cf t ρ L).then ρ fun x L1 => match x with
    | .bl true => evSs cf a ρ L1
    | .bl false => evSs cf b ρ L1
    | _ => .bad
  | .for_ t it b, ρ, L => (evI cf it ρ L).then ρ fun w L1 => forW (fun d ρ L => match bindT t d ρ with
      | some ρ' => evSs cf b ρ' L
      | none => .bad) w ρ L1
  | .while_ t b, ρ, L => whileG (fun ρ L => (evE cf t ρ L).bind fun x L1 => match x with
      | .bl q => .ok q L1
      | _ => .bad) (fun ρ L => evSs cf b ρ L) turns ρ L
  | .ret e, ρ, L => (evE cf e ρ L).then ρ fun x L1 => .ret x L1
  | .retN, _, L => .ret .non L
  | .raise c e, ρ, L => (evE cf e ρ L).then ρ fun x L1 => .exc c x ρ L1
  | .try_ b hs, ρ, L => match evSs cf b ρ L with
    | .exc c d ρ1 L1 => evHs cf hs c d ρ1 L1
    | r => r
  | .pass, ρ, L => .next ρ L
  | .brk, ρ, L => .brk ρ L
  | .cont, ρ, L => .cont ρ L
def evSs (cf : Nat → List D → M D) : Ss → Env → Store → SR
  | .nil, ρ, L => .next ρ L
  | .cons s r, ρ, L => (evS cf s ρ L).seq fun ρ1 L1 => evSs cf r ρ1 L1
/-- the clause for an exception: its name holds it within the suite -/
def evHs (cf : Nat → List D → M D) : Hs → Nat → D → Env → Store → SR
  | .nil, c, d, ρ, L => .exc c d ρ L
  | .cons n c' i s r, c, d, ρ, L => if c < n then (if c = c' then (match i with
      | none => match evSs cf s ρ L with
        | .exc _ _ _ _ => .bad
        | r => r
      | some j => match evSs cf s (ρ.set j (some (.exn c d))) L with
        | .ret x L1 => if x.pure && storeP L1 then .ret x L1 else .bad
        | _ => .bad) else evHs cf r c d ρ L) else .bad
end

/-- a def: parameters, names in all, its body -/
structure Fd where
  np : Nat
  nl : Nat
  body : Ss
def startD (nl : Nat) (xs : List D) : Env := xs.map some ++ List.replicate (nl - xs.length) none
/-- the defs, by depth -/
def evFn (fs : List Fd) : Nat → Nat → List D → M D
  | 0, _, _, _ => .bad
  | n + 1, f, xs, L => match fs[f]? with
    | none => .bad
    | some F => if xs.length = F.np then (match evSs (evFn fs n) F.body (startD F.nl xs) L with
      | .next _ L1 => .ok .non L1
      | .ret d L1 => .ok d L1
      | .exc c d _ L1 => .exc c d L1
      | _ => .bad) else .bad
end EV
end

section
set_option autoImplicit false
/-! What data stand for in the tracked heap. -/
namespace EV
open PySem

structure Cfg where
  K : PySem.W.Frag
  adr : Nat → Addr
  cls : Nat → Addr
  fld : Nat → Str
  EX : Addr → Nat → Addr → Prop

def asc (cs : List Nat) : Prop := ∀ c ∈ cs, c < 128

section
variable (C : Cfg) (Z : Addr → Prop) (ι : List Addr) (H : L2.Hp)
/-- a constant of the text -/
def KTup (a : Addr) (xs : List L2.V) : Prop :=
  ∃ (o : Obj) (its : Array Value) (n : Nat), C.K.lookup a = some o ∧ o.cls = .type "tuple" ∧ o.data = .seq its n ∧ its.size ≤ sizeLine ∧ L2.Vals xs its.toList
mutual
def RV : D → L2.V → Prop
  | .non, v => v = .non
  | .bl b, v => v = .bl b
  | .int i, v => v = .int i
  | .str x, v => v = .str (SX.S x) ∧ asc x
  | .tup ds, v => ∃ a xs, v = .ref a ∧ H a = some (.tup xs) ∧ a ∉ ι ∧ RVs ds xs
  | .lst ds, v => ∃ a xs, v = .ref a ∧ L2.Rd H a (.lst xs) ∧ ¬ Z a ∧ a ∉ ι ∧ RVs ds xs
  | .ktup ds, v => ∃ a xs, v = .ref a ∧ KTup C a xs ∧ RVs ds xs
  | .obj k, v => ∃ a, ι[k]? = some a ∧ v = .ref a
  | .fn f, v => v = .ref (C.adr f)
  | .exn c d, v => ∃ a dx x, v = .ref a ∧ C.EX a c dx ∧ H dx = some (.xd [(C.fld c, x)]) ∧ dx ∉ ι ∧ RV d x
def RVs : List D → List L2.V → Prop
  | [], xs => xs = []
  | d :: ds, xs => ∃ x r, xs = x :: r ∧ RV d x ∧ RVs ds r
end
def KR {κ : Type} : List (κ × D) → List (κ × L2.V) → Prop
  | [], kv => kv = []
  | p :: r, kv => ∃ q s, kv = q :: s ∧ p.1 = q.1 ∧ RV C Z ι H p.2 q.2 ∧ KR r s
def OR : O → Addr → Prop
  | .lst ds, a => ∃ xs, H a = some (.lst xs) ∧ RVs C Z ι H ds xs
  | .dK kvs, a => ∃ kv, H a = some (.dK kv) ∧ KR C Z ι H kvs kv
  | .dT kvs, a => ∃ kv, H a = some (.dT kv) ∧ KR C Z ι H kvs kv
structure SO (L : Store) : Prop where
  len : ι.length = L.length
  nd : ι.Nodup
  obj : ∀ (k : Nat) (o : O), L[k]? = some o → ∃ a, ι[k]? = some a ∧ OR C Z ι H o a
  zh : ∀ a, Z a → H a ≠ none
structure ER (ρ : Env) (σ : L2.St) : Prop where
  len : ρ.length = σ.length
  get : ∀ (i : Nat) (d : D), ρ[i]? = some (some d) → ∃ v, σ[i]? = some (some v) ∧ RV C Z ι H d v
end
/-- more objects; what isn't an object of ours stands -/
structure Ex (ι : List Addr) (H : L2.Hp) (ι' : List Addr) (H' : L2.Hp) : Prop where
  pre : ∀ (k : Nat) (a : Addr), ι[k]? = some a → ι'[k]? = some a
  new : ∀ a ∈ ι', a ∈ ι ∨ H a = none
  old : ∀ a o, H a = some o → a ∉ ι → H' a = some o

section
variable {C : Cfg} {Z : Addr → Prop} {ι ι' ι2 : List Addr} {H H' H2 : L2.Hp} {L L' : Store}
theorem Ex.refl : Ex ι H ι H := ⟨fun _ _ h => h, fun _ h => .inl h, fun _ _ h _ => h⟩
theorem Ex.notin (x : Ex ι H ι' H') {a : Addr} {o : L2.HO} (h : H a = some o) (n : a ∉ ι) : a ∉ ι' := fun q => by
  rcases x.new a q with z | z
  · exact n z
  · rw [h] at z; cases z
theorem Ex.trans (x : Ex ι H ι' H') (y : Ex ι' H' ι2 H2) : Ex ι H ι2 H2 where
  pre := fun k a h => y.pre k a (x.pre k a h)
  new := fun a h => by
    rcases y.new a h with z | z
    · exact x.new a z
    · by_cases m : a ∈ ι
      · exact .inl m
      · cases q : H a with
        | none => exact .inr rfl
        | some o => rw [x.old a o q m] at z; cases z
  old := fun a o h n => y.old a o (x.old a o h n) (x.notin h n)
theorem Ex.rd (x : Ex ι H ι' H') {a : Addr} {u : L2.HO} (h : L2.Rd H a u) (n : a ∉ ι) : L2.Rd H' a u ∧ a ∉ ι' := by
  rcases h with h | ⟨o, h⟩
  · exact ⟨.inl (x.old _ _ h n), x.notin h n⟩
  · exact ⟨.inr ⟨o, x.old _ _ h n⟩, x.notin h n⟩
mutual
theorem RV.mono (x : Ex ι H ι' H') : ∀ (d : D) (v : L2.V), RV C Z ι H d v → RV C Z ι' H' d v
  | .non, _, h => by simpa [RV] using h
  | .bl _, _, h => by simpa [RV] using h
  | .int _, _, h => by simpa [RV] using h
  | .str _, _, h => by simpa [RV] using h
  | .tup ds, v, h => by
    unfold RV at h ⊢
    obtain ⟨a, xs, e, t, n, r⟩ := h
    exact ⟨a, xs, e, x.old _ _ t n, x.notin t n, RVs.mono x ds xs r⟩
  | .ktup ds, v, h => by
    unfold RV at h ⊢
    obtain ⟨a, xs, e, t, r⟩ := h
    exact ⟨a, xs, e, t, RVs.mono x ds xs r⟩
  | .lst ds, v, h => by
    unfold RV at h ⊢
    obtain ⟨a, xs, e, t, z, n, r⟩ := h
    exact ⟨a, xs, e, (x.rd t n).1, z, (x.rd t n).2, RVs.mono x ds xs r⟩
  | .obj k, v, h => by
    unfold RV at h ⊢
    obtain ⟨a, e, q⟩ := h
    exact ⟨a, x.pre _ _ e, q⟩
  | .fn _, _, h => by simpa [RV] using h
  | .exn c d, v, h => by
    unfold RV at h ⊢
    obtain ⟨a, dx, y, e, q, hd, n, r⟩ := h
    exact ⟨a, dx, y, e, q, x.old _ _ hd n, x.notin hd n, RV.mono x d y r⟩
theorem RVs.mono (x : Ex ι H ι' H') : ∀ (ds : List D) (xs : List L2.V), RVs C Z ι H ds xs → RVs C Z ι' H' ds xs
  | [], _, h => by simpa [RVs] using h
  | d :: ds, xs, h => by
    unfold RVs at h ⊢
    obtain ⟨y, r, e, h1, h2⟩ := h
    exact ⟨y, r, e, RV.mono x d y h1, RVs.mono x ds r h2⟩
end
theorem KR.mono {κ : Type} (x : Ex ι H ι' H') : ∀ {kvs : List (κ × D)} {kv : List (κ × L2.V)}, KR C Z ι H kvs kv → KR C Z ι' H' kvs kv
  | [], _, h => h
  | p :: r, kv, h => by
    obtain ⟨q, s, e, k, h1, h2⟩ := h
    exact ⟨q, s, e, k, RV.mono x _ _ h1, KR.mono x h2⟩
/-- an object that stands -/
theorem OR.mono (x : Ex ι H ι' H') {o : O} {a : Addr} (e : ∀ u, H a = some u → H' a = some u) (h : OR C Z ι H o a) : OR C Z ι' H' o a := by
  cases o with
  | lst ds => obtain ⟨xs, q, r⟩ := h; exact ⟨xs, e _ q, RVs.mono x _ _ r⟩
  | dK kvs => obtain ⟨xs, q, r⟩ := h; exact ⟨xs, e _ q, KR.mono x r⟩
  | dT kvs => obtain ⟨xs, q, r⟩ := h; exact ⟨xs, e _ q, KR.mono x r⟩
theorem OR.there {o : O} {a : Addr} (h : OR C Z ι H o a) : ∃ u, H a = some u := by
  cases o with
  | lst ds => obtain ⟨xs, q, r⟩ := h; exact ⟨_, q⟩
  | dK kvs => obtain ⟨xs, q, r⟩ := h; exact ⟨_, q⟩
  | dT kvs => obtain ⟨xs, q, r⟩ := h; exact ⟨_, q⟩
theorem ER.mono (x : Ex ι H ι' H') {ρ : Env} {σ : L2.St} (h : ER C Z ι H ρ σ) : ER C Z ι' H' ρ σ :=
  ⟨h.len, fun i d e => let ⟨v, q, r⟩ := h.get i d e; ⟨v, q, RV.mono x _ _ r⟩⟩
theorem SO.there (s : SO C Z ι H L) {a : Addr} (h : a ∈ ι) : ∃ u, H a = some u := by
  obtain ⟨k, hk, e⟩ := List.getElem_of_mem h
  have hkL : k < L.length := by rw [← s.len]; exact hk
  obtain ⟨b, q, r⟩ := s.obj k L[k] (List.getElem?_eq_getElem hkL)
  rw [List.getElem?_eq_getElem hk, e] at q
  cases q
  exact r.there
theorem SO.fresh (s : SO C Z ι H L) {p : Addr} (h : H p = none) : p ∉ ι := fun m => by
  obtain ⟨u, e⟩ := s.there m
  rw [h] at e; cases e
theorem SO.notz (s : SO C Z ι H L) {p : Addr} (h : H p = none) : ¬ Z p := fun m => s.zh p m h
/-- a new frozen thing at p -/
theorem ex_upd {p : Addr} {o : L2.HO} (h : H p = none) : Ex ι H ι (L2.upd H p o) :=
  ⟨fun _ _ h => h, fun _ h => .inl h, fun a u e _ => by rw [L2.upd_ne (L2.ne_of_none e h)]; exact e⟩
theorem ex_same (h : L2.Same H H') : Ex ι H ι H' := ⟨fun _ _ h => h, fun _ h => .inl h, fun a o e _ => h a o e⟩
theorem SO.same (s : SO C Z ι H L) (h : L2.Same H H') : SO C Z ι H' L :=
  ⟨s.len, s.nd, fun k o e => let ⟨a, q, r⟩ := s.obj k o e; ⟨a, q, r.mono (ex_same h) fun u z => h a u z⟩, fun a z q => by
    cases e : H a with
    | none => exact s.zh a z e
    | some u => rw [h a u e] at q; cases q⟩
theorem same_upd {p : Addr} {o : L2.HO} (h : H p = none) : L2.Same H (L2.upd H p o) := fun a u e => by rw [L2.upd_ne (L2.ne_of_none e h)]; exact e
theorem SO.upd (s : SO C Z ι H L) {p : Addr} {o : L2.HO} (h : H p = none) : SO C Z ι (L2.upd H p o) L := s.same (same_upd h)
/-- a new object at p -/
theorem ex_push {p : Addr} {o : L2.HO} (h : H p = none) : Ex ι H (ι ++ [p]) (L2.upd H p o) :=
  ⟨fun k a e => by rw [List.getElem?_append_left (List.getElem?_eq_some_iff.mp e).1]; exact e, fun a m => by
    rcases List.mem_append.mp m with m | m
    · exact .inl m
    · have : a = p := by simpa using m
      exact .inr (this ▸ h), fun a u e _ => by rw [L2.upd_ne (L2.ne_of_none e h)]; exact e⟩
theorem SO.push (s : SO C Z ι H L) {p : Addr} {o : O} {u : L2.HO} (h : H p = none) (r : OR C Z (ι ++ [p]) (L2.upd H p u) o p) : SO C Z (ι ++ [p]) (L2.upd H p u) (L ++ [o]) := by
  have x := ex_push (ι := ι) (o := u) h
  refine ⟨by simp [s.len], ?_, fun k o' e => ?_, fun a z q => ?_⟩
  · rw [List.nodup_append]
    refine ⟨s.nd, by simp, fun a ha b hb e => ?_⟩
    have : b = p := by simpa using hb
    subst this; subst e
    exact s.fresh h ha
  · by_cases hk : k < L.length
    · rw [List.getElem?_append_left hk] at e
      obtain ⟨a, q, r'⟩ := s.obj k o' e
      refine ⟨a, x.pre k a q, r'.mono x fun u' z => ?_⟩
      rw [L2.upd_ne (L2.ne_of_none z h)]; exact z
    · rw [List.getElem?_append_right (by omega)] at e
      have hk' : k = L.length := by
        have := (List.getElem?_eq_some_iff.mp e).1
        simp at this; omega
      subst hk'
      simp at e
      subst e
      exact ⟨p, by rw [List.getElem?_append_right (by rw [s.len]; exact Nat.le_refl _)]; simp [s.len], r⟩
  · by_cases e : a = p
    · subst e; exact s.zh a z h
    · rw [L2.upd_ne e] at q; exact s.zh a z q
/-- an object of ours is written -/
theorem ex_set {a : Addr} {u : L2.HO} (m : a ∈ ι) : Ex ι H ι (L2.upd H a u) :=
  ⟨fun _ _ h => h, fun _ h => .inl h, fun b o e n => by rw [L2.upd_ne (fun z : b = a => n (by rw [z]; exact m))]; exact e⟩
theorem SO.set (s : SO C Z ι H L) {k : Nat} {a : Addr} {o : O} {u : L2.HO} (e : ι[k]? = some a) (r : OR C Z ι (L2.upd H a u) o a) : SO C Z ι (L2.upd H a u) (L.set k o) := by
  have m : a ∈ ι := List.mem_of_getElem? e
  have x := ex_set (H := H) (u := u) m
  have hk : k < ι.length := (List.getElem?_eq_some_iff.mp e).1
  refine ⟨by simp [s.len], s.nd, fun j o' ej => ?_, fun b z q => ?_⟩
  · by_cases hj : j = k
    · subst hj
      rw [List.getElem?_set_self (by rw [← s.len]; exact hk)] at ej
      cases ej
      exact ⟨a, e, r⟩
    · rw [List.getElem?_set_ne (Ne.symm hj)] at ej
      obtain ⟨b, q, r'⟩ := s.obj j o' ej
      refine ⟨b, q, r'.mono x fun u' z => ?_⟩
      have hne : b ≠ a := fun z' => hj (L2.nd_ix s.nd q (z' ▸ e))
      rw [L2.upd_ne hne]; exact z
  · by_cases hb : b = a
    · subst hb; rw [L2.upd_same] at q; cases q
    · rw [L2.upd_ne hb] at q; exact s.zh b z q
theorem SO.at_ (s : SO C Z ι H L) {k : Nat} {o : O} {a : Addr} (e : L[k]? = some o) (q : ι[k]? = some a) : OR C Z ι H o a := by
  obtain ⟨b, q', r⟩ := s.obj k o e
  rw [q] at q'
  cases q'
  exact r

/-! ### lists of data -/
theorem RVs.length : ∀ {ds : List D} {xs : List L2.V}, RVs C Z ι H ds xs → ds.length = xs.length
  | [], _, h => by unfold RVs at h; subst h; rfl
  | d :: ds, xs, h => by
    unfold RVs at h
    obtain ⟨y, r, e, h1, h2⟩ := h
    subst e
    simp [RVs.length h2]
theorem RVs.nil : RVs C Z ι H [] [] := by unfold RVs; rfl
theorem RVs.cons {d : D} {ds : List D} {v : L2.V} {vs : List L2.V} (h : RV C Z ι H d v) (r : RVs C Z ι H ds vs) : RVs C Z ι H (d :: ds) (v :: vs) := by
  unfold RVs; exact ⟨v, vs, rfl, h, r⟩
theorem RVs.uncons {d : D} {ds : List D} {vs : List L2.V} (h : RVs C Z ι H (d :: ds) vs) : ∃ v r, vs = v :: r ∧ RV C Z ι H d v ∧ RVs C Z ι H ds r := by
  unfold RVs at h; exact h
theorem RVs.get : ∀ {ds : List D} {xs : List L2.V} {i : Nat} {d : D}, RVs C Z ι H ds xs → ds[i]? = some d → ∃ v, xs[i]? = some v ∧ RV C Z ι H d v
  | [], _, i, d, _, e => by simp at e
  | d :: ds, xs, 0, d', h, e => by
    obtain ⟨v, r, rfl, h1, h2⟩ := h.uncons
    simp at e; subst e
    exact ⟨v, by simp, h1⟩
  | d :: ds, xs, i + 1, d', h, e => by
    obtain ⟨v, r, rfl, h1, h2⟩ := h.uncons
    obtain ⟨w, q, z⟩ := RVs.get (i := i) h2 (by simpa using e)
    exact ⟨w, by simpa using q, z⟩
theorem RVs.append : ∀ {ds es : List D} {xs ys : List L2.V}, RVs C Z ι H ds xs → RVs C Z ι H es ys → RVs C Z ι H (ds ++ es) (xs ++ ys)
  | [], _, xs, _, h, k => by unfold RVs at h; subst h; exact k
  | d :: ds, _, xs, _, h, k => by
    obtain ⟨v, r, rfl, h1, h2⟩ := h.uncons
    exact .cons h1 (RVs.append h2 k)
theorem RVs.drop : ∀ {ds : List D} {xs : List L2.V} (n : Nat), RVs C Z ι H ds xs → RVs C Z ι H (ds.drop n) (xs.drop n)
  | _, _, 0, h => h
  | [], xs, n + 1, h => by unfold RVs at h; subst h; exact .nil
  | d :: ds, xs, n + 1, h => by
    obtain ⟨v, r, rfl, h1, h2⟩ := h.uncons
    exact RVs.drop n h2
theorem RVs.take : ∀ {ds : List D} {xs : List L2.V} (n : Nat), RVs C Z ι H ds xs → RVs C Z ι H (ds.take n) (xs.take n)
  | _, _, 0, h => .nil
  | [], xs, n + 1, h => by unfold RVs at h; subst h; exact .nil
  | d :: ds, xs, n + 1, h => by
    obtain ⟨v, r, rfl, h1, h2⟩ := h.uncons
    exact .cons h1 (RVs.take n h2)
theorem RVs.set : ∀ {ds : List D} {xs : List L2.V} (i : Nat) {d : D} {v : L2.V}, RVs C Z ι H ds xs → RV C Z ι H d v → RVs C Z ι H (ds.set i d) (xs.set i v)
  | [], xs, i, _, _, h, _ => by unfold RVs at h; subst h; simpa using (RVs.nil (C := C) (Z := Z) (ι := ι) (H := H))
  | d :: ds, xs, 0, _, _, h, k => by
    obtain ⟨v, r, rfl, h1, h2⟩ := h.uncons
    exact .cons k h2
  | d :: ds, xs, i + 1, _, _, h, k => by
    obtain ⟨v, r, rfl, h1, h2⟩ := h.uncons
    exact .cons h1 (RVs.set i h2 k)
theorem RVs.reverse {ds : List D} : ∀ {xs : List L2.V}, RVs C Z ι H ds xs → RVs C Z ι H ds.reverse xs.reverse := by
  induction ds with
  | nil => intro xs h; unfold RVs at h; subst h; exact .nil
  | cons d ds ih =>
    intro xs h
    obtain ⟨v, r, rfl, h1, h2⟩ := h.uncons
    rw [List.reverse_cons, List.reverse_cons]
    exact (ih h2).append (.cons h1 .nil)
theorem RVs.replicate {ds : List D} {xs : List L2.V} (h : RVs C Z ι H ds xs) : ∀ n : Nat, RVs C Z ι H (List.replicate n ds).flatten (List.replicate n xs).flatten
  | 0 => .nil
  | n + 1 => by
    rw [List.replicate_succ, List.replicate_succ, List.flatten_cons, List.flatten_cons]
    exact h.append (RVs.replicate h n)
theorem RVs.of_get : ∀ {ds : List D} {xs : List L2.V}, ds.length = xs.length → (∀ (i : Nat) (d : D) (v : L2.V), ds[i]? = some d → xs[i]? = some v → RV C Z ι H d v) → RVs C Z ι H ds xs
  | [], [], _, _ => .nil
  | [], _ :: _, e, _ => by simp at e
  | _ :: _, [], e, _ => by simp at e
  | d :: ds, v :: xs, e, f => .cons (f 0 d v rfl rfl) (RVs.of_get (by simpa using e) fun i d' v' h1 h2 => f (i + 1) d' v' (by simpa using h1) (by simpa using h2))
theorem RVs.map_str : ∀ {ys : List (List Nat)}, (∀ y ∈ ys, asc y) → RVs C Z ι H (ys.map D.str) (ys.map fun y => L2.V.str (SX.S y))
  | [], _ => .nil
  | y :: r, h => .cons (by unfold RV; exact ⟨rfl, h y List.mem_cons_self⟩) (RVs.map_str fun z m => h z (List.mem_cons_of_mem _ m))
end
end EV
end

section
set_option autoImplicit false
/-! The evaluator's values of operators are the model's. -/
namespace EV
open PySem

section
variable {X : L2.Cx} {C : Cfg} {Z : Addr → Prop} {ι : List Addr} {H : L2.Hp} {L : Store} {pins : List (Addr × Obj)} {s : Shared} {σ : L2.St}

theorem rd_lst (I : L2.Inv X pins σ H s) {a : Addr} {xs : List L2.V} (h : L2.Rd H a (.lst xs)) :
    xs.length ≤ sizeLine ∧ ∃ (its : List Value) (n : Nat), L2.Vals xs its ∧ xs.length = its.length ∧ s.heap.get? a = some { cls := .type "list", data := .seq its.toArray n } := by
  obtain ⟨z, its, n, r, e⟩ := h.ok I.hok
  exact ⟨z, its, n, r, r.length, e⟩
theorem sql_of {K : PySem.W.Frag} {a : Addr} {xs : List L2.V} (h : L2.Rd H a (.lst xs)) : L2.SqL K H a xs := .inl h
theorem big_eq : big = sizeLine := by rw [sizeLine_eq]; rfl
theorem listOf_rv (S : SO C Z ι H L) {x : D} {ds : List D} {v : L2.V} (h : listOf L x = some ds) (r : RV C Z ι H x v) : ∃ a xs, v = .ref a ∧ L2.Rd H a (.lst xs) ∧ RVs C Z ι H ds xs := by
  cases x <;> simp only [listOf] at h <;> try cases h
  · unfold RV at r
    obtain ⟨a, xs, e, q, _, _, t⟩ := r
    exact ⟨a, xs, e, q, t⟩
  · rename_i k
    unfold RV at r
    obtain ⟨a, e, q⟩ := r
    cases w : L[k]? with
    | none => rw [w] at h; cases h
    | some o =>
      rw [w] at h
      cases o with
      | lst es =>
        cases h
        obtain ⟨xs, q1, q2⟩ := S.at_ w e
        exact ⟨a, xs, q, .inl q1, q2⟩
      | dK _ => cases h
      | dT _ => cases h
theorem seqOf_rv (S : SO C Z ι H L) {x : D} {ds : List D} {v : L2.V} (h : seqOf L x = some ds) (r : RV C Z ι H x v) : ∃ a xs, v = .ref a ∧ (L2.SqL C.K H a xs ∨ L2.SqT C.K H a xs) ∧ RVs C Z ι H ds xs := by
  by_cases ht : ∃ es, x = .tup es
  · obtain ⟨es, rfl⟩ := ht
    simp only [seqOf] at h
    cases h
    unfold RV at r
    obtain ⟨a, xs, e, t, _, q⟩ := r
    exact ⟨a, xs, e, .inr (.inl (.inl t)), q⟩
  · by_cases hk : ∃ es, x = .ktup es
    · obtain ⟨es, rfl⟩ := hk
      simp only [seqOf] at h
      cases h
      unfold RV at r
      obtain ⟨a, xs, e, t, q⟩ := r
      exact ⟨a, xs, e, .inr (.inr t), q⟩
    · have h' : listOf L x = some ds := by
        cases x with
        | tup es => exact absurd ⟨es, rfl⟩ ht
        | ktup es => exact absurd ⟨es, rfl⟩ hk
        | _ => exact h
      obtain ⟨a, xs, e, q, t⟩ := listOf_rv S h' r
      exact ⟨a, xs, e, .inl (.inl q), t⟩

/-! ### lists made anew, whatever they are read from -/
def rCatR : L2.R2 := fun x y H Q => ∃ l b xs zs, x = .ref l ∧ y = .ref b ∧ L2.Rd H l (.lst xs) ∧ L2.Rd H b (.lst zs) ∧ xs.length + zs.length ≤ sizeLine ∧ ∀ p, H p = none → Q (.ref p) (L2.upd H p (.lst (xs ++ zs)))
theorem op_catR : L2.OpR X (binaryOp .Add) rCatR := by
  intro pins s σ H x y v u Q I rx ry h
  obtain ⟨l, b, xs, zs, rfl, rfl, hl, hb, hz, q⟩ := h
  cases rx
  cases ry
  obtain ⟨_, its, n, r, e1, e⟩ := rd_lst I hl
  obtain ⟨_, its2, n2, r2, e12, e2⟩ := rd_lst I hb
  have sz : its.toArray.size + its2.toArray.size ≤ sizeLine := by rw [List.size_toArray, List.size_toArray, ← e1, ← e12]; exact hz
  refine PySem.P.add_list e e2 ?_ (by have := sizeLine_eq; omega)
  have ea : its.toArray ++ its2.toArray = (its ++ its2).toArray := by simp
  rw [ea]
  exact ⟨.ref _, _, I.lnew (t' := s.toks) (r.append r2) (by rw [List.length_append]; exact hz), rfl, q _ I.fresh⟩

/-- a list n times -/
def rRepR : L2.R2 := fun x y H Q => ∃ l k xs, x = .ref l ∧ y = .int k ∧ L2.Rd H l (.lst xs) ∧ 0 ≤ k ∧ k < 2 ^ 63 ∧ xs.length * k.toNat ≤ sizeLine ∧ ∀ p, H p = none → Q (.ref p) (L2.upd H p (.lst (List.replicate k.toNat xs).flatten))
theorem op_repR : L2.OpR X (binaryOp .Mult) rRepR := by
  intro pins s σ H x y v u Q I rx ry h
  obtain ⟨l, k, xs, rfl, rfl, hH, h1, h2, hz, q⟩ := h
  cases rx
  obtain ⟨t, rfl⟩ := ry
  obtain ⟨_, its, n, r, hl, e⟩ := rd_lst I hH
  have hlen : its.toArray.size * k.toNat ≤ sizeLine := by rw [List.size_toArray, ← hl]; exact hz
  have hcap : ¬ its.toArray.size * k.toNat > (2 ^ 63 - 1) / 8 := by
    have z : (sizeLine : Nat) ≤ (2 ^ 63 - 1) / 8 := by decide
    omega
  have hfit : ¬ (!Builtin.List.listFitsIndex k) = true := by
    rw [fitsIndex_both (by omega) h2]
    exact Bool.false_ne_true
  have hlong : ¬ Builtin.List.listTooLong (its.toArray.size * k.toNat) = true := by
    rw [L2.notLongL hlen]
    exact Bool.false_ne_true
  have f0 : ∀ m : Nat, List.foldl (fun x1 x2 => x1 ++ x2) #[] (List.replicate m its.toArray) = (List.replicate m its).flatten.toArray := fun m => by
    have z := L2.foldl_rep its m []
    rw [List.nil_append] at z
    exact z
  have hnew : List.foldl (fun x1 x2 => x1 ++ x2) #[] (List.replicate (if its.toArray.isEmpty = true then 0 else k.toNat) its.toArray) = (List.replicate k.toNat its).flatten.toArray := by
    rw [f0]
    cases its with
    | nil => simp
    | cons a r' => rw [if_neg (by simp)]
  refine wpAny_binaryOp_repeat_ref (T := "list") (U := "int") (by decide) ⟨_, e, rfl⟩ (fun s' => typeIs_int s' k t) PySem.noFill_list_mul F.fills_int_mul F.slot_int_rmul PySem.repeat_list F.slot_int_index.lookup
    (call_meets F.slot_int_rmul (typeIs_int s k t) F.entry_int_rmul (F.args_int_rmul_2 _ _) (PySem.int___rmul___int_list k t l its.toArray n)
      ⟨e, rfl, ⟨_, e, rfl⟩, call_meets F.slot_list_mul ⟨_, e, rfl⟩ F.entry_list_mul (F.args_list_mul_2 _ _) (AutoListH.list___mul___list_int_3 l its.toArray n k t hfit hcap hlong) ⟨e, ?_⟩⟩)
  rw [hnew]
  exact ⟨.ref _, _, I.lnew (t' := s.toks) (r.rep k.toNat) (by rw [PyProof.Rows.lm_len_rep_flat, Nat.mul_comm]; exact hz), rfl, q _ I.fresh⟩

def opB : Bin → Operator
  | .add => .Add
  | .sub => .Sub
  | .mul => .Mult
  | .fdiv => .FloorDiv
  | .mod => .Mod
  | .pow => .Pow

theorem rv_int {i : Int} : RV C Z ι H (.int i) (.int i) := by simp [RV]
theorem rv_bl {b : Bool} : RV C Z ι H (.bl b) (.bl b) := by simp [RV]
theorem rv_non : RV C Z ι H .non .non := by simp [RV]
theorem rv_str {x : List Nat} (h : asc x) : RV C Z ι H (.str x) (.str (SX.S x)) := by simp [RV, h]
theorem rv_tupNew {ds : List D} {xs : List L2.V} {p : Addr} (S : SO C Z ι H L) (hp : H p = none) (r : RVs C Z ι H ds xs) : RV C Z ι (L2.upd H p (.tup xs)) (.tup ds) (.ref p) := by
  unfold RV
  exact ⟨p, xs, rfl, L2.upd_same, S.fresh hp, RVs.mono (ex_upd hp) _ _ r⟩
theorem rv_lstNew {ds : List D} {xs : List L2.V} {p : Addr} (S : SO C Z ι H L) (hp : H p = none) (r : RVs C Z ι H ds xs) : RV C Z ι (L2.upd H p (.lst xs)) (.lst ds) (.ref p) := by
  unfold RV
  exact ⟨p, xs, rfl, .inl L2.upd_same, S.notz hp, S.fresh hp, RVs.mono (ex_upd hp) _ _ r⟩
theorem rv_tupOf {ds : List D} {v : L2.V} (r : RV C Z ι H (.tup ds) v) : ∃ a xs, v = .ref a ∧ H a = some (.tup xs) ∧ a ∉ ι ∧ RVs C Z ι H ds xs := by unfold RV at r; exact r
theorem asc_append {a b : List Nat} (h : asc a) (k : asc b) : asc (a ++ b) := fun c m => (List.mem_append.mp m).elim (h c) (k c)
theorem asc_sub {a b : List Nat} (h : asc a) (k : ∀ c ∈ b, c ∈ a) : asc b := fun c m => h c (k c m)
theorem asc_rep {a : List Nat} (h : asc a) (n : Nat) : asc (List.replicate n a).flatten := fun c m => by
  obtain ⟨l, hl, hc⟩ := List.mem_flatten.mp m
  obtain ⟨_, rfl⟩ := List.mem_replicate.mp hl
  exact h c hc
theorem flatten_rep_array (x : Array Nat) : ∀ n : Nat, ((List.replicate n x).foldl (· ++ ·) #[]) = ((List.replicate n x.toList).flatten).toArray := by
  have go : ∀ (n : Nat) (acc : Array Nat), ((List.replicate n x).foldl (· ++ ·) acc) = acc ++ ((List.replicate n x.toList).flatten).toArray := by
    intro n
    induction n with
    | zero => intro acc; simp
    | succ n ih =>
      intro acc
      rw [List.replicate_succ, List.foldl_cons, ih, List.replicate_succ, List.flatten_cons]
      apply Array.toList_inj.mp
      simp
  intro n
  rw [go n #[]]
  simp
/-- a text n times -/
theorem op_repS : L2.OpR X (binaryOp .Mult) (fun x y H Q => ∃ a k, x = .str (SX.S a) ∧ y = .int k ∧ 0 ≤ k ∧ k < 2 ^ 63 ∧ a.length * k.toNat ≤ sizeLine ∧ Q (.str (SX.S (List.replicate k.toNat a).flatten)) H) := by
  intro pins s σ H x y v u Q I rx ry h
  obtain ⟨a, k, rfl, rfl, h0, h1, hz, q⟩ := h
  obtain ⟨t, rfl⟩ := rx
  obtain ⟨t', rfl⟩ := ry
  have hsl := sizeLine_eq
  have lenS : (SX.S a).length = a.length := SX.S_len a
  have fin : ∀ {z : Str} {tk : Tok} {n : Nat}, z = SX.S (List.replicate k.toNat a).flatten → L2.EP X pins σ Q (.str z tk) { s with toks := n } := fun {z tk n} e => ⟨.str _, H, I.tok _, ⟨tk, by rw [e]⟩, q⟩
  have fin0 : ∀ {z : Str} {tk : Tok}, z = SX.S (List.replicate k.toNat a).flatten → L2.EP X pins σ Q (.str z tk) s := fun {z tk} e => ⟨.str _, H, I, ⟨tk, by rw [e]⟩, q⟩
  have c0 : (decide (k < -(2 ^ 63 : Int)) || decide (k ≥ 2 ^ 63)) = false := by
    rw [decide_eq_false (by omega), decide_eq_false (by omega)]; rfl
  refine PySem.P.mul_str (x := SX.S a) (n := k) c0 (fun h2 h3 => ?_) (fun h2 h3 => ?_) ?_
  · have hk : 0 < k := by omega
    have hb : (a.length : Int) * k ≤ 16777216 := by
      have e : ((a.length * k.toNat : Nat) : Int) = (a.length : Int) * k := by rw [Int.natCast_mul, Int.toNat_of_nonneg h0]
      rw [← e]; omega
    rw [lenS]
    intro hgt
    have h4 : (2 ^ 63 - 1 : Int) / k < (a.length : Int) := hgt
    have h5 : (2 ^ 63 - 1 : Int) < (a.length : Int) * k := (Int.ediv_lt_iff_lt_mul hk).mp h4
    omega
  · unfold Builtin.Str.tooLong
    rw [lenS]
    first
      | (rw [decide_eq_false (by omega)])
      | (simp; omega)
  · by_cases hk0 : k < 1
    · rw [if_pos hk0]
      refine ⟨by decide, fin ?_⟩
      have : k.toNat = 0 := by omega
      rw [this]
      rfl
    · rw [if_neg hk0]
      by_cases hk1 : (k == 1 || (SX.S a).length == 0) = true
      · rw [if_pos hk1]
        refine fin0 ?_
        rw [Bool.or_eq_true] at hk1
        rcases hk1 with e | e
        · have e' : k = 1 := by simpa using e
          subst e'
          simp
        · have e' : a.length = 0 := by simpa [lenS] using e
          have : a = [] := List.eq_nil_of_length_eq_zero e'
          subst this
          simp
      · rw [if_neg hk1]
        have e := flatten_rep_array a.toArray k.toNat
        have e2 : (⟨(List.replicate k.toNat (SX.S a).cps).foldl (· ++ ·) #[]⟩ : Str) = SX.S (List.replicate k.toNat a).flatten := by
          show (⟨(List.replicate k.toNat a.toArray).foldl (· ++ ·) #[]⟩ : Str) = _
          rw [e]
        refine ⟨?_, fin e2⟩
        first
          | (rw [e2]; unfold Builtin.Str.tooLong; rw [SX.S_len, PyProof.Rows.lm_len_rep_flat]; rw [decide_eq_false (by rw [Nat.mul_comm]; omega)])
          | (rw [e2, SX.S_len, PyProof.Rows.lm_len_rep_flat, Nat.mul_comm]; omega)

theorem rv_unInt {i : Int} {v : L2.V} (r : RV C Z ι H (.int i) v) : v = .int i := by simpa [RV] using r
theorem rv_unBl {i : Bool} {v : L2.V} (r : RV C Z ι H (.bl i) v) : v = .bl i := by simpa [RV] using r
theorem rv_unNon {v : L2.V} (r : RV C Z ι H .non v) : v = .non := by simpa [RV] using r
theorem rv_unStr {x : List Nat} {v : L2.V} (r : RV C Z ι H (.str x) v) : v = .str (SX.S x) ∧ asc x := by simpa [RV] using r

theorem bin_sound (hK : X.K = C.K) (I : L2.Inv X pins σ H s) (S : SO C Z ι H L) {o : Bin} {x y d : D} (h : binV L o x y = some d) {v w : L2.V} {u u' : Value} (rx : RV C Z ι H x v) (ry : RV C Z ι H y w)
    (r1 : L2.RelV v u) (r2 : L2.RelV w u') {Q : L2.VK} (q : ∀ v' H', L2.Same H H' → RV C Z ι H' d v' → Q v' H') : wpAny (model X.prog X.w) X.A (binaryOp (opB o) u u') (L2.EP X pins σ Q) X.xe s := by
  have q0 : ∀ v', RV C Z ι H d v' → Q v' H := fun v' r => q v' H (L2.Same.refl H) r
  unfold binV at h
  split at h
  · cases h
    exact L2.op_add pins s σ H _ _ u u' Q I r1 r2 ⟨_, _, rv_unInt rx, rv_unInt ry, q0 _ rv_int⟩
  · split at h
    · cases h
      rename_i a b hz
      obtain ⟨e1, a1⟩ := rv_unStr rx
      obtain ⟨e2, a2⟩ := rv_unStr ry
      refine L2.op_add_str pins s σ H _ _ u u' Q I r1 r2 ⟨_, _, e1, e2, by rw [SX.S_len, SX.S_len, ← big_eq]; exact hz, ?_⟩
      rw [SX.S_cat]
      exact q0 _ (rv_str (asc_append a1 a2))
    · cases h
  · split at h
    · cases h
      rename_i a b hz
      obtain ⟨la, xa, ea, ta, _, ra⟩ := rv_tupOf rx
      obtain ⟨lb, xb, eb, tb, _, rb⟩ := rv_tupOf ry
      refine L2.op_catA pins s σ H _ _ u u' Q I r1 r2 ⟨la, lb, xa, xb, ea, eb, L2.SqT.of ta, L2.SqT.of tb, by rw [← ra.length, ← rb.length, ← big_eq]; exact hz, fun e => ?_, fun _ e => ?_, fun _ _ p hp => ?_⟩
      · subst e
        have ha : a = [] := List.eq_nil_of_length_eq_zero (by rw [ra.length]; rfl)
        subst ha
        exact q0 _ (eb ▸ ry)
      · subst e
        have hb : b = [] := List.eq_nil_of_length_eq_zero (by rw [rb.length]; rfl)
        subst hb
        rw [List.append_nil] at q0
        exact q0 _ (ea ▸ rx)
      · exact q _ _ (same_upd hp) (rv_tupNew S hp (ra.append rb))
    · cases h
  · cases h
    exact L2.op_sub pins s σ H _ _ u u' Q I r1 r2 ⟨_, _, rv_unInt rx, rv_unInt ry, q0 _ rv_int⟩
  · split at h
    · cases h
      rename_i i j hz
      refine L2.op_mul pins s σ H _ _ u u' Q I r1 r2 ⟨_, _, rv_unInt rx, rv_unInt ry, ?_, q0 _ rv_int⟩
      unfold cmul at hz
      simp only [Bool.or_eq_true, Bool.and_eq_true, decide_eq_true_eq] at hz
      exact hz
    · cases h
  · split at h
    · cases h
      rename_i a k hz
      obtain ⟨la, xa, ea, ta, _, ra⟩ := rv_tupOf rx
      refine L2.op_repT pins s σ H _ _ u u' Q I r1 r2 ⟨la, k, xa, ea, rv_unInt ry, L2.SqT.of ta, fun e => hz.1 (List.eq_nil_of_length_eq_zero (by rw [ra.length, e]; rfl)), hz.2.1, hz.2.2.1, by rw [← ra.length]; exact hz.2.2.2, fun p hp => ?_⟩
      exact q _ _ (same_upd hp) (rv_tupNew S hp (ra.replicate _))
    · cases h
  · split at h
    · cases h
      rename_i a k hz
      obtain ⟨e1, a1⟩ := rv_unStr rx
      refine op_repS pins s σ H _ _ u u' Q I r1 r2 ⟨a, k, e1, rv_unInt ry, hz.1, hz.2.1, by rw [← big_eq]; exact hz.2.2, ?_⟩
      exact q0 _ (rv_str (asc_rep a1 _))
    · cases h
  · split at h
    · cases h
      rename_i i j hz
      exact L2.op_fdiv pins s σ H _ _ u u' Q I r1 r2 ⟨_, _, rv_unInt rx, rv_unInt ry, hz, q0 _ rv_int⟩
    · cases h
  · split at h
    · cases h
      rename_i i j hz
      exact L2.op_mod pins s σ H _ _ u u' Q I r1 r2 ⟨_, _, rv_unInt rx, rv_unInt ry, hz, q0 _ rv_int⟩
    · cases h
  · split at h
    · cases h
      rename_i i j hz
      exact L2.op_pow pins s σ H _ _ u u' Q I r1 r2 ⟨_, _, rv_unInt rx, rv_unInt ry, hz, q0 _ rv_int⟩
    · cases h
  · split at h
    · rename_i a b ha hb
      split at h
      · cases h
        rename_i hz
        obtain ⟨la, xa, ea, ta, ra⟩ := listOf_rv S ha rx
        obtain ⟨lb, xb, eb, tb, rb⟩ := listOf_rv S hb ry
        refine op_catR pins s σ H _ _ u u' Q I r1 r2 ⟨la, lb, xa, xb, ea, eb, ta, tb, by rw [← ra.length, ← rb.length, ← big_eq]; exact hz, fun p hp => ?_⟩
        exact q _ _ (same_upd hp) (rv_lstNew S hp (ra.append rb))
      · cases h
    · cases h
  · split at h
    · rename_i a ha
      split at h
      · cases h
        rename_i hz
        obtain ⟨la, xa, ea, ta, ra⟩ := listOf_rv S ha rx
        refine op_repR pins s σ H _ _ u u' Q I r1 r2 ⟨la, _, xa, ea, rv_unInt ry, ta, hz.1, hz.2.1, by rw [← ra.length, ← big_eq]; exact hz.2.2, fun p hp => ?_⟩
        exact q _ _ (same_upd hp) (rv_lstNew S hp (ra.replicate _))
      · cases h
    · cases h
  · cases h
end
end EV
end

section
set_option autoImplicit false
/-! comparisons, membership -/
namespace EV
open PySem

section
variable {X : L2.Cx} {C : Cfg} {Z : Addr → Prop} {ι : List Addr} {H : L2.Hp} {L : Store} {pins : List (Addr × Obj)} {s : Shared} {σ : L2.St}

theorem strOk_asc {x : List Nat} (h : asc x) : PyData.strOk (SX.S x) = true := by
  unfold PyData.strOk
  show (x.toArray.all fun c => decide (c < 0x110000)) = true
  rw [List.all_toArray, List.all_eq_true]
  intro c m
  have := h c m
  exact decide_eq_true (by omega)
mutual
theorem dp_rv : ∀ (n : Nat) (d : D) (v : L2.V), RV C Z ι H d v → d.shp n = true → L2.Dp C.K H v d.py ∧ d.py.canLay0 = true ∧ d.py.depth ≤ n
  | n, .non, v, r, _ => by rw [rv_unNon r]; exact ⟨.non, by simp [D.py, PyData.canLay0], by simp [D.py, PyData.depth]⟩
  | n, .bl b, v, r, _ => by rw [rv_unBl r]; exact ⟨.bl b, by simp [D.py, PyData.canLay0], by simp [D.py, PyData.depth]⟩
  | n, .int b, v, r, _ => by rw [rv_unInt r]; exact ⟨.int b, by simp [D.py, PyData.canLay0], by simp [D.py, PyData.depth]⟩
  | n, .str b, v, r, _ => by
    obtain ⟨e, a⟩ := rv_unStr r
    rw [e]
    exact ⟨.str _, by simp only [D.py, PyData.canLay0]; exact strOk_asc a, by simp [D.py, PyData.depth]⟩
  | n + 1, .tup ds, v, r, h => by
    obtain ⟨a, xs, e, t, _, q⟩ := rv_tupOf r
    have h' : shpAll n ds = true := by simpa [D.shp] using h
    obtain ⟨z1, z2, z3⟩ := dp_rvs n ds xs q h'
    rw [e]
    exact ⟨.tup (L2.SqT.of t) z1, by simp only [D.py, PyData.canLay0]; exact z2, by simp only [D.py, PyData.depth]; omega⟩
  | n + 1, .lst ds, v, r, h => by
    unfold RV at r
    obtain ⟨a, xs, e, t, _, _, q⟩ := r
    have h' : shpAll n ds = true := by simpa [D.shp] using h
    obtain ⟨z1, z2, z3⟩ := dp_rvs n ds xs q h'
    rw [e]
    exact ⟨.lst (.inl t) z1, by simp only [D.py, PyData.canLay0]; exact z2, by simp only [D.py, PyData.depth]; omega⟩
  | n + 1, .ktup ds, v, r, h => by
    unfold RV at r
    obtain ⟨a, xs, e, t, q⟩ := r
    have h' : shpAll n ds = true := by simpa [D.shp] using h
    obtain ⟨z1, z2, z3⟩ := dp_rvs n ds xs q h'
    rw [e]
    exact ⟨.tup (.inr t) z1, by simp only [D.py, PyData.canLay0]; exact z2, by simp only [D.py, PyData.depth]; omega⟩
  | 0, .tup ds, v, r, h => by simp [D.shp] at h
  | 0, .ktup ds, v, r, h => by simp [D.shp] at h
  | 0, .lst ds, v, r, h => by simp [D.shp] at h
  | n, .obj k, v, r, h => by cases n <;> simp [D.shp] at h
  | n, .fn k, v, r, h => by cases n <;> simp [D.shp] at h
  | n, .exn c d, v, r, h => by cases n <;> simp [D.shp] at h
theorem dp_rvs : ∀ (n : Nat) (ds : List D) (vs : List L2.V), RVs C Z ι H ds vs → shpAll n ds = true → L2.DpAll C.K H vs (pyAll ds) ∧ PyData.canLayAll0 (pyAll ds) = true ∧ PyData.depthAll (pyAll ds) ≤ n
  | n, [], vs, r, _ => by unfold RVs at r; subst r; exact ⟨.nil, by simp [pyAll, PyData.canLayAll0], by simp [pyAll, PyData.depthAll]⟩
  | n, d :: ds, vs, r, h => by
    obtain ⟨v, w, rfl, r1, r2⟩ := r.uncons
    have h' : d.shp n = true ∧ shpAll n ds = true := by simpa [shpAll] using h
    obtain ⟨z1, z2, z3⟩ := dp_rv n d v r1 h'.1
    obtain ⟨y1, y2, y3⟩ := dp_rvs n ds w r2 h'.2
    exact ⟨.cons z1 y1, by simp only [pyAll, PyData.canLayAll0, z2, y2, Bool.and_self], by simp only [pyAll, PyData.depthAll]; omega⟩
end
theorem shaped_rv {n : Nat} {d : D} {v : L2.V} (r : RV C Z ι H d v) (h : d.shp n = true) (hn : n ≤ 64) : L2.Dp C.K H v d.py ∧ SeqAt.shaped d.py = true := by
  obtain ⟨z1, z2, z3⟩ := dp_rv n d v r h
  refine ⟨z1, ?_⟩
  unfold SeqAt.shaped
  rw [z2, decide_eq_true (by omega : d.py.depth ≤ 64)]
  rfl
mutual
theorem eqv_py : ∀ (n m : Nat) (d e : D), d.shp n = true → e.shp m = true → PyData.eqv d.py e.py = d.eqv e
  | n, m, d, e, h, k => by
    cases d <;> (try (cases n <;> simp [D.shp] at h; done)) <;> cases e <;> (try (cases m <;> simp [D.shp] at k; done)) <;> simp only [D.py, PyData.eqv, D.eqv] <;> try rfl
    · rename_i a b
      exact SX.S_beq a b
    all_goals
      rename_i a b
      cases n with
      | zero => simp [D.shp] at h
      | succ n =>
        cases m with
        | zero => simp [D.shp] at k
        | succ m => exact eqvs_py n m a b (by simpa [D.shp] using h) (by simpa [D.shp] using k)
theorem eqvs_py : ∀ (n m : Nat) (ds es : List D), shpAll n ds = true → shpAll m es = true → PyData.eqvAll (pyAll ds) (pyAll es) = eqvAll ds es
  | n, m, [], [], _, _ => by simp [pyAll, PyData.eqvAll, eqvAll]
  | n, m, [], _ :: _, _, _ => by simp [pyAll, PyData.eqvAll, eqvAll]
  | n, m, _ :: _, [], _, _ => by simp [pyAll, PyData.eqvAll, eqvAll]
  | n, m, d :: ds, e :: es, h, k => by
    have h' : d.shp n = true ∧ shpAll n ds = true := by simpa [shpAll] using h
    have k' : e.shp m = true ∧ shpAll m es = true := by simpa [shpAll] using k
    simp only [pyAll, PyData.eqvAll, eqvAll]
    rw [eqv_py n m d e h'.1 k'.1, eqvs_py n m ds es h'.2 k'.2]
end
theorem dp_derf (S : SO C Z ι H L) {d : D} {v : L2.V} (r : RV C Z ι H d v) (h : (derf L d).shp 64 = true) : L2.Dp C.K H v (derf L d).py ∧ SeqAt.shaped (derf L d).py = true := by
  by_cases hk : ∃ k, d = .obj k
  · obtain ⟨k, rfl⟩ := hk
    unfold RV at r
    obtain ⟨a, ea, ev⟩ := r
    unfold derf at h ⊢
    simp only at h ⊢
    cases w : L[k]? with
    | none => rw [w] at h; simp [D.shp] at h
    | some o =>
      rw [w] at h
      cases o with
      | dK _ => simp [D.shp] at h
      | dT _ => simp [D.shp] at h
      | lst ds =>
        simp only at h ⊢
        obtain ⟨xs, q1, q2⟩ := S.at_ w ea
        have h' : shpAll 63 ds = true := by simpa [D.shp] using h
        obtain ⟨z1, z2, z3⟩ := dp_rvs 63 ds xs q2 h'
        subst ev
        refine ⟨.lst (.inl (.inl q1)) z1, ?_⟩
        unfold SeqAt.shaped
        have e2 : PyData.canLay0 (D.lst ds).py = true := by simp only [D.py, PyData.canLay0]; exact z2
        have e3 : PyData.depth (D.lst ds).py ≤ 64 := by simp only [D.py, PyData.depth]; omega
        rw [e2, decide_eq_true e3]
        rfl
  · have e : derf L d = d := by
      cases d <;> first | rfl | exact absurd ⟨_, rfl⟩ hk
    rw [e] at h ⊢
    exact shaped_rv r h (Nat.le_refl _)
theorem eqV_sound (hK : X.K = C.K) (hu : X.A.units + 64 < cLine) (I : L2.Inv X pins σ H s) (S : SO C Z ι H L) {x y : D} {b : Bool} (h : eqV L x y = some b) {v w : L2.V} {u u' : Value} (rx : RV C Z ι H x v) (ry : RV C Z ι H y w)
    (r1 : L2.RelV v u) (r2 : L2.RelV w u') {Q : L2.VK} : (Q (.bl b) H → wpAny (model X.prog X.w) X.A (compareOp .Eq u u') (L2.EP X pins σ Q) X.xe s) ∧ (Q (.bl (!b)) H → wpAny (model X.prog X.w) X.A (compareOp .NotEq u u') (L2.EP X pins σ Q) X.xe s) := by
  unfold eqV at h
  split at h
  · cases h
    rename_i i j
    rw [rv_unInt rx] at r1
    rw [rv_unInt ry] at r2
    have e : decide (L2.V.int i = L2.V.int j) = decide (i = j) := by rw [L2.dec_int]; exact Bool.beq_eq_decide_eq _ _
    exact ⟨fun q => L2.op_eq pins s σ H _ _ u u' Q I r1 r2 ⟨rfl, by rw [e]; exact q⟩, fun q => L2.op_ne pins s σ H _ _ u u' Q I r1 r2 ⟨rfl, by rw [e]; exact q⟩⟩
  · cases h
    rename_i i j
    obtain ⟨e1, a1⟩ := rv_unStr rx
    obtain ⟨e2, a2⟩ := rv_unStr ry
    subst e1
    subst e2
    have e : decide (L2.V.str (SX.S i) = L2.V.str (SX.S j)) = decide (i = j) := by rw [L2.dec_str]; exact SX.S_beq_eq
    exact ⟨fun q => L2.op_eq pins s σ H _ _ u u' Q I r1 r2 ⟨rfl, by rw [e]; exact q⟩, fun q => L2.op_ne pins s σ H _ _ u u' Q I r1 r2 ⟨rfl, by rw [e]; exact q⟩⟩
  · cases h
    rename_i i j
    rw [rv_unBl rx] at r1
    rw [rv_unBl ry] at r2
    have e : decide (L2.V.bl i = L2.V.bl j) = decide (i = j) := by rw [L2.dec_bl]; exact Bool.beq_eq_decide_eq _ _
    exact ⟨fun q => L2.op_eq pins s σ H _ _ u u' Q I r1 r2 ⟨rfl, by rw [e]; exact q⟩, fun q => L2.op_ne pins s σ H _ _ u u' Q I r1 r2 ⟨rfl, by rw [e]; exact q⟩⟩
  · split at h
    · cases h
      rename_i hz
      rw [Bool.and_eq_true] at hz
      obtain ⟨d1, s1⟩ := dp_derf S rx hz.1
      obtain ⟨d2, s2⟩ := dp_derf S ry hz.2
      have e := eqv_py 64 64 _ _ hz.1 hz.2
      exact ⟨fun q => L2.op_eqD hu pins s σ H _ _ u u' Q I r1 r2 ⟨_, _, hK ▸ d1, hK ▸ d2, s1, s2, by rw [e]; exact q⟩, fun q => L2.op_neD hu pins s σ H _ _ u u' Q I r1 r2 ⟨_, _, hK ▸ d1, hK ▸ d2, s1, s2, by rw [e]; exact q⟩⟩
    · cases h

/-! ### flat values -/
theorem flat_rv {d : D} {v : L2.V} (r : RV C Z ι H d v) (h : flat d = true) : L2.flatV v = true := by
  cases d <;> simp [flat] at h
  · rw [rv_unNon r]; rfl
  · rw [rv_unBl r]; rfl
  · rw [rv_unInt r]; rfl
  · rw [(rv_unStr r).1]; rfl
theorem flat_eqv {d e : D} {v w : L2.V} (r : RV C Z ι H d v) (t : RV C Z ι H e w) (h : flat d = true) (k : flat e = true) : L2.eqV v w = d.eqv e := by
  cases d <;> simp [flat] at h <;> cases e <;> simp [flat] at k
  all_goals (first | rw [rv_unNon r] | rw [rv_unBl r] | rw [rv_unInt r] | rw [(rv_unStr r).1])
  all_goals (first | rw [rv_unNon t] | rw [rv_unBl t] | rw [rv_unInt t] | rw [(rv_unStr t).1])
  all_goals simp only [L2.eqV, D.eqv]
  exact SX.S_beq _ _
theorem flats_rv : ∀ {ds : List D} {vs : List L2.V}, RVs C Z ι H ds vs → ds.all flat = true → vs.all L2.flatV = true
  | [], vs, r, _ => by unfold RVs at r; subst r; rfl
  | d :: ds, vs, r, h => by
    obtain ⟨v, w, rfl, r1, r2⟩ := r.uncons
    rw [List.all_cons, Bool.and_eq_true] at h ⊢
    exact ⟨flat_rv r1 h.1, flats_rv r2 h.2⟩
theorem inV_flat {x : D} {v : L2.V} (t : RV C Z ι H x v) (k : flat x = true) : ∀ {ds : List D} {vs : List L2.V}, RVs C Z ι H ds vs → ds.all flat = true → L2.inV v vs = ds.any fun d => d.eqv x
  | [], vs, r, _ => by unfold RVs at r; subst r; rfl
  | d :: ds, vs, r, h => by
    obtain ⟨v', w, rfl, r1, r2⟩ := r.uncons
    rw [List.all_cons, Bool.and_eq_true] at h
    have ih := inV_flat t k r2 h.2
    unfold L2.inV at ih ⊢
    rw [List.any_cons, List.any_cons, ih, flat_eqv r1 t h.1 k]
theorem any_py : ∀ {n : Nat} {x : D} {ds : List D}, x.shp 64 = true → shpAll n ds = true → ((pyAll ds).any fun e => PyData.eqv e x.py) = ds.any fun d => d.eqv x
  | n, x, [], _, _ => rfl
  | n, x, d :: ds, h, k => by
    have k' : d.shp n = true ∧ shpAll n ds = true := by simpa [shpAll] using k
    simp only [pyAll, List.any_cons]
    rw [eqv_py n 64 d x k'.1 h, any_py h k'.2]
end
end EV
end

section
set_option autoImplicit false
/-! comparisons as a whole; items, slices, isinstance -/
namespace EV
open PySem

theorem keyOf_kV {C : Cfg} {Z : Addr → Prop} {ι : List Addr} {H : L2.Hp} {d : D} {k : L2.Key} {v : L2.V} (h : keyOf d = some k) (r : RV C Z ι H d v) : v = L2.kV k := by
  cases d <;> simp only [keyOf] at h <;> cases h
  · exact rv_unInt r
  · exact (rv_unStr r).1
theorem keysOf_kV {C : Cfg} {Z : Addr → Prop} {ι : List Addr} {H : L2.Hp} : ∀ {ds : List D} {ks : List L2.Key} {vs : List L2.V}, keysOf ds = some ks → RVs C Z ι H ds vs → vs = ks.map L2.kV
  | [], ks, vs, h, r => by simp only [keysOf] at h; cases h; unfold RVs at r; subst r; rfl
  | d :: ds, ks, vs, h, r => by
    obtain ⟨v, w, rfl, r1, r2⟩ := r.uncons
    simp only [keysOf] at h
    cases e : keyOf d with
    | none => rw [e] at h; cases h
    | some k =>
      rw [e] at h
      cases e2 : keysOf ds with
      | none => rw [e2] at h; cases h
      | some q =>
        rw [e2] at h
        cases h
        rw [keyOf_kV e r1, keysOf_kV e2 r2]
        rfl
section
variable {X : L2.Cx} {C : Cfg} {Z : Addr → Prop} {ι : List Addr} {H : L2.Hp} {L : Store} {pins : List (Addr × Obj)} {s : Shared} {σ : L2.St}
/-- both none, or alike -/
def OpR2 (C : Cfg) (Z : Addr → Prop) (ι : List Addr) (H : L2.Hp) : Option D → Option L2.V → Prop
  | some d, some v => RV C Z ι H d v
  | none, none => True
  | _, _ => False
theorem KR.val {κ : Type} [DecidableEq κ] (k : κ) : ∀ {kvs : List (κ × D)} {kv : List (κ × L2.V)}, KR C Z ι H kvs kv → OpR2 C Z ι H (valK kvs k) (L2.valV kv k)
  | [], kv, h => by
    have e : kv = [] := h
    subst e
    simp [valK, L2.valV, OpR2]
  | p :: r, kv, h => by
    obtain ⟨q, t, rfl, hk, h1, h2⟩ := h
    obtain ⟨pk, pd⟩ := p
    obtain ⟨qk, qd⟩ := q
    simp only at hk h1
    subst hk
    by_cases e : pk = k
    · subst e
      rw [L2.valV_pos rfl]
      simp only [valK, if_true, OpR2]
      exact h1
    · rw [L2.valV_neg (show ¬ (pk, qd).1 = k from e)]
      simp only [valK, if_neg e]
      exact KR.val k h2
theorem KR.length {κ : Type} : ∀ {kvs : List (κ × D)} {kv : List (κ × L2.V)}, KR C Z ι H kvs kv → kvs.length = kv.length
  | [], kv, h => by have e : kv = [] := h; subst e; rfl
  | p :: r, kv, h => by
    obtain ⟨q, t, rfl, _, _, h2⟩ := h
    simp [KR.length h2]
theorem KR.map {κ : Type} [DecidableEq κ] (k : κ) {d : D} {v : L2.V} (r : RV C Z ι H d v) : ∀ {kvs : List (κ × D)} {kv : List (κ × L2.V)}, KR C Z ι H kvs kv →
    KR C Z ι H (kvs.map fun p => if p.1 = k then (p.1, d) else p) (kv.map fun p => if p.1 = k then (p.1, v) else p)
  | [], kv, h => by have e : kv = [] := h; subst e; exact rfl
  | p :: r', kv, h => by
    obtain ⟨q, t, rfl, hk, h1, h2⟩ := h
    refine ⟨_, _, rfl, ?_, ?_, KR.map k r h2⟩
    · show (if p.1 = k then (p.1, d) else p).1 = (if q.1 = k then (q.1, v) else q).1
      by_cases e : p.1 = k
      · rw [if_pos e, if_pos (hk ▸ e)]; exact hk
      · rw [if_neg e, if_neg (hk ▸ e)]; exact hk
    · show RV C Z ι H (if p.1 = k then (p.1, d) else p).2 (if q.1 = k then (q.1, v) else q).2
      by_cases e : p.1 = k
      · rw [if_pos e, if_pos (hk ▸ e)]; exact r
      · rw [if_neg e, if_neg (hk ▸ e)]; exact h1
theorem KR.append {κ : Type} {k : κ} {d : D} {v : L2.V} (r : RV C Z ι H d v) : ∀ {kvs : List (κ × D)} {kv : List (κ × L2.V)}, KR C Z ι H kvs kv → KR C Z ι H (kvs ++ [(k, d)]) (kv ++ [(k, v)])
  | [], kv, h => by have e : kv = [] := h; subst e; exact ⟨(k, v), [], rfl, rfl, r, rfl⟩
  | p :: r', kv, h => by
    obtain ⟨q, t, rfl, hk, h1, h2⟩ := h
    exact ⟨q, t ++ [(k, v)], rfl, hk, h1, KR.append r h2⟩
theorem KR.put {κ : Type} [DecidableEq κ] {kvs : List (κ × D)} {kv : List (κ × L2.V)} (h : KR C Z ι H kvs kv) (k : κ) {d : D} {v : L2.V} (r : RV C Z ι H d v) : KR C Z ι H (putK kvs k d) (L2.putK kv k v) := by
  have q := KR.val k h
  unfold putK L2.putK
  rw [L2.valV_any]
  cases e1 : valK kvs k with
  | none =>
    cases e2 : L2.valV kv k with
    | none => simp; exact KR.append r h
    | some _ => rw [e1, e2] at q; exact False.elim q
  | some _ =>
    cases e2 : L2.valV kv k with
    | none => rw [e1, e2] at q; exact False.elim q
    | some _ => simp; exact KR.map k r h
/-- d[k]: what the dict holds -/
theorem dictGet_rv (S : SO C Z ι H L) {x k : D} {o : Option D} {v w : L2.V} (h : dictGet L x k = some o) (rx : RV C Z ι H x v) (rk : RV C Z ι H k w) :
    ∃ a r, v = .ref a ∧ L2.DGet H a w r ∧ OpR2 C Z ι H o r := by
  cases x <;> simp only [dictGet] at h <;> try cases h
  rename_i n
  unfold RV at rx
  obtain ⟨a, ea, ev⟩ := rx
  subst ev
  cases e : L[n]? with
  | none => rw [e] at h; cases h
  | some ob =>
    rw [e] at h
    cases ob with
    | lst ds => cases h
    | dK kvs =>
      simp only at h
      cases eq : keyOf k with
      | none => rw [eq] at h; cases h
      | some q =>
        rw [eq] at h
        cases h
        obtain ⟨kv, q1, q2⟩ := S.at_ e ea
        rw [keyOf_kV eq rk]
        exact ⟨a, _, rfl, .k q1, KR.val q q2⟩
    | dT kvs =>
      cases k with
      | tup ds =>
        simp only at h
        cases eq : keysOf ds with
        | none => rw [eq] at h; cases h
        | some q =>
          rw [eq] at h
          cases h
          obtain ⟨kv, q1, q2⟩ := S.at_ e ea
          obtain ⟨b, xs, eb, tb, _, rb⟩ := rv_tupOf rk
          subst eb
          have e2 := keysOf_kV eq rb
          subst e2
          exact ⟨a, _, rfl, .t q1 tb, KR.val q q2⟩
      | _ => cases h

def opC : Cmp → CmpOp
  | .eq => .Eq
  | .ne => .NotEq
  | .lt => .Lt
  | .le => .LtE
  | .gt => .Gt
  | .ge => .GtE
  | .isin => .In
  | .notin => .NotIn
theorem intsOf_rv : ∀ {ds : List D} {ns : List Int} {vs : List L2.V}, intsOf ds = some ns → RVs C Z ι H ds vs → vs = ns.map L2.V.int
  | [], ns, vs, h, r => by simp only [intsOf] at h; cases h; unfold RVs at r; subst r; rfl
  | d :: ds, ns, vs, h, r => by
    obtain ⟨v, w, rfl, r1, r2⟩ := r.uncons
    cases d <;> simp only [intsOf] at h <;> try cases h
    rename_i i
    cases e : intsOf ds with
    | none => rw [e] at h; cases h
    | some l =>
      rw [e] at h
      cases h
      rw [rv_unInt r1, intsOf_rv e r2]
      rfl
theorem in_sound (hK : X.K = C.K) (hu : X.A.units + 65 < cLine) (I : L2.Inv X pins σ H s) (S : SO C Z ι H L) {x y : D} {b : Bool} (h : inV L x y = some b) {v w : L2.V} {u u' : Value} (rx : RV C Z ι H x v) (ry : RV C Z ι H y w)
    (r1 : L2.RelV v u) (r2 : L2.RelV w u') {Q : L2.VK} : (Q (.bl b) H → wpAny (model X.prog X.w) X.A (compareOp .In u u') (L2.EP X pins σ Q) X.xe s) ∧ (Q (.bl (!b)) H → wpAny (model X.prog X.w) X.A (compareOp .NotIn u u') (L2.EP X pins σ Q) X.xe s) := by
  have seqCase : ∀ {ds : List D}, seqOf L y = some ds → (flat x && ds.all flat) = true → (ds.any fun d => d.eqv x) = b →
      (Q (.bl b) H → wpAny (model X.prog X.w) X.A (compareOp .In u u') (L2.EP X pins σ Q) X.xe s) ∧ (Q (.bl (!b)) H → wpAny (model X.prog X.w) X.A (compareOp .NotIn u u') (L2.EP X pins σ Q) X.xe s) := fun {ds} e hf hb => by
    rw [Bool.and_eq_true] at hf
    obtain ⟨a, xs, ea, t, q⟩ := seqOf_rv S e ry
    have ei := inV_flat rx hf.1 q hf.2
    rw [hb] at ei
    have t' : L2.SqL X.K H a xs ∨ L2.SqT X.K H a xs := hK ▸ t
    exact ⟨fun g => L2.op_in_seq pins s σ H _ _ u u' Q I r1 r2 ⟨a, xs, ea, t', flat_rv rx hf.1, flats_rv q hf.2, by rw [ei]; exact g⟩,
      fun g => L2.op_notIn_seq pins s σ H _ _ u u' Q I r1 r2 ⟨a, xs, ea, t', flat_rv rx hf.1, flats_rv q hf.2, by rw [ei]; exact g⟩⟩
  unfold inV at h
  split at h
  · rename_i y' bs
    obtain ⟨e2, a2⟩ := rv_unStr ry
    subst e2
    split at h
    · cases h
      rename_i c
      obtain ⟨e1, a1⟩ := rv_unStr rx
      subst e1
      exact ⟨fun g => L2.op_in_sign pins s σ H _ _ u u' Q I r1 r2 ⟨c, _, rfl, rfl, g⟩, fun g => L2.op_notIn_sign pins s σ H _ _ u u' Q I r1 r2 ⟨c, _, rfl, rfl, g⟩⟩
    · cases h
      obtain ⟨e1, a1⟩ := rv_unStr rx
      subst e1
      exact ⟨fun g => L2.op_in_str pins s σ H _ _ u u' Q I r1 r2 ⟨_, _, rfl, rfl, g⟩, fun g => L2.op_notIn_str pins s σ H _ _ u u' Q I r1 r2 ⟨_, _, rfl, rfl, g⟩⟩
    · cases h
  · rename_i y' hy
    split at h
    · rename_i ds e
      split at h
      · rename_i hf
        cases h
        exact seqCase e hf rfl
      · split at h
        · cases h
        · cases h
        · rename_i ht hk
          split at h
          · rename_i hz
            cases h
            rw [Bool.and_eq_true] at hz
            have e' : listOf L y = some ds := by
              cases y <;> first | exact e | exact absurd rfl (ht _) | exact absurd rfl (hk _)
            obtain ⟨a, xs, ea, t, q⟩ := listOf_rv S e' ry
            subst ea
            obtain ⟨d1, s1⟩ := shaped_rv rx hz.1 (Nat.le_refl _)
            obtain ⟨z1, z2, z3⟩ := dp_rvs 63 ds xs q hz.2
            have d2 : L2.Dp X.K H (.ref a) (.list (pyAll ds)) := hK ▸ L2.Dp.lst (.inl t) z1
            have s2 : SeqAt.shaped (.list (pyAll ds)) = true := by
              unfold SeqAt.shaped
              have e2 : PyData.canLay0 (.list (pyAll ds)) = true := by simp only [PyData.canLay0]; exact z2
              have e3 : PyData.depth (.list (pyAll ds)) ≤ 64 := by simp only [PyData.depth]; omega
              rw [e2, decide_eq_true e3]
              rfl
            have ea2 := any_py (n := 63) hz.1 hz.2
            exact ⟨fun g => L2.op_inD hu pins s σ H _ _ u u' Q I r1 r2 ⟨_, _, hK ▸ d1, d2, s1, s2, by rw [ea2]; exact g⟩, fun g => L2.op_notInD hu pins s σ H _ _ u u' Q I r1 r2 ⟨_, _, hK ▸ d1, d2, s1, s2, by rw [ea2]; exact g⟩⟩
          · cases h
    · split at h
      · rename_i o e
        cases h
        obtain ⟨a, r, ea, g, m⟩ := dictGet_rv S e ry rx
        subst ea
        cases (show u' = Value.ref a from r2)
        have hs : r.isSome = o.isSome := by
          cases o <;> cases r <;> first | rfl | exact False.elim m
        have hu1 : X.A.units + 1 < cLine := by omega
        refine ⟨fun q => L2.d_in hu1 I g r1 fun s' J => ⟨.bl _, H, J, rfl, ?_⟩, fun q => L2.d_notIn hu1 I g r1 fun s' J => ⟨.bl _, H, J, rfl, ?_⟩⟩
        · rw [hs]; exact q
        · rw [hs]; exact q
      · cases h
theorem cmp_sound (hK : X.K = C.K) (hu : X.A.units + 65 < cLine) (I : L2.Inv X pins σ H s) (S : SO C Z ι H L) {o : Cmp} {x y : D} {b : Bool} (h : cmpV L o x y = some b) {v w : L2.V} {u u' : Value} (rx : RV C Z ι H x v) (ry : RV C Z ι H y w)
    (r1 : L2.RelV v u) (r2 : L2.RelV w u') {Q : L2.VK} (q : Q (.bl b) H) : wpAny (model X.prog X.w) X.A (compareOp (opC o) u u') (L2.EP X pins σ Q) X.xe s := by
  unfold cmpV at h
  split at h
  · exact (eqV_sound hK (by omega) I S h rx ry r1 r2).1 q
  · split at h
    · rename_i c e
      cases h
      exact (eqV_sound hK (by omega) I S e rx ry r1 r2).2 q
    · cases h
  · exact (in_sound hK hu I S h rx ry r1 r2).1 q
  · split at h
    · rename_i c e
      cases h
      exact (in_sound hK hu I S e rx ry r1 r2).2 q
    · cases h
  · split at h
    · cases h
      exact L2.op_lt pins s σ H _ _ u u' Q I r1 r2 ⟨_, _, rv_unInt rx, rv_unInt ry, q⟩
    · cases h
      exact L2.op_lt_str pins s σ H _ _ u u' Q I r1 r2 ⟨_, _, (rv_unStr rx).1, (rv_unStr ry).1, q⟩
    · split at h
      · rename_i a b' ns ms e1 e2
        cases h
        obtain ⟨la, xa, ea, ta, _, ra⟩ := rv_tupOf rx
        obtain ⟨lb, xb, eb, tb, _, rb⟩ := rv_tupOf ry
        have z1 := intsOf_rv e1 ra
        have z2 := intsOf_rv e2 rb
        subst z1
        subst z2
        exact L2.op_ltT (by omega) pins s σ H _ _ u u' Q I r1 r2 ⟨la, lb, _, _, ea, eb, .of ta, .of tb, q⟩
      · cases h
    · cases h
  · split at h
    · cases h
      exact L2.op_le pins s σ H _ _ u u' Q I r1 r2 ⟨_, _, rv_unInt rx, rv_unInt ry, q⟩
    · cases h
  · split at h
    · cases h
      exact L2.op_gt pins s σ H _ _ u u' Q I r1 r2 ⟨_, _, rv_unInt rx, rv_unInt ry, q⟩
    · cases h
  · split at h
    · cases h
      exact L2.op_ge pins s σ H _ _ u u' Q I r1 r2 ⟨_, _, rv_unInt rx, rv_unInt ry, q⟩
    · cases h

/-! ### items and slices -/
theorem rvs_atI {ds : List D} {vs : List L2.V} {i : Int} {d : D} (r : RVs C Z ι H ds vs) (h : L2.atI ds i = some d) : ∃ v, L2.atI vs i = some v ∧ RV C Z ι H d v := by
  unfold L2.atI at h ⊢
  rw [← r.length]
  cases e : L2.ixN ds.length i with
  | none => rw [e] at h; cases h
  | some j =>
    rw [e] at h
    exact r.get h
theorem ix_sound (hK : X.K = C.K) (I : L2.Inv X pins σ H s) (S : SO C Z ι H L) {x y d : D} (h : ixV L x y = some d) {v w : L2.V} (rx : RV C Z ι H x v) (ry : RV C Z ι H y w) {Q : L2.VK} (q : ∀ v', RV C Z ι H d v' → Q v' H) : L2.rIx X.K v w H Q := by
  unfold ixV at h
  split at h
  · split at h
    · rename_i a i hz
      obtain ⟨e1, a1⟩ := rv_unStr rx
      split at h
      · rename_i c e
        cases h
        refine .inr (.inr ⟨_, i, c, e1, rv_unInt ry, by rw [SX.S_len, ← big_eq]; exact hz, e, q _ ?_⟩)
        refine rv_str fun c' m => ?_
        have : c' = c := by simpa using m
        subst this
        obtain ⟨j, _, hj, _⟩ := L2.atI_get e
        exact a1 _ (List.mem_of_getElem? hj)
      · cases h
    · cases h
  · split at h
    · rename_i ds e
      obtain ⟨a, xs, ea, t, r⟩ := seqOf_rv S e rx
      obtain ⟨v', hv, rv⟩ := rvs_atI r h
      rcases t with t | t
      · exact .inl ⟨a, xs, _, v', ea, rv_unInt ry, hK ▸ t, hv, q _ rv⟩
      · exact .inr (.inl ⟨a, xs, _, v', ea, rv_unInt ry, hK ▸ t, hv, q _ rv⟩)
    · cases h
  · cases h
theorem rvs_cut {ds : List D} {vs : List L2.V} (r : RVs C Z ι H ds vs) (lo hi : Option Int) : RVs C Z ι H (cutL ds lo hi) (L2.cutV vs lo hi) := by
  unfold cutL L2.cutV
  rw [← r.length]
  exact (r.drop _).take _
theorem cut_whole {α : Type} {xs : List α} {lo hi : Option Int} (h : HT.sIx xs.length 0 lo = 0 ∧ HT.sIx xs.length xs.length hi = xs.length) : cutL xs lo hi = xs := by
  unfold cutL
  rw [h.1, h.2]
  simp
def rSlV (K : PySem.W.Frag) : L2.V → Option Int → Option Int → L2.Hp → L2.VK → Prop := fun x lo hi H Q => L2.rSlS x lo hi H Q ∨ L2.rSlA K x lo hi H Q ∨ L2.rSlL K x lo hi H Q
theorem sl_txt2 : L2.SlR X (rSlV X.K) := L2.sl_str.or (L2.sl_tupA.or L2.sl_list)
end
end EV
end

section
set_option autoImplicit false
/-! slices, isinstance, built-ins, methods -/
namespace EV
open PySem

/-- the first place of a text within a text -/
theorem occ_par {a b p q : List Nat} (hb : b ≠ []) (h : TL.par b [] a = some (p, q)) : ∃ r, Builtin.Str.occurrences (SX.S a) (SX.S b) 0 (SX.S a).length 1 = p.length :: r := by
  have e := SX.partition_some hb h
  cases o : Builtin.Str.occurrences (SX.S a) (SX.S b) 0 (SX.S a).length 1 with
  | nil =>
    unfold Txt.partition at e
    rw [o] at e
    simp only [Prod.mk.injEq] at e
    have z : SX.S [] = SX.S b := e.2.1
    exact absurd (SX.S_inj z).symm hb
  | cons i r =>
    unfold Txt.partition at e
    rw [o] at e
    simp only [Prod.mk.injEq] at e
    have hi := (StrLaws.occ_spec (SX.S a) (SX.S b) 0 (SX.S a).length 1 i (by rw [o]; exact List.mem_cons_self)).1
    rw [SX.S_len, SX.S_len] at hi
    have t := congrArg TL.tl e.1
    rw [TL.tl_strSub] at t
    have t' : ((a.drop 0).take (i - 0)) = p := t
    rw [List.drop_zero, Nat.sub_zero] at t'
    refine ⟨r, ?_⟩
    rw [← t', List.length_take, Nat.min_eq_left (by omega)]

section
variable {X : L2.Cx} {C : Cfg} {Z : Addr → Prop} {ι : List Addr} {H : L2.Hp} {L : Store} {pins : List (Addr × Obj)} {s : Shared} {σ : L2.St}
theorem asc_cut {a : List Nat} (h : asc a) (lo hi : Option Int) : asc (cutL a lo hi) := asc_sub h fun c m => List.mem_of_mem_drop (List.mem_of_mem_take m)
theorem sl_sound (hK : X.K = C.K) (S : SO C Z ι H L) {x d : D} {lo hi : Option Int} (h : slV L x lo hi = some d) {v : L2.V} (rx : RV C Z ι H x v) {Q : L2.VK} (q : ∀ v' H', L2.Same H H' → RV C Z ι H' d v' → Q v' H') : rSlV X.K v lo hi H Q := by
  have q0 : ∀ v', RV C Z ι H d v' → Q v' H := fun v' r => q v' H (L2.Same.refl H) r
  have lstCase : ∀ {ds : List D}, listOf L x = some ds → d = .lst (cutL ds lo hi) → rSlV X.K v lo hi H Q := fun {ds} e ed => by
    subst ed
    obtain ⟨a, xs, ea, t, r⟩ := listOf_rv S e rx
    exact .inr (.inr ⟨a, xs, ea, .inl t, fun p hp => q _ _ (same_upd hp) (rv_lstNew S hp (rvs_cut r lo hi))⟩)
  cases x <;> simp only [slV] at h <;> try (simp only [listOf] at h; cases h; done)
  · split at h
    · rename_i a hz
      cases h
      obtain ⟨e1, a1⟩ := rv_unStr rx
      subst e1
      refine .inl ⟨_, rfl, by rw [SX.S_len, ← big_eq]; exact hz, ?_⟩
      have e : L2.cutS (SX.S a) lo hi = SX.S (cutL a lo hi) := by
        unfold L2.cutS cutL
        first
          | rfl
          | (simp only [SX.S_len]; rfl)
          | (apply TL.ext_tl; simp [TL.tl, SX.S_len])
      rw [e]
      exact q0 _ (rv_str (asc_cut a1 lo hi))
    · cases h
  · cases h
    rename_i ds
    obtain ⟨a, xs, ea, t, nz, r⟩ := rv_tupOf rx
    refine .inr (.inl ⟨a, xs, ea, .of t, fun w => ?_, fun _ p hp => q _ _ (same_upd hp) (rv_tupNew S hp (rvs_cut r lo hi))⟩)
    rw [← r.length] at w
    rw [cut_whole w] at q0
    exact q0 _ (ea ▸ rx)
  · split at h
    · cases h
      rename_i ds' e
      exact lstCase e rfl
    · cases h
  · split at h
    · cases h
      rename_i ds' e
      exact lstCase e rfl
    · cases h

def tyN : Ty → String
  | .int => "int"
  | .str => "str"
  | .bool => "bool"
  | .tuple => "tuple"
  | .list => "list"
theorem kitT (t : Ty) : L2.kitB "NoneType" (tyN t) = some false ∧ L2.kitB "bool" (tyN t) = some (t == .bool || t == .int) ∧ L2.kitB "int" (tyN t) = some (t == .int) ∧ L2.kitB "str" (tyN t) = some (t == .str) ∧
    L2.kitB "tuple" (tyN t) = some (t == .tuple) ∧ L2.kitB "list" (tyN t) = some (t == .list) ∧ L2.kitB "dict" (tyN t) = some false := by
  cases t <;> decide +kernel
theorem isi_sound (hK : X.K = C.K) (S : SO C Z ι H L) {x : D} {t : Ty} {b : Bool} (h : isiV t L x = some b) {v : L2.V} (rx : RV C Z ι H x v) {Q : L2.VK} (q : Q (.bl b) H) : L2.rIsi X.K [v, .ty (tyN t)] H Q := by
  have fin : ∀ {ty : String} {b' : Bool}, L2.TyX X.K H v (.type ty) → L2.kitB ty (tyN t) = some b' → b' = b → L2.rIsi X.K [v, .ty (tyN t)] H Q := fun {ty b'} k e eb => by
    subst eb
    exact ⟨v, _, _, _, b', rfl, .ty _, k, L2.kit_ty e, q⟩
  cases x with
  | non => simp only [isiV] at h; cases h; have e := rv_unNon rx; subst e; exact fin (.base .non) (kitT t).1 rfl
  | bl c => simp only [isiV] at h; cases h; have e := rv_unBl rx; subst e; exact fin (.base (.bl c)) (kitT t).2.1 rfl
  | int c => simp only [isiV] at h; cases h; have e := rv_unInt rx; subst e; exact fin (.base (.int c)) (kitT t).2.2.1 rfl
  | str c => simp only [isiV] at h; cases h; obtain ⟨e, _⟩ := rv_unStr rx; subst e; exact fin (.base (.str _)) (kitT t).2.2.2.1 rfl
  | tup ds =>
    simp only [isiV] at h
    cases h
    obtain ⟨a, xs, ea, ta, _⟩ := rv_tupOf rx
    subst ea
    exact fin (.base (.tup ta)) (kitT t).2.2.2.2.1 rfl
  | ktup ds =>
    simp only [isiV] at h
    cases h
    unfold RV at rx
    obtain ⟨a, xs, ea, ⟨o, its, n, hk, hc, _⟩, _⟩ := rx
    subst ea
    exact fin (.kTuple (hK ▸ hk) hc) (kitT t).2.2.2.2.1 rfl
  | lst ds =>
    simp only [isiV] at h
    cases h
    unfold RV at rx
    obtain ⟨a, xs, ea, ta, _⟩ := rx
    subst ea
    rcases ta with ta | ⟨o, ta⟩
    · exact fin (.base (.lst ta)) (kitT t).2.2.2.2.2.1 rfl
    · exact fin (.base (.frz ta)) (kitT t).2.2.2.2.2.1 rfl
  | obj k =>
    simp only [isiV] at h
    unfold RV at rx
    obtain ⟨a, ea, ev⟩ := rx
    subst ev
    cases e : L[k]? with
    | none => rw [e] at h; cases h
    | some o =>
      rw [e] at h
      have z := S.at_ e ea
      cases o with
      | lst ds =>
        cases h
        obtain ⟨xs, q1, _⟩ := z
        exact fin (.base (.lst q1)) (kitT t).2.2.2.2.2.1 rfl
      | dK kvs =>
        cases h
        obtain ⟨xs, q1, _⟩ := z
        exact fin (.base (.dK q1)) (kitT t).2.2.2.2.2.2 rfl
      | dT kvs =>
        cases h
        obtain ⟨xs, q1, _⟩ := z
        exact fin (.base (.dT q1)) (kitT t).2.2.2.2.2.2 rfl
  | fn f => simp only [isiV] at h; cases h
  | exn c d => simp only [isiV] at h; cases h

/-! ### built-ins -/
def biF : Bi → Value
  | .len => .builtin "len"
  | .tuple => .type "tuple"
  | .all => .builtin "all"
  | .any => .builtin "any"
  | .sum => .builtin "sum"
  | .str => .type "str"
  | .int => .type "int"
theorem blsOf_rv : ∀ {ds : List D} {ns : List Bool} {vs : List L2.V}, blsOf ds = some ns → RVs C Z ι H ds vs → vs = ns.map L2.V.bl
  | [], ns, vs, h, r => by simp only [blsOf] at h; cases h; unfold RVs at r; subst r; rfl
  | d :: ds, ns, vs, h, r => by
    obtain ⟨v, w, rfl, r1, r2⟩ := r.uncons
    cases d <;> simp only [blsOf] at h <;> try cases h
    cases e : blsOf ds with
    | none => rw [e] at h; cases h
    | some l =>
      rw [e] at h
      cases h
      rw [rv_unBl r1, blsOf_rv e r2]
      rfl
theorem strsOf_rv : ∀ {ds : List D} {ns : List (List Nat)} {vs : List L2.V}, strsOf ds = some ns → RVs C Z ι H ds vs → vs = (ns.map SX.S).map L2.V.str ∧ ∀ y ∈ ns, asc y
  | [], ns, vs, h, r => by simp only [strsOf] at h; cases h; unfold RVs at r; subst r; exact ⟨rfl, fun _ m => by cases m⟩
  | d :: ds, ns, vs, h, r => by
    obtain ⟨v, w, rfl, r1, r2⟩ := r.uncons
    cases d <;> simp only [strsOf] at h <;> try cases h
    cases e : strsOf ds with
    | none => rw [e] at h; cases h
    | some l =>
      rw [e] at h
      cases h
      obtain ⟨e1, a1⟩ := rv_unStr r1
      obtain ⟨e2, a2⟩ := strsOf_rv e r2
      rw [e1, e2]
      refine ⟨rfl, fun y m => ?_⟩
      rcases List.mem_cons.mp m with m | m
      · subst m; exact a1
      · exact a2 y m
theorem asc_num (n : Nat) : asc (TL.numL n) := fun c m => by
  have := TL.numL_digits n c m
  omega
theorem bi_sound (hK : X.K = C.K) (hc : X.calm = true) (I : L2.Inv X pins σ H s) (S : SO C Z ι H L) {b : Bi} {xs : List D} {d : D} (h : biV L b xs = some d) {vs : List L2.V} {us : List Value} (rx : RVs C Z ι H xs vs) (r1 : L2.Vals vs us) {Q : L2.VK}
    (q : ∀ v' H', L2.Same H H' → RV C Z ι H' d v' → Q v' H') : wpAny (model X.prog X.w) X.A (call (biF b) us) (L2.EP X pins σ Q) X.xe s := by
  have q0 : ∀ v', RV C Z ι H d v' → Q v' H := fun v' r => q v' H (L2.Same.refl H) r
  obtain ⟨x, rfl⟩ : ∃ x, xs = [x] := by
    cases b <;> cases xs with
    | nil => simp [biV] at h
    | cons x r => cases r with
      | nil => exact ⟨x, rfl⟩
      | cons _ _ => simp [biV] at h
  obtain ⟨v, w, rfl, rv, rw'⟩ := rx.uncons
  have ew : w = [] := by unfold RVs at rw'; exact rw'
  subst ew
  cases b with
  | len =>
    by_cases hs : ∃ a, x = .str a
    · obtain ⟨a, rfl⟩ := hs
      simp only [biV] at h
      split at h
      · rename_i hz
        cases h
        obtain ⟨e1, a1⟩ := rv_unStr rv
        refine L2.call_len_str pins s σ H _ us Q I r1 ⟨_, by rw [e1], by rw [SX.S_len, ← big_eq]; exact hz, ?_⟩
        rw [SX.S_len]
        exact q0 _ rv_int
      · cases h
    · have h' : (match seqOf L x with
        | some ds => some (D.int ds.length)
        | none => match x with
          | .obj k => match L[k]? with
            | some (.dK kvs) => some (.int kvs.length)
            | _ => none
          | _ => none) = some d := by
        cases x <;> first | exact h | exact absurd ⟨_, rfl⟩ hs
      cases e : seqOf L x with
      | some ds =>
        rw [e] at h'
        cases h'
        obtain ⟨a, xs, ea, t, r⟩ := seqOf_rv S e rv
        subst ea
        refine L2.call_len_seq pins s σ H _ us Q I r1 ⟨a, xs, rfl, hK ▸ t, ?_⟩
        rw [← r.length]
        exact q0 _ rv_int
      | none =>
        rw [e] at h'
        cases x <;> simp only at h' <;> try cases h'
        rename_i k
        cases e2 : L[k]? with
        | none => rw [e2] at h'; cases h'
        | some o =>
          rw [e2] at h'
          cases o <;> try cases h'
          unfold RV at rv
          obtain ⟨a, ea, ev⟩ := rv
          subst ev
          obtain ⟨kv, q1, q2⟩ := S.at_ e2 ea
          obtain ⟨u, rfl, ru⟩ := L2.vals1 r1
          cases (show u = Value.ref a from ru)
          refine L2.d_len I (.inl q1) fun t s' J => ⟨.int _, H, J, ⟨t, rfl⟩, ?_⟩
          rw [← q2.length]
          exact q0 _ rv_int
  | tuple =>
    by_cases hs : ∃ a, x = .ktup a
    · obtain ⟨a, rfl⟩ := hs
      simp only [biV] at h
      cases h
      have rv' := rv
      unfold RV at rv'
      obtain ⟨p, xs, ea, t, r⟩ := rv'
      subst ea
      exact L2.call_tuple_of pins s σ H _ us Q I r1 ⟨p, xs, rfl, .inr ⟨.inr (hK ▸ t), q0 _ rv⟩⟩
    · have h' : (match seqOf L x with
        | some ds => some (D.tup ds)
        | none => none) = some d := by
        cases x <;> first | exact h | exact absurd ⟨_, rfl⟩ hs
      cases e : seqOf L x with
      | none => rw [e] at h'; cases h'
      | some ds =>
        rw [e] at h'
        cases h'
        by_cases ht : ∃ es, x = .tup es
        · obtain ⟨es, rfl⟩ := ht
          simp only [seqOf] at e
          cases e
          obtain ⟨p, xs, ea, t, _, r⟩ := rv_tupOf rv
          subst ea
          exact L2.call_tuple_of pins s σ H _ us Q I r1 ⟨p, xs, rfl, .inr ⟨.of t, q0 _ rv⟩⟩
        · have e' : listOf L x = some ds := by
            cases x <;> first | exact e | exact absurd ⟨_, rfl⟩ ht | exact absurd ⟨_, rfl⟩ hs
          obtain ⟨p, xs, ea, t, r⟩ := listOf_rv S e' rv
          subst ea
          exact L2.call_tuple_of pins s σ H _ us Q I r1 ⟨p, xs, rfl, .inl ⟨.inl t, fun l hl => q _ _ (same_upd hl) (rv_tupNew S hl r)⟩⟩
  | all =>
    simp only [biV] at h
    cases e : listOf L x with
    | none => rw [e] at h; cases h
    | some ds =>
      rw [e] at h
      cases e2 : blsOf ds with
      | none => simp only [e2] at h; cases h
      | some bs =>
        simp only [e2] at h
        cases h
        obtain ⟨p, xs, ea, t, r⟩ := listOf_rv S e rv
        subst ea
        have z := blsOf_rv e2 r
        subst z
        exact L2.cr_all hc pins s σ H _ us Q I r1 ⟨p, bs, rfl, .inl t, q0 _ rv_bl⟩
  | any =>
    simp only [biV] at h
    cases e : listOf L x with
    | none => rw [e] at h; cases h
    | some ds =>
      rw [e] at h
      cases e2 : blsOf ds with
      | none => simp only [e2] at h; cases h
      | some bs =>
        simp only [e2] at h
        cases h
        obtain ⟨p, xs, ea, t, r⟩ := listOf_rv S e rv
        subst ea
        have z := blsOf_rv e2 r
        subst z
        exact L2.cr_any hc pins s σ H _ us Q I r1 ⟨p, bs, rfl, .inl t, q0 _ rv_bl⟩
  | sum =>
    simp only [biV] at h
    cases e : listOf L x with
    | none => rw [e] at h; cases h
    | some ds =>
      rw [e] at h
      cases e2 : intsOf ds with
      | none => simp only [e2] at h; cases h
      | some bs =>
        simp only [e2] at h
        cases h
        obtain ⟨p, xs, ea, t, r⟩ := listOf_rv S e rv
        subst ea
        have z := intsOf_rv e2 r
        subst z
        exact L2.cr_sum hc pins s σ H _ us Q I r1 ⟨p, bs, rfl, .inl t, q0 _ rv_int⟩
  | str =>
    cases x <;> simp only [biV] at h <;> try cases h
    rename_i i
    split at h
    · rename_i hz
      cases h
      refine L2.call_str_int pins s σ H _ us Q I r1 ⟨i, by rw [rv_unInt rv], hz.2, ?_⟩
      have e : (Str.ofString (toString i) : Str) = SX.S (TL.numL i.toNat) := by
        have := SX.num_S i.toNat
        rw [Int.toNat_of_nonneg hz.1] at this
        exact this
      have q' := q0 _ (rv_str (asc_num i.toNat))
      rw [← e] at q'
      exact q'
    · cases h
  | int =>
    cases x <;> simp only [biV] at h <;> try cases h
    · exact L2.call_int1 pins s σ H _ us Q I r1 (.inl ⟨_, by rw [rv_unInt rv], q0 _ rv_int⟩)
    · split at h
      · rename_i hz
        split at h
        · rename_i n en
          cases h
          exact L2.call_int_str pins s σ H _ us Q I r1 ⟨_, n, by rw [(rv_unStr rv).1], en, by rw [SX.S_len]; exact hz, q0 _ rv_int⟩
        · cases h
      · cases h

/-! ### methods -/
def meId : Me → String
  | .split => "str.split"
  | .join => "str.join"
  | .index => "str.index"
  | .append => "list.append"
  | .count => "str.count"
  | .startswith => "str.startswith"
  | .endswith => "str.endswith"
theorem asc_spl {S : List Nat} : ∀ (k : Nat) (acc l : List Nat), asc acc → asc l → ∀ y ∈ TL.spl S k acc l, asc y
  | k, acc, [], h, _, y, m => by
    rw [TL.spl_nil] at m
    have : y = acc := by simpa using m
    subst this; exact h
  | 0, acc, c :: r, h, t, y, m => by
    unfold TL.spl at m
    split at m
    · rcases List.mem_cons.mp m with m | m
      · subst m; exact h
      · exact asc_spl (S.length - 1) [] r (fun _ m => by cases m) (fun x q => t x (List.mem_cons_of_mem _ q)) y m
    · exact asc_spl 0 (acc ++ [c]) r (asc_append h fun x q => by
        have : x = c := by simpa using q
        subst this; exact t _ List.mem_cons_self) (fun x q => t x (List.mem_cons_of_mem _ q)) y m
  | k + 1, acc, c :: r, h, t, y, m => by
    unfold TL.spl at m
    exact asc_spl k acc r h (fun x q => t x (List.mem_cons_of_mem _ q)) y m
theorem asc_join {a : List Nat} (h : asc a) : ∀ {ys : List (List Nat)}, (∀ y ∈ ys, asc y) → asc (TL.joinL a ys)
  | [], _ => fun _ m => by cases m
  | [p], t => t p List.mem_cons_self
  | p :: q :: r, t => by
    show asc (p ++ (a ++ TL.joinL a (q :: r)))
    exact asc_append (t p List.mem_cons_self) (asc_append h (asc_join h fun y m => t y (List.mem_cons_of_mem _ m)))
theorem me_sound (hK : X.K = C.K) (I : L2.Inv X pins σ H s) (S : SO C Z ι H L) {m : Me} {o : D} {xs : List D} {d : D} (h : meV L m o xs = some d) {v : L2.V} {vs : List L2.V} {u : Value} {us : List Value} (ro : RV C Z ι H o v) (rx : RVs C Z ι H xs vs) (r0 : L2.RelV v u)
    (r1 : L2.Vals vs us) {Q : L2.VK} (q : ∀ v' H', L2.Same H H' → RV C Z ι H' d v' → Q v' H') : wpAny (model X.prog X.w) X.A (call (.builtin (meId m)) (u :: us)) (L2.EP X pins σ Q) X.xe s := by
  have q0 : ∀ v', RV C Z ι H d v' → Q v' H := fun v' r => q v' H (L2.Same.refl H) r
  unfold meV at h
  split at h
  · rename_i a b
    split at h
    · rename_i hz
      cases h
      obtain ⟨y, w, rfl, r2, r3⟩ := rx.uncons
      have ew : w = [] := by unfold RVs at r3; exact r3
      subst ew
      obtain ⟨e1, a1⟩ := rv_unStr ro
      obtain ⟨e2, a2⟩ := rv_unStr r2
      have hlen : ((SX.S b).length == 0) = false := by
        rw [SX.S_len]
        cases b with
        | nil => exact absurd rfl hz.1
        | cons _ _ => rfl
      refine L2.mt_split pins s σ H _ _ u us Q I r0 r1 ⟨_, _, e1, by rw [e2], hlen, by rw [SX.S_len, ← big_eq]; exact hz.2.2, fun p hp => ?_⟩
      rw [SX.split_S hz.1 hz.2.1]
      refine q _ _ (same_upd hp) ?_
      have es : (((TL.spl b 0 [] a).map SX.S).map L2.V.str) = (TL.spl b 0 [] a).map fun y => L2.V.str (SX.S y) := by rw [List.map_map]; rfl
      rw [es]
      exact rv_lstNew S hp (RVs.map_str (asc_spl 0 [] a (fun _ m => by cases m) a1))
    · cases h
  · rename_i a x
    split at h
    · rename_i ds e
      split at h
      · rename_i ys e2
        split at h
        · rename_i hz
          cases h
          obtain ⟨y, w, rfl, r2, r3⟩ := rx.uncons
          have ew : w = [] := by unfold RVs at r3; exact r3
          subst ew
          obtain ⟨e1, a1⟩ := rv_unStr ro
          obtain ⟨p, xs, ea, t, r⟩ := seqOf_rv S e r2
          subst ea
          obtain ⟨z1, z2⟩ := strsOf_rv e2 r
          subst z1
          refine L2.mt_join pins s σ H _ _ u us Q I r0 r1 ⟨_, p, ys.map SX.S, e1, rfl, hK ▸ t, ?_, ?_⟩
          · rw [SX.lens, List.length_map, SX.S_len, Nat.mul_comm]
            exact hz
          · rw [SX.join_S]
            exact q0 _ (rv_str (asc_join a1 z2))
        · cases h
      · cases h
    · cases h
  · rename_i a b
    split at h
    · rename_i hz
      split at h
      · rename_i p e
        cases h
        obtain ⟨y, w, rfl, r2, r3⟩ := rx.uncons
        have ew : w = [] := by unfold RVs at r3; exact r3
        subst ew
        obtain ⟨e1, a1⟩ := rv_unStr ro
        obtain ⟨e2, a2⟩ := rv_unStr r2
        obtain ⟨pp, pq⟩ := p
        obtain ⟨r, hr⟩ := occ_par hz e
        exact L2.mt_sindex pins s σ H _ _ u us Q I r0 r1 ⟨_, _, _, r, e1, by rw [e2], hr, q0 _ rv_int⟩
      · cases h
    · cases h
  · rename_i a b
    cases h
    obtain ⟨y, w, rfl, r2, r3⟩ := rx.uncons
    have ew : w = [] := by unfold RVs at r3; exact r3
    subst ew
    exact L2.mt_startswith pins s σ H _ _ u us Q I r0 r1 ⟨_, _, (rv_unStr ro).1, by rw [(rv_unStr r2).1], q0 _ rv_bl⟩
  · rename_i a b
    cases h
    obtain ⟨y, w, rfl, r2, r3⟩ := rx.uncons
    have ew : w = [] := by unfold RVs at r3; exact r3
    subst ew
    exact L2.mt_endswith pins s σ H _ _ u us Q I r0 r1 ⟨_, _, (rv_unStr ro).1, by rw [(rv_unStr r2).1], q0 _ rv_bl⟩
  · cases h
end
end EV
end

section
set_option autoImplicit false
/-! What is raised: out of calls, out of a comprehension's block. -/
namespace EV
open PySem PySem.Spec PyProof.Rows L2

/-- an exception in the air, new or come out of a call -/
def XE2 (X : L2.Cx) (W : L2.WX) (u : Value) (s' : Shared) : Prop :=
  ∃ (a : Addr) (B : Heap) (sI : Shared) (pins : List (Addr × Obj)) (σ : L2.St) (H : L2.Hp) (cls : Value) (d : Option Addr),
    u = .ref a ∧ L2.Inv X pins σ H sI ∧ (∀ b o, sI.heap.get? b = some o → b ∉ L2.frs X.stack → B.get? b = some o) ∧ sI.heap.UpToSlots s'.heap ∧
      HandSPX.FlyingZ B X.stack a (L2.Zc cls d) s'.heap ∧ H a = none ∧ s'.os = sI.os ∧ AllBare s'.gens ∧ W cls d σ H
def Takes2 (X : L2.Cx) (W : L2.WX) : Prop := ∀ u s', XE2 X W u s' → X.xe u s'
theorem Takes2.of {X : L2.Cx} {W : L2.WX} (t : L2.Takes X W) : Takes2 X W := fun u s' ⟨a, B, sI, pins, σ, H, cls, d, e, I, nb, up, fl, na, os, ag, w⟩ =>
  t u s' ⟨a, B, sI, pins, σ, H, cls, d, e, I, nb, up, .inr (.inl fl), na, os, ag, w⟩
theorem takes2_none {X : L2.Cx} : Takes2 X fun _ _ _ _ => False := fun _ _ ⟨_, _, _, _, _, _, _, _, _, _, _, _, _, _, _, _, w⟩ => w.elim
section
variable {X : L2.Cx} {pins : List (Addr × Obj)} {σ : L2.St} {H : L2.Hp} {s s' : Shared} {W : L2.WX} {E : L2.XK}
theorem XE2.of_call (I : L2.Inv X pins σ H s) (hW : ∀ cls d H', E cls d H' → W cls d σ H') {u : Value} (c : L2.CX X.prog X.w X.stack H s E u s') : XE2 X W u s' := by
  obtain ⟨a, B, H1, cls, d, rfl, fl, hok, ub, na, eo, ag, hE⟩ := c
  obtain ⟨G, g1, g2⟩ := L2.restrict s'.heap fun b => (B.get? b).isSome || decide (b ∈ L2.frs X.stack)
  have st : B.StaysIn s'.heap := fl.1
  have inB : ∀ b o, B.get? b = some o → G.get? b = some o := fun b o e => by
    rw [g1 b (by simp [e])]; exact st b o e
  have inF : ∀ b, b ∈ L2.frs X.stack → G.get? b = s'.heap.get? b := fun b m => g1 b (by simp [m])
  have back : ∀ b o, G.get? b = some o → s'.heap.get? b = some o ∧ ((B.get? b).isSome = true ∨ b ∈ L2.frs X.stack) := fun b o e => by
    cases q : ((B.get? b).isSome || decide (b ∈ L2.frs X.stack)) with
    | false => rw [g2 b q] at e; cases e
    | true => rw [g1 b q] at e; exact ⟨e, by simpa [Bool.or_eq_true] using q⟩
  have un : L2.Un (L2.frs X.stack) [] H H1 s.heap G :=
    { keep := fun b o e n m _ => inB b o (ub.keep b o e n m)
      slot := fun b o e n m _ => by
        obtain ⟨sl, q⟩ := ub.slot b o e m
        exact ⟨sl, by rw [inF b m]; exact q⟩
      free := fun b o e n _ => ub.free b o e n
      there := fun b o e _ => by
        by_cases m : b ∈ L2.frs X.stack
        · obtain ⟨sl, q⟩ := ub.slot b o e m
          exact ⟨_, by rw [inF b m]; exact q⟩
        · obtain ⟨o', q⟩ := ub.there b o e m
          exact ⟨o', inB b o' q⟩
      tups := ub.tups
      frzs := ub.frzs
      tbls := ub.tbls }
  have J : L2.Inv X pins σ H1 { s with heap := G, gens := s'.gens, drawn := s'.drawn, toks := s'.toks } := I.call un (hok.kept inB) ag (fun _ z => nomatch z)
  refine ⟨a, B, _, pins, σ, H1, cls, d, rfl, J, fun b o e m => ?_, Heap.UpToSlots.of_keeps fun b o e => (back b o e).1, fl, na, eo, ag, hW _ _ _ hE⟩
  obtain ⟨e', h⟩ := back b o e
  rcases h with h | h
  · obtain ⟨o', q⟩ := Option.isSome_iff_exists.mp h
    have z := st b o' q
    rw [e'] at z; cases z
    exact q
  · exact absurd h m
theorem passes_at (tk : Takes2 X W) : ∀ (pins : List (Addr × Obj)) (σ : L2.St) (H : L2.Hp) (s : Shared) (e : Value) (s' : Shared), L2.Inv X pins σ H s → L2.CX X.prog X.w X.stack H s (fun cls d H' => W cls d σ H') e s' → X.xe e s' :=
  fun _ _ _ _ e s' I c => tk e s' (XE2.of_call I (fun _ _ _ h => h) c)
end

/-! ### a comprehension whose block may let an exception out, in a def's own body -/
/-- a block's context with a wish about exceptions -/
abbrev blkX (X : L2.Cx) (s : Shared) (H : L2.Hp) (scope : Scope) (cenv : PySem.Env) (fp : List Addr) (xe : Value → Shared → Prop) : L2.Cx := { X.blk s H scope cenv fp with xe := xe }
theorem inv_blkX {X : L2.Cx} {s₀ : Shared} {H₀ : L2.Hp} {scope : Scope} {cenv : PySem.Env} {fp : List Addr} {xe : Value → Shared → Prop} {pins : List (Addr × Obj)} {σ : L2.St} {H : L2.Hp} {s : Shared}
    (I : L2.Inv (X.blk s₀ H₀ scope cenv fp) pins σ H s) : L2.Inv (blkX X s₀ H₀ scope cenv fp xe) pins σ H s := I.wish xe

section
variable {X : L2.Cx} {W : L2.WX}
/-- [elt for target in iter if ..] with what a turn may raise -/
def tLcX (wi : L2.TI) (g : L2.TG) (tt : L2.WX → L2.TT) (te : L2.WX → L2.TE) (vs : List Nat) (W : L2.WX) : L2.TE := fun σ H Q =>
  L2.tLc wi g (tt fun cls d _ H' => W cls d σ H') (te fun cls d _ H' => W cls d σ H') vs σ H Q
theorem lc_coreX {pins : List (Addr × Obj)} {s : Shared} {σ : L2.St} {H : L2.Hp} {Q : L2.VK} {elt tg iter : Expr} {ifs : List Expr} {scope : Scope} {own : List (Str × Nat)} {pos pos' : Pos} {wi : L2.TI} {g : L2.TG} {tt : L2.WX → L2.TT} {te : L2.WX → L2.TE}
    {use : Option (Value → Sem Unit)} {Qf : Value → Shared → Prop}
    (hs0 : X.stack = X.env :: X.outer) (hf : X.env.frame = some X.env.locals) (tk : L2.Takes X W)
    (hc : X.calm = true) (hN : X.N.Nodup) (I : L2.Inv X pins σ H s) (hi : L2.PI X tg iter wi) (ok : L2.BlkOk X.N X.env.scope scope own)
    (hg : ∀ (s : Shared) (H : L2.Hp) (C : Addr) (cl : List (Str × Addr)) (fp : List Addr) (xe : Value → Shared → Prop), L2.PG (blkX X s H scope (compEnvC scope cl C X.env) fp xe) tg g)
    (ht : ∀ (s : Shared) (H : L2.Hp) (C : Addr) (cl : List (Str × Addr)) (fp : List Addr) (xe : Value → Shared → Prop) (W' : L2.WX), Takes2 (blkX X s H scope (compEnvC scope cl C X.env) fp xe) W' → L2.PTs (blkX X s H scope (compEnvC scope cl C X.env) fp xe) ifs (tt W'))
    (he : ∀ (s : Shared) (H : L2.Hp) (C : Addr) (cl : List (Str × Addr)) (fp : List Addr) (xe : Value → Shared → Prop) (W' : L2.WX), Takes2 (blkX X s H scope (compEnvC scope cl C X.env) fp xe) W' → L2.PE (blkX X s H scope (compEnvC scope cl C X.env) fp xe) elt (te W'))
    (hs : ∀ x, foldedSetIterable iter X.env x = pure x)
    (h : tLcX wi g tt te (own.map (·.2)) W σ H Q)
    (hRR : ∀ D C (ce : PySem.Env) s' m H', ce.locals = C → L2.Inv X pins σ H' s' → Q (.ref D) H' → s'.heap.Ns C m → L2.FpOk X pins H' C → compEnds (model X.prog X.w) X.A X.xe use Qf (.ref D) ce (.ok .next) s') :
    wpAny (model X.prog X.w) X.A (comprehension (.ListComp elt [⟨tg, iter, ifs, 0⟩] scope pos) scope X.env pos' (newList []) false (eval iter X.env) use) Qf X.xe s := by
  have hfree : ∀ y ∈ scope.names, y.2 = .free → ∃ c, X.env.cells.lookup y.1 = some c := fun y hy e => by
    rcases ok.free y hy e with k | k
    · exact I.ok.has _ (.inl k)
    · exact I.ok.has _ (.inr k)
  have hfr : X.A.frames = some (X.env :: X.outer) := by rw [I.ok.frames, hs0]
  refine comprehension_at (use := use) rfl hs (L2.closure_ok hfree) ok.kind (fun y hy e => by rw [ok.uniq y hy, e])
    (L2.thn (hi.run pins s σ H _ I h) fun xv s1 hx => L2.thn hx fun itv s2 h2 => ?_)
  obtain ⟨it, fp, tn, J, H2, e, I2, T, st2, f2, q⟩ := h2
  subst e
  refine wpAny_newObj_type (L2.newEnv_comp ?_) (by show 0 ≤ sizeLine; decide)
  generalize hD : s2.heap.objs.size = D
  have hDn : H2 D = none := I2.hok.fresh (Nat.le_of_eq hD)
  obtain ⟨V, ⟨m0, w0⟩, turn⟩ := q D hDn
  generalize hs3 : ({ s2 with heap := s2.heap.push { cls := .type "list", data := .seq ([] : List Value).toArray } } : Shared) = s3
  have I3 : L2.Inv X pins σ (L2.upd H2 D (.lst [])) s3 := by
    rw [← hs3]
    refine I2.laid (t' := s2.toks) (fun b o e => Heap.get?_push_of_some _ e) (Nat.le_of_eq hD) ⟨Nat.zero_le _, [], 0, .nil, ?_⟩
    rw [← hD]
    exact Heap.get?_push_size _ rfl
  have h3 : s3.heap = s2.heap.push { cls := .type "list", data := .seq ([] : List Value).toArray } := by rw [← hs3]
  have sz : ∀ b ∈ fp, b < s2.heap.objs.size := fun b hb => by
    obtain ⟨o, e, _⟩ := T.obj _ _ st2 b hb
    exact Heap.lt_size e
  have f3 : ∀ b ∈ fp, L2.FpOk X pins (L2.upd H2 D (.lst [])) b ∧ b < s3.heap.objs.size := fun b hb => by
    have hlt := sz b hb
    refine ⟨⟨?_, (f2 b hb).2⟩, by rw [h3, Heap.size_push]; exact Nat.lt_succ_of_lt hlt⟩
    rw [L2.upd_ne (by rw [← hD]; exact Nat.ne_of_lt hlt)]
    exact (f2 b hb).1
  have st3 : tn 0 s3.heap := T.keep _ _ _ st2 fun b _ o e => by rw [h3]; exact Heap.get?_push_of_some _ e
  have I4 := L2.block_start I3 ok hN f3
  have pg := hg s3 (L2.upd H2 D (.lst [])) s3.heap.objs.size (cellsFrom (s3.heap.objs.size + 1) scope.names (L2.cloFrom X.env.cells scope.names [])) fp
  have pt := ht s3 (L2.upd H2 D (.lst [])) s3.heap.objs.size (cellsFrom (s3.heap.objs.size + 1) scope.names (L2.cloFrom X.env.cells scope.names [])) fp
  have pe := he s3 (L2.upd H2 D (.lst [])) s3.heap.objs.size (cellsFrom (s3.heap.objs.size + 1) scope.names (L2.cloFrom X.env.cells scope.names [])) fp
  show codeAny _ _ (.compStart (.ListComp elt [⟨tg, iter, ifs, 0⟩] scope pos) 0 (.ref it) (.ref D) (compEnvC scope (cellsFrom (s3.heap.objs.size + 1) scope.names (L2.cloFrom X.env.cells scope.names [])) s3.heap.objs.size X.env))
    (compEnds (model X.prog X.w) X.A X.xe use Qf (.ref D) (compEnvC scope (cellsFrom (s3.heap.objs.size + 1) scope.names (L2.cloFrom X.env.cells scope.names [])) s3.heap.objs.size X.env)) { s3 with heap := pushCells (s3.heap.push { cls := .type "dict", data := .dict #[] }) scope.names }
  have nfp : ∀ b ∈ fp, (L2.upd H2 D (.lst [])) b = none := fun b hb => (f3 b hb).1.1
  generalize hce : compEnvC scope (cellsFrom (s3.heap.objs.size + 1) scope.names (L2.cloFrom X.env.cells scope.names [])) s3.heap.objs.size X.env = ce at I4 pg pt pe ⊢
  have cL : ce.locals = s3.heap.objs.size := by subst hce; rfl
  have cF : ce.frame = X.env.frame := by subst hce; rfl
  generalize hH3 : L2.upd H2 D (.lst []) = H3 at I3 I4 pg pt pe w0 nfp f3
  generalize hs4 : ({ s3 with heap := pushCells (s3.heap.push { cls := .type "dict", data := .dict #[] }) scope.names } : Shared) = s4 at I4 ⊢
  have st4 : tn 0 s4.heap := T.keep _ _ _ st3 fun b _ o e => by rw [← hs4]; exact pushCells_keeps _ _ _ _ (Heap.get?_push_of_some _ e)
  -- what is wished of an exception of the block
  generalize hW : (fun cls d (_ : L2.St) H' => W cls d σ H' : L2.WX) = W' at pt pe turn
  generalize hxe : (notedBy (model X.prog X.w) X.A ce fun e s' => compEnds (model X.prog X.w) X.A X.xe use Qf (.ref D) ce (.error e) s') = xe
  have tkB : Takes2 (blkX X s3 H3 scope ce fp xe) W' := by
    rintro u s' ⟨a, B, sI, pins', σ', H', cls, d, rfl, J', nb, up, fl, na, os, ag, w⟩
    have Jb : L2.Inv (X.blk s3 H3 scope ce fp) pins' σ' H' sI := J'.unwish
    show xe (.ref a) s'
    rw [← hxe]
    have fl' : HandSPX.FlyingZ B (X.env :: X.outer) a (L2.Zc cls d) s'.heap := by rw [← hs0]; exact fl
    show wpAny _ _ (noteFrame (.ref a) ce) _ _ s'
    rw [noteFrame_env _ cF]
    refine HandSPX.looks_onZ L2.Zc.steady hfr hf fl' fun h1 hh1 up1 => ?_
    -- back in the def's context
    have JX : L2.Inv X pins σ H' sI := I3.call' (ch := fp) Jb.os Jb.base Jb.hok Jb.bare fun b hb => ⟨(f3 b hb).1.2.2.2.1, (f3 b hb).1.2.1, (f3 b hb).1.2.2.2.2.1, (f3 b hb).1.2.2.2.2.2⟩
    obtain ⟨mI, hnI, _⟩ := Jb.loc
    have hnI : sI.heap.Ns ce.locals mI := hnI
    have nC : H' ce.locals = none := Jb.free
    have Cfs : ce.locals ∉ L2.frs X.stack := fun hm => by
      have z := I3.stack
      obtain ⟨_, o, ho, _⟩ := z.mem hm
      rw [cL] at ho
      exact absurd (Heap.lt_size ho) (Nat.lt_irrefl _)
    have CB : B.get? ce.locals = sI.heap.get? ce.locals := by
      obtain ⟨oC, es, ep, hoC, _⟩ := hnI
      rw [hoC]
      exact nb _ _ hoC Cfs
    have ns1 : h1.Ns ce.locals mI := by
      obtain ⟨oC, es, ep, hoC, r⟩ := hnI
      exact ⟨oC, es, ep, hh1.1 _ _ (CB.trans hoC), r⟩
    refine ⟨mI, ns1, fun h2 m2 hn2 sb2 => ?_⟩
    -- the block's own dict apart from the ground
    obtain ⟨G, g1, g2⟩ := L2.restrict B fun b => decide (b ≠ ce.locals)
    have gG : ∀ b, b ≠ ce.locals → G.get? b = B.get? b := fun b hb => g1 b (decide_eq_true hb)
    have gN : G.get? ce.locals = none := g2 _ (by simp)
    have gB : ∀ b o, G.get? b = some o → B.get? b = some o := fun b o e => by
      by_cases hb : b = ce.locals
      · rw [hb, gN] at e; cases e
      · rw [gG b hb] at e; exact e
    obtain ⟨k1, k2, k3, oe, vs, Tr, oT, ts, he1, hz1, hd1, h11, nT, Te, hT, hdT, h33⟩ := hh1
    have ne_a : a ≠ ce.locals := fun z => by
      obtain ⟨oC, es, ep, hoC, hdC, _⟩ := ns1
      rw [z, hoC] at he1; cases he1; rw [hd1] at hdC; cases hdC
    have ne_T : Tr ≠ ce.locals := fun z => by
      obtain ⟨oC, es, ep, hoC, hdC, _⟩ := ns1
      rw [z, hoC] at hT; cases hT; rw [hdT] at hdC; cases hdC
    have kk : ∀ b o, b ≠ ce.locals → h1.get? b = some o → h2.get? b = some o := fun b o hb e => (sb2.2 b hb).trans e
    have G2 : G.StaysIn h2 := fun b o e => by
      by_cases hb : b = ce.locals
      · rw [hb, gN] at e; cases e
      · exact kk b o hb (k1 b o (gB b o e))
    have frsC : ∀ L ∈ L2.frs (X.env :: X.outer), L ≠ ce.locals := fun L m z => Cfs (by rw [hs0]; rw [z] at m; exact m)
    have ff2 : h2.FunFrames G (X.env :: X.outer) := by
      have go : ∀ {l : List PySem.Env}, (∀ L ∈ L2.frs l, L ≠ ce.locals) → h1.FunFrames B l → h2.FunFrames G l := by
        intro l
        induction l with
        | nil => intro _ _; trivial
        | cons env l ih =>
          intro hm hx
          obtain ⟨hk, ⟨L, o, hfL, hnL, hoL, hdL⟩, hr⟩ := hx
          have mL : L ∈ L2.frs (env :: l) := by unfold L2.frs; rw [List.filterMap_cons, hfL]; exact List.mem_cons_self
          have hne := hm L mL
          refine ⟨hk, ⟨L, o, hfL, by rw [gG L hne]; exact hnL, kk L o hne hoL, hdL⟩, ih (fun b hb => hm b ?_) hr⟩
          unfold L2.frs at hb ⊢
          rw [List.filterMap_cons, hfL]
          exact List.mem_cons_of_mem _ hb
      exact go frsC k3
    have nGa : G.get? a = none := by rw [gG a ne_a]; exact k2
    unfold PySem.passOn
    refine wpAny_bind (wpAny_field (kk _ _ ne_a he1) hd1 h11 ?_)
    rw [if_neg (show ¬ ((Value.ref Tr == Value.none) = true) from by simp)]
    have tr2 : HandSPX.TracedZ h2 G a (L2.Zc cls d) (rawInt X.env.locals) :=
      ⟨oe, vs, Tr, oT, ts, kk _ _ ne_a he1, hz1, hd1, h11, by rw [gG Tr ne_T]; exact nT, Te, kk _ _ ne_T hT, hdT, h33⟩
    refine wpAny_bind ?_
    rw [cF, hf]
    refine HandSPX.setFlight_anyZ (s := { s' with heap := h2 }) (base := G) (l := X.env :: X.outer) (Z := L2.Zc cls d) (e := a) G2 ff2 tr2 fun h3' q1 q2 q3 up3 => wpAny_throw ?_
    -- the def's wish: the block's own record is no ground of it
    obtain ⟨GI, r1, r2⟩ := L2.restrict sI.heap fun b => decide (b ≠ ce.locals)
    have gI : ∀ b, b ≠ ce.locals → GI.get? b = sI.heap.get? b := fun b hb => r1 b (decide_eq_true hb)
    have gIn : GI.get? ce.locals = none := r2 _ (by simp)
    have gIs : ∀ b o, GI.get? b = some o → sI.heap.get? b = some o ∧ b ≠ ce.locals := fun b o e => by
      by_cases hb : b = ce.locals
      · rw [hb, gIn] at e; cases e
      · rw [gI b hb] at e; exact ⟨e, hb⟩
    have JG : L2.Inv X pins σ H' { sI with heap := GI } := by
      have un : L2.Un (L2.frs X.stack) fp H3 H' s3.heap GI :=
        { keep := fun b o e n m x => by
            have hb : b ≠ ce.locals := by rw [cL]; exact Nat.ne_of_lt (Heap.lt_size e)
            rw [gI b hb]; exact Jb.base.keep b o e n m x
          slot := fun b o e n m x => by
            have hb : b ≠ ce.locals := by rw [cL]; exact Nat.ne_of_lt (Heap.lt_size e)
            rw [gI b hb]; exact Jb.base.slot b o e n m x
          free := Jb.base.free
          there := fun b o e x => by
            have hb : b ≠ ce.locals := by rw [cL]; exact Nat.ne_of_lt (Heap.lt_size e)
            rw [gI b hb]; exact Jb.base.there b o e x
          tups := Jb.base.tups
          frzs := Jb.base.frzs
          tbls := Jb.base.tbls }
      refine I3.call' (s' := { sI with heap := GI }) (ch := fp) Jb.os un (fun b o e => ?_) Jb.bare fun b hb => ⟨(f3 b hb).1.2.2.2.1, (f3 b hb).1.2.1, (f3 b hb).1.2.2.2.2.1, (f3 b hb).1.2.2.2.2.2⟩
      refine (Jb.hok b o e).stay (fun c v hc q => ?_) (fun _ z => z) fun _ _ z => z
      have hcn : c ≠ ce.locals := fun z => by
        rcases hc with hc | hc
        · rw [← hc, z, nC] at e; cases e
        · rw [z, nC] at hc; cases hc
      rw [gI c hcn]; exact q
    refine tk _ _ ⟨a, G, { sI with heap := GI }, pins, σ, H', cls, d, rfl, JG, fun b o e m => ?_, fun b o e hnf => ?_, .inr (.inr (by rw [hs0]; exact ⟨q1, nGa, q2, q3⟩)), na, os, ag, ?_⟩
    · obtain ⟨e1, hb⟩ := gIs b o e
      rw [gG b hb]
      exact nb b o e1 m
    · obtain ⟨e1, hb⟩ := gIs b o e
      obtain ⟨sl, e2⟩ := up b o e1 hnf
      obtain ⟨sl2, e3⟩ := up1 b _ e2 hnf
      obtain ⟨sl3, e4⟩ := up3 b _ (kk b _ hb e3) hnf
      exact ⟨sl3, e4⟩
    · rw [← hW] at w
      exact w
  have I4' : L2.Inv (blkX X s3 H3 scope ce fp xe) [] (L2.wipe σ (own.map (·.2))) H3 s4 := inv_blkX I4
  have stat : ∀ {σ' : L2.St} {H' : L2.Hp} {s' : Shared}, L2.Inv (blkX X s3 H3 scope ce fp xe) [] σ' H' s' → (∀ b ∈ fp, H' b = none) → ∀ b ∈ fp, L2.FpOk (blkX X s3 H3 scope ce fp xe) [] H' b := fun {σ' H' s'} I' hn b hb =>
    ⟨hn b hb, (I'.ok.exf b hb).1, I'.ok.exfs b hb, .inl hb, fun x c e => (I'.ok.exf b hb).2 x c e, fun p hp => absurd (show p ∈ ([] : List (Addr × Obj)) ++ [] from hp) (by simp)⟩
  have loop : codeAny (model X.prog X.w) X.A (.compLoop (.ListComp elt [⟨tg, iter, ifs, 0⟩] scope pos) 0 (.ref it) (.ref D) ce) (compEnds (model X.prog X.w) X.A X.xe use Qf (.ref D) ce) s4 := by
    refine L2.compLoop_any (fun n s' => ∃ i H', L2.Inv (blkX X s3 H3 scope ce fp xe) [] (L2.wipe σ (own.map (·.2))) H' s' ∧ tn i s'.heap ∧ (∀ b ∈ fp, H' b = none) ∧ V i n H') ?_ m0 ⟨0, H3, I4', st4, nfp, w0⟩
    rintro n s5 ⟨i, H5, I5, st5, n5, w5⟩
    rw [hxe]
    rcases turn i n H5 w5 with ⟨stop, qq⟩ | ⟨go, Nx, hNx, step⟩
    · refine L2.thn (T.done (blkX X s3 H3 scope ce fp xe) rfl rfl rfl hc i [] s5 _ H5 xe I5 (stat I5 n5) st5 stop) fun r s6 ⟨hr, I6⟩ => ?_
      subst hr
      have I6b : L2.Inv (X.blk s3 H3 scope ce fp) [] (L2.wipe σ (own.map (·.2))) H5 s6 := I6.unwish
      have I7 : L2.Inv X pins σ H5 s6 := I3.call' (ch := fp) I6b.os I6b.base I6b.hok I6b.bare fun b hb => ⟨(f3 b hb).1.2.2.2.1, (f3 b hb).1.2.1, (f3 b hb).1.2.2.2.2.1, (f3 b hb).1.2.2.2.2.2⟩
      have nC : H5 s3.heap.objs.size = none := by
        have z : H5 ce.locals = none := I6b.free
        rw [cL] at z
        exact z
      obtain ⟨m, hn, _⟩ := I6b.loc
      have hn : s6.heap.Ns ce.locals m := hn
      rw [cL] at hn
      exact hRR D s3.heap.objs.size ce s6 m H5 cL I7 qq hn (I3.fpOk (Nat.le_refl _) nC)
    · refine L2.thn (T.item (blkX X s3 H3 scope ce fp xe) rfl rfl rfl hc i [] s5 _ H5 xe I5 (stat I5 n5) st5 go) fun r s6 ⟨u, hr, h6⟩ => ?_
      subst hr
      refine L2.thn h6 fun _ s7 ⟨x, H7, I7, r7, y7, st7, n7⟩ => ?_
      have I7' := I7.pinned (stat I7 n7) (T.obj _ _ st7)
      refine L2.thn ((pg xe).run _ s7 _ H7 x u _ I7' r7 (step x H7 y7)) fun _ s8 ⟨σ8, H8, I8, hw8, q8⟩ => ?_
      refine L2.thn ((pt xe W' tkB).run _ s8 σ8 H8 _ I8 q8) fun b s9 ⟨H9, I9, q9⟩ => ?_
      have fin : ∀ {s' : Shared} {H' : L2.Hp}, L2.Inv (blkX X s3 H3 scope ce fp xe) ([] ++ L2.pinsAt fp s7.heap) σ8 H' s' → Nx H' → ∃ m, m < n ∧ ∃ i H', L2.Inv (blkX X s3 H3 scope ce fp xe) [] (L2.wipe σ (own.map (·.2))) H' s' ∧ tn i s'.heap ∧ (∀ b ∈ fp, H' b = none) ∧ V i m H' := fun {s' H'} I' nx => by
        obtain ⟨m', hm, w'⟩ := hNx H' nx
        have pin' : ∀ b ∈ fp, ∀ o, s7.heap.get? b = some o → s'.heap.get? b = some o ∧ H' b = none := fun b hb o e =>
          let z := I'.pin (b, o) (List.mem_append_right _ (List.mem_append_right _ (L2.mem_pinsAt hb e)))
          ⟨z.1, z.2.1⟩
        have hl : (L2.wipe σ (own.map (·.2))).length = σ8.length := by rw [← hw8, L2.wipe_length]
        refine ⟨m', hm, i + 1, H', (I'.unpinned (pins := [])).weak hl (fun j v e => ?_), T.keep _ _ _ st7 fun b hb o e => (pin' b hb o e).1, fun b hb => ?_, w'⟩
        · rw [← hw8] at e
          exact (L2.wipe_some e).1
        · obtain ⟨o, e, _⟩ := T.obj _ _ st7 b hb
          exact (pin' b hb o e).2
      cases b with
      | false =>
        simp only [Bool.false_eq_true, if_false] at q9 ⊢
        exact fin I9 q9
      | true =>
        simp only [if_true] at q9 ⊢
        refine L2.thn ((pe xe W' tkB).run _ s9 σ8 H9 _ I9 q9) fun z s10 ⟨yv, H10, I10, r10, acc, hD10, hz10, nx⟩ => ?_
        exact L2.app_ok (X := blkX X s3 H3 scope ce fp xe) I10 hD10 hz10 r10 fun s11 I11 => fin I11 nx
  exact codeAny_compStart_list loop (T.self X.A 0 _ _ _ st4 loop)
end
end EV
end

section
set_option autoImplicit false
/-! The evaluator as readings of the hand layer; the constructs, one by one. -/
namespace EV
open PySem

section
variable (C : Cfg) (Z : Addr → Prop) (W : L2.WX) (σ : L2.St)
/-- behind what the evaluator says: P where it goes on, the wish W where it raises -/
def Aft {α : Type} (ι : List Addr) (H : L2.Hp) (r : R α) (P : α → Store → List Addr → L2.Hp → Prop) : Prop := match r with
  | .ok a L' => ∀ ι' H', Ex ι H ι' H' → SO C Z ι' H' L' → P a L' ι' H'
  | .exc c d L' => ∀ v ι' H' dx, Ex ι H ι' H' → SO C Z ι' H' L' → RV C Z ι' H' d v → H' dx = some (.xd [(C.fld c, v)]) → W (.ref (C.cls c)) (some dx) σ H'
  | .bad => False
end
section
variable {C : Cfg} {Z : Addr → Prop} {W : L2.WX} {σ : L2.St} {ι ι' : List Addr} {H H' : L2.Hp}
theorem Aft.ext {α : Type} {r : R α} {P : α → Store → List Addr → L2.Hp → Prop} (h : Aft C Z W σ ι H r P) (x : Ex ι H ι' H') : Aft C Z W σ ι' H' r P := by
  cases r with
  | ok a L => exact fun ι2 H2 y s => h ι2 H2 (x.trans y) s
  | exc c d L => exact fun v ι2 H2 dx y s rv e => h v ι2 H2 dx (x.trans y) s rv e
  | bad => exact h
theorem Aft.bind {α β : Type} {r : R α} {f : α → M β} {P : β → Store → List Addr → L2.Hp → Prop} (h : Aft C Z W σ ι H (r.bind f) P) :
    Aft C Z W σ ι H r fun a L1 ι1 H1 => Aft C Z W σ ι1 H1 (f a L1) P := by
  cases r with
  | ok a L => exact fun ι1 H1 x s => h.ext x
  | exc c d L => exact h
  | bad => exact h
theorem Aft.mono {α : Type} {r : R α} {P P' : α → Store → List Addr → L2.Hp → Prop} (h : Aft C Z W σ ι H r P) (f : ∀ a L1 ι1 H1, Ex ι H ι1 H1 → SO C Z ι1 H1 L1 → P a L1 ι1 H1 → P' a L1 ι1 H1) : Aft C Z W σ ι H r P' := by
  cases r with
  | ok a L => exact fun ι1 H1 x s => f _ _ _ _ x s (h ι1 H1 x s)
  | exc c d L => exact h
  | bad => exact h
theorem Aft.look {α : Type} {f : Store → Option α} {L : Store} {P : α → Store → List Addr → L2.Hp → Prop} (h : Aft C Z W σ ι H (look f L) P) (S : SO C Z ι H L) : ∃ a, f L = some a ∧ P a L ι H := by
  unfold EV.look at h
  cases e : f L with
  | none => rw [e] at h; exact False.elim h
  | some a => rw [e] at h; exact ⟨a, rfl, h ι H .refl S⟩
theorem Aft.ok {α : Type} {a : α} {L : Store} {P : α → Store → List Addr → L2.Hp → Prop} (h : Aft C Z W σ ι H (.ok a L) P) (S : SO C Z ι H L) : P a L ι H := h ι H .refl S
end

/-- a reading by the evaluator: rel says how the evaluator's value stands for the layer's -/
def rG {α β : Type} (C : Cfg) (W : L2.WX) (m : Env → M α) (rel : (Addr → Prop) → List Addr → L2.Hp → α → β → Prop) : L2.St → L2.Hp → (β → L2.Hp → Prop) → Prop := fun σ H Q =>
  ∃ Z ι L ρ, SO C Z ι H L ∧ ER C Z ι H ρ σ ∧ Aft C Z W σ ι H (m ρ L) fun a L' ι' H' => ∀ b, rel Z ι' H' a b → Q b H'
/-- an expression's -/
def rE (C : Cfg) (W : L2.WX) (m : Env → M D) : L2.TE := rG C W m (fun Z ι H d v => RV C Z ι H d v)
/-- an argument list's -/
def rA (C : Cfg) (W : L2.WX) (m : Env → M (List D)) : L2.TA := rG C W m (fun Z ι H ds vs => RVs C Z ι H ds vs)
def boolM (m : Env → M D) : Env → M Bool := fun ρ L => (m ρ L).bind fun d L1 => match d with
  | .bl b => .ok b L1
  | _ => .bad
/-- a test's -/
def rT (C : Cfg) (W : L2.WX) (m : Env → M D) : L2.TT := rG C W (boolM m) (fun _ _ _ b c => b = c)
/-- a slice's part -/
def rO (C : Cfg) (W : L2.WX) (m : Env → M (Option Int)) : L2.TO := rG C W m (fun _ _ _ o p => o = p)

/-- a new address as one that must not be met -/
def zAdd (Z : Addr → Prop) (p : Addr) : Addr → Prop := fun a => Z a ∨ a = p
section
variable {C : Cfg} {Z Z' : Addr → Prop} {ι : List Addr} {H : L2.Hp} {L : Store}
mutual
theorem RV.weak (h : ∀ a, Z a → Z' a) : ∀ (d : D) (v : L2.V), RV C Z' ι H d v → RV C Z ι H d v
  | .non, _, r => by simpa [RV] using r
  | .bl _, _, r => by simpa [RV] using r
  | .int _, _, r => by simpa [RV] using r
  | .str _, _, r => by simpa [RV] using r
  | .fn _, _, r => by simpa [RV] using r
  | .obj _, _, r => by simpa [RV] using r
  | .tup ds, v, r => by
    unfold RV at r ⊢
    obtain ⟨a, xs, e, t, n, q⟩ := r
    exact ⟨a, xs, e, t, n, RVs.weak h ds xs q⟩
  | .ktup ds, v, r => by
    unfold RV at r ⊢
    obtain ⟨a, xs, e, t, q⟩ := r
    exact ⟨a, xs, e, t, RVs.weak h ds xs q⟩
  | .lst ds, v, r => by
    unfold RV at r ⊢
    obtain ⟨a, xs, e, t, z, n, q⟩ := r
    exact ⟨a, xs, e, t, fun y => z (h a y), n, RVs.weak h ds xs q⟩
  | .exn c d, v, r => by
    unfold RV at r ⊢
    obtain ⟨a, dx, y, e, q, hd, n, r⟩ := r
    exact ⟨a, dx, y, e, q, hd, n, RV.weak h d y r⟩
theorem RVs.weak (h : ∀ a, Z a → Z' a) : ∀ (ds : List D) (vs : List L2.V), RVs C Z' ι H ds vs → RVs C Z ι H ds vs
  | [], _, r => by simpa [RVs] using r
  | d :: ds, vs, r => by
    obtain ⟨v, w, rfl, r1, r2⟩ := r.uncons
    exact .cons (RV.weak h d v r1) (RVs.weak h ds w r2)
end
mutual
theorem RV.add {p : Addr} (hp : H p = none) : ∀ (d : D) (v : L2.V), RV C Z ι H d v → RV C (zAdd Z p) ι H d v
  | .non, _, r => by simpa [RV] using r
  | .bl _, _, r => by simpa [RV] using r
  | .int _, _, r => by simpa [RV] using r
  | .str _, _, r => by simpa [RV] using r
  | .fn _, _, r => by simpa [RV] using r
  | .obj _, _, r => by simpa [RV] using r
  | .tup ds, v, r => by
    unfold RV at r ⊢
    obtain ⟨a, xs, e, t, n, q⟩ := r
    exact ⟨a, xs, e, t, n, RVs.add hp ds xs q⟩
  | .ktup ds, v, r => by
    unfold RV at r ⊢
    obtain ⟨a, xs, e, t, q⟩ := r
    exact ⟨a, xs, e, t, RVs.add hp ds xs q⟩
  | .lst ds, v, r => by
    unfold RV at r ⊢
    obtain ⟨a, xs, e, t, z, n, q⟩ := r
    refine ⟨a, xs, e, t, fun y => ?_, n, RVs.add hp ds xs q⟩
    rcases y with y | y
    · exact z y
    · rcases t with t | ⟨o, t⟩ <;> (rw [y, hp] at t; cases t)
  | .exn c d, v, r => by
    unfold RV at r ⊢
    obtain ⟨a, dx, y, e, q, hd, n, r⟩ := r
    exact ⟨a, dx, y, e, q, hd, n, RV.add hp d y r⟩
theorem RVs.add {p : Addr} (hp : H p = none) : ∀ (ds : List D) (vs : List L2.V), RVs C Z ι H ds vs → RVs C (zAdd Z p) ι H ds vs
  | [], _, r => by simpa [RVs] using r
  | d :: ds, vs, r => by
    obtain ⟨v, w, rfl, r1, r2⟩ := r.uncons
    exact .cons (RV.add hp d v r1) (RVs.add hp ds w r2)
end
mutual
/-- the address that must not be met becomes an object's -/
theorem RV.adopt {p : Addr} (hp : ∀ xs, H p ≠ some (.tup xs)) (hx : ∀ fs, H p ≠ some (.xd fs)) : ∀ (d : D) (v : L2.V), RV C (zAdd Z p) ι H d v → RV C Z (ι ++ [p]) H d v
  | .non, _, r => by simpa [RV] using r
  | .bl _, _, r => by simpa [RV] using r
  | .int _, _, r => by simpa [RV] using r
  | .str _, _, r => by simpa [RV] using r
  | .fn _, _, r => by simpa [RV] using r
  | .obj k, v, r => by
    unfold RV at r ⊢
    obtain ⟨a, e, q⟩ := r
    exact ⟨a, by rw [List.getElem?_append_left (List.getElem?_eq_some_iff.mp e).1]; exact e, q⟩
  | .tup ds, v, r => by
    unfold RV at r ⊢
    obtain ⟨a, xs, e, t, n, q⟩ := r
    refine ⟨a, xs, e, t, fun m => ?_, RVs.adopt hp hx ds xs q⟩
    rcases List.mem_append.mp m with m | m
    · exact n m
    · have : a = p := by simpa using m
      exact hp xs (this ▸ t)
  | .ktup ds, v, r => by
    unfold RV at r ⊢
    obtain ⟨a, xs, e, t, q⟩ := r
    exact ⟨a, xs, e, t, RVs.adopt hp hx ds xs q⟩
  | .lst ds, v, r => by
    unfold RV at r ⊢
    obtain ⟨a, xs, e, t, z, n, q⟩ := r
    refine ⟨a, xs, e, t, fun y => z (.inl y), fun m => ?_, RVs.adopt hp hx ds xs q⟩
    rcases List.mem_append.mp m with m | m
    · exact n m
    · exact z (.inr (by simpa using m))
  | .exn c d, v, r => by
    unfold RV at r ⊢
    obtain ⟨a, dx, y, e, q, hd, n, r⟩ := r
    refine ⟨a, dx, y, e, q, hd, fun m => ?_, RV.adopt hp hx d y r⟩
    rcases List.mem_append.mp m with m | m
    · exact n m
    · have : dx = p := by simpa using m
      exact hx _ (this ▸ hd)
theorem RVs.adopt {p : Addr} (hp : ∀ xs, H p ≠ some (.tup xs)) (hx : ∀ fs, H p ≠ some (.xd fs)) : ∀ (ds : List D) (vs : List L2.V), RVs C (zAdd Z p) ι H ds vs → RVs C Z (ι ++ [p]) H ds vs
  | [], _, r => by simpa [RVs] using r
  | d :: ds, vs, r => by
    obtain ⟨v, w, rfl, r1, r2⟩ := r.uncons
    exact .cons (RV.adopt hp hx d v r1) (RVs.adopt hp hx ds w r2)
end
theorem KR.weak {κ : Type} (h : ∀ a, Z a → Z' a) : ∀ {kvs : List (κ × D)} {kv : List (κ × L2.V)}, KR C Z' ι H kvs kv → KR C Z ι H kvs kv
  | [], _, r => r
  | p :: r, kv, x => by
    obtain ⟨q, s, e, k, h1, h2⟩ := x
    exact ⟨q, s, e, k, RV.weak h _ _ h1, KR.weak h h2⟩
theorem KR.add {κ : Type} {p : Addr} (hp : H p = none) : ∀ {kvs : List (κ × D)} {kv : List (κ × L2.V)}, KR C Z ι H kvs kv → KR C (zAdd Z p) ι H kvs kv
  | [], _, r => r
  | q :: r, kv, x => by
    obtain ⟨q, s, e, k, h1, h2⟩ := x
    exact ⟨q, s, e, k, RV.add hp _ _ h1, KR.add hp h2⟩
theorem KR.adopt {κ : Type} {p : Addr} (hp : ∀ xs, H p ≠ some (.tup xs)) (hx : ∀ fs, H p ≠ some (.xd fs)) : ∀ {kvs : List (κ × D)} {kv : List (κ × L2.V)}, KR C (zAdd Z p) ι H kvs kv → KR C Z (ι ++ [p]) H kvs kv
  | [], _, r => r
  | q :: r, kv, x => by
    obtain ⟨q, s, e, k, h1, h2⟩ := x
    exact ⟨q, s, e, k, RV.adopt hp hx _ _ h1, KR.adopt hp hx h2⟩
theorem SO.weak (h : ∀ a, Z a → Z' a) (s : SO C Z' ι H L) : SO C Z ι H L :=
  ⟨s.len, s.nd, fun k o e => by
    obtain ⟨a, q, r⟩ := s.obj k o e
    refine ⟨a, q, ?_⟩
    cases o with
    | lst ds => obtain ⟨xs, q1, q2⟩ := r; exact ⟨xs, q1, RVs.weak h _ _ q2⟩
    | dK ds => obtain ⟨xs, q1, q2⟩ := r; exact ⟨xs, q1, KR.weak h q2⟩
    | dT ds => obtain ⟨xs, q1, q2⟩ := r; exact ⟨xs, q1, KR.weak h q2⟩, fun a z => s.zh a (h a z)⟩
/-- in the heap with the new thing laid at p -/
theorem SO.add {p : Addr} {u : L2.HO} (hp : H p = none) (s : SO C Z ι H L) : SO C (zAdd Z p) ι (L2.upd H p u) L := by
  have x := ex_upd (ι := ι) (o := u) hp
  refine ⟨s.len, s.nd, fun k o e => ?_, fun a z => ?_⟩
  · obtain ⟨a, q, r⟩ := s.obj k o e
    have up : ∀ {w : L2.HO}, H a = some w → L2.upd H p u a = some w := fun {w} z => by rw [L2.upd_ne (L2.ne_of_none z hp)]; exact z
    refine ⟨a, q, ?_⟩
    cases o with
    | lst ds => obtain ⟨xs, q1, q2⟩ := r; exact ⟨xs, up q1, RVs.mono x _ _ (RVs.add hp _ _ q2)⟩
    | dK ds => obtain ⟨xs, q1, q2⟩ := r; exact ⟨xs, up q1, KR.mono x (KR.add hp q2)⟩
    | dT ds => obtain ⟨xs, q1, q2⟩ := r; exact ⟨xs, up q1, KR.mono x (KR.add hp q2)⟩
  · rcases z with z | z
    · intro q
      by_cases e : a = p
      · rw [e] at z; exact s.zh p z hp
      · rw [L2.upd_ne e] at q; exact s.zh a z q
    · rw [z, L2.upd_same]; intro q; cases q
/-- the new thing becomes an object -/
theorem SO.adopt {p : Addr} {xs : List L2.V} {ds : List D} (s : SO C (zAdd Z p) ι H L) (hp : H p = some (.lst xs)) (hn : p ∉ ι) (r : RVs C (zAdd Z p) ι H ds xs) : SO C Z (ι ++ [p]) H (L ++ [.lst ds]) := by
  have ht : ∀ xs, H p ≠ some (.tup xs) := fun ys q => by rw [hp] at q; cases q
  have hx : ∀ fs, H p ≠ some (.xd fs) := fun ys q => by rw [hp] at q; cases q
  refine ⟨by simp [s.len], ?_, fun k o e => ?_, fun a z => s.zh a (.inl z)⟩
  · rw [List.nodup_append]
    refine ⟨s.nd, by simp, fun a ha b hb e => ?_⟩
    have : b = p := by simpa using hb
    rw [this] at e
    exact hn (e ▸ ha)
  · by_cases hk : k < L.length
    · rw [List.getElem?_append_left hk] at e
      obtain ⟨a, q, r'⟩ := s.obj k o e
      refine ⟨a, by rw [List.getElem?_append_left (by rw [s.len]; exact hk)]; exact q, ?_⟩
      cases o with
      | lst ds => obtain ⟨xs, q1, q2⟩ := r'; exact ⟨xs, q1, RVs.adopt ht hx _ _ q2⟩
      | dK ds => obtain ⟨xs, q1, q2⟩ := r'; exact ⟨xs, q1, KR.adopt ht hx q2⟩
      | dT ds => obtain ⟨xs, q1, q2⟩ := r'; exact ⟨xs, q1, KR.adopt ht hx q2⟩
    · rw [List.getElem?_append_right (by omega)] at e
      have hk' : k = L.length := by
        have := (List.getElem?_eq_some_iff.mp e).1
        simp at this; omega
      subst hk'
      simp at e
      subst e
      exact ⟨p, by rw [List.getElem?_append_right (by rw [s.len]; exact Nat.le_refl _)]; simp [s.len], xs, hp, RVs.adopt ht hx _ _ r⟩
theorem zle {p : Addr} : ∀ a, Z a → zAdd Z p a := fun _ z => .inl z
theorem Ex.fresh {ι' : List Addr} {H' : L2.Hp} (x : Ex ι H ι' H') (S : SO C Z ι' H' L) {p : Addr} (h : H' p = none) : H p = none := by
  cases q : H p with
  | none => rfl
  | some o =>
    by_cases m : p ∈ ι
    · obtain ⟨k, hk, e⟩ := List.getElem_of_mem m
      have z := x.pre k p (by rw [List.getElem?_eq_getElem hk, e])
      obtain ⟨u, w⟩ := S.there (List.mem_of_getElem? z)
      rw [h] at w; cases w
    · rw [x.old p o q m] at h; cases h
end

/-- a fresh list's reading: it stands at p, new, and nothing else speaks of it -/
def rF (C : Cfg) (W : L2.WX) (m : Env → M (List D)) : L2.TE := fun σ H Q => ∃ Z ι L ρ, SO C Z ι H L ∧ ER C Z ι H ρ σ ∧ match m ρ L with
  | .ok ds L' => ∀ p xs ι' H', Ex ι H ι' H' → H p = none → SO C (zAdd Z p) ι' H' L' → H' p = some (.lst xs) → p ∉ ι' → RVs C (zAdd Z p) ι' H' ds xs → Q (.ref p) H'
  | .exc c d L' => ∀ v ι' H' dx, Ex ι H ι' H' → SO C Z ι' H' L' → RV C Z ι' H' d v → H' dx = some (.xd [(C.fld c, v)]) → W (.ref (C.cls c)) (some dx) σ H'
  | .bad => False
end EV
end

section
set_option autoImplicit false
/-! calls: what the caller knows behind a callee that ran in a store of its own, or in the caller's -/
namespace EV
open PySem

section
variable {C : Cfg} {Z Z' : Addr → Prop} {ι ι1 : List Addr} {H H1 : L2.Hp} {L L1 : Store}
def isOb : L2.HO → Bool
  | .lst _ => true
  | .dK _ => true
  | .dT _ => true
  | _ => false
theorem OR.kind {o : O} {a : Addr} (h : OR C Z ι H o a) : ∃ u, H a = some u ∧ isOb u = true := by
  cases o with
  | lst ds => obtain ⟨xs, q, r⟩ := h; exact ⟨_, q, rfl⟩
  | dK kvs => obtain ⟨xs, q, r⟩ := h; exact ⟨_, q, rfl⟩
  | dT kvs => obtain ⟨xs, q, r⟩ := h; exact ⟨_, q, rfl⟩
theorem SO.kind (s : SO C Z ι H L) {a : Addr} (h : a ∈ ι) : ∃ u, H a = some u ∧ isOb u = true := by
  obtain ⟨k, hk, e⟩ := List.getElem_of_mem h
  have hkL : k < L.length := by rw [← s.len]; exact hk
  obtain ⟨b, q, r⟩ := s.obj k L[k] (List.getElem?_eq_getElem hkL)
  rw [List.getElem?_eq_getElem hk, e] at q
  cases q
  exact r.kind
theorem SO.notup (s : SO C Z ι H L) {a : Addr} {xs : List L2.V} (h : H a = some (.tup xs)) : a ∉ ι := fun m => by
  obtain ⟨u, e, k⟩ := s.kind m
  rw [h] at e; cases e; cases k
mutual
/-- data without objects, under other objects and addresses that must not be met -/
theorem RV.move (hz : ∀ a, ¬ Z a → a ∉ ι → ¬ Z' a ∧ a ∉ ι1) (ht : ∀ a xs, H a = some (.tup xs) → a ∉ ι1) : ∀ (d : D) (v : L2.V), d.pure = true → RV C Z ι H d v → RV C Z' ι1 H d v
  | .non, _, _, r => by simpa [RV] using r
  | .bl _, _, _, r => by simpa [RV] using r
  | .int _, _, _, r => by simpa [RV] using r
  | .str _, _, _, r => by simpa [RV] using r
  | .fn _, _, _, r => by simpa [RV] using r
  | .obj _, _, p, r => by simp [D.pure] at p
  | .exn _ _, _, p, r => by simp [D.pure] at p
  | .tup ds, v, p, r => by
    unfold RV at r ⊢
    obtain ⟨a, xs, e, t, n, q⟩ := r
    exact ⟨a, xs, e, t, ht a xs t, RVs.move hz ht ds xs (by simpa [D.pure] using p) q⟩
  | .ktup ds, v, p, r => by
    unfold RV at r ⊢
    obtain ⟨a, xs, e, t, q⟩ := r
    exact ⟨a, xs, e, t, RVs.move hz ht ds xs (by simpa [D.pure] using p) q⟩
  | .lst ds, v, p, r => by
    unfold RV at r ⊢
    obtain ⟨a, xs, e, t, z, n, q⟩ := r
    obtain ⟨z1, n1⟩ := hz a z n
    exact ⟨a, xs, e, t, z1, n1, RVs.move hz ht ds xs (by simpa [D.pure] using p) q⟩
theorem RVs.move (hz : ∀ a, ¬ Z a → a ∉ ι → ¬ Z' a ∧ a ∉ ι1) (ht : ∀ a xs, H a = some (.tup xs) → a ∉ ι1) : ∀ (ds : List D) (vs : List L2.V), purAll ds = true → RVs C Z ι H ds vs → RVs C Z' ι1 H ds vs
  | [], _, _, r => by simpa [RVs] using r
  | d :: ds, vs, p, r => by
    obtain ⟨v, w, rfl, r1, r2⟩ := r.uncons
    have p' : d.pure = true ∧ purAll ds = true := by simpa [purAll] using p
    exact .cons (RV.move hz ht d v p'.1 r1) (RVs.move hz ht ds w p'.2 r2)
end
theorem KR.move {κ : Type} (hz : ∀ a, ¬ Z a → a ∉ ι → ¬ Z' a ∧ a ∉ ι1) (ht : ∀ a xs, H a = some (.tup xs) → a ∉ ι1) : ∀ {kvs : List (κ × D)} {kv : List (κ × L2.V)}, purAll (kvs.map (·.2)) = true → KR C Z ι H kvs kv → KR C Z' ι1 H kvs kv
  | [], _, _, r => r
  | q :: r, kv, p, x => by
    obtain ⟨q2, s, e, k, h1, h2⟩ := x
    have p' : q.2.pure = true ∧ purAll (r.map (·.2)) = true := by simpa [purAll] using p
    exact ⟨q2, s, e, k, RV.move hz ht _ _ p'.1 h1, KR.move hz ht p'.2 h2⟩
theorem OR.move (hz : ∀ a, ¬ Z a → a ∉ ι → ¬ Z' a ∧ a ∉ ι1) (ht : ∀ a xs, H a = some (.tup xs) → a ∉ ι1) {o : O} {a : Addr} (p : o.pure = true) (h : OR C Z ι H o a) : OR C Z' ι1 H o a := by
  cases o with
  | lst ds => obtain ⟨xs, q, r⟩ := h; exact ⟨xs, q, RVs.move hz ht _ _ p r⟩
  | dK kvs => obtain ⟨xs, q, r⟩ := h; exact ⟨xs, q, KR.move hz ht p r⟩
  | dT kvs => obtain ⟨xs, q, r⟩ := h; exact ⟨xs, q, KR.move hz ht p r⟩
/-- for a callee in a store of its own all our objects are such as must not be met -/
def zOf (Z : Addr → Prop) (ι : List Addr) : Addr → Prop := fun a => Z a ∨ a ∈ ι
theorem SO.alone (s : SO C Z ι H L) : SO C (zOf Z ι) [] H [] :=
  ⟨rfl, by simp, fun k o e => by simp at e, fun a z => by
    rcases z with z | z
    · exact s.zh a z
    · obtain ⟨u, e⟩ := s.there z
      rw [e]; intro q; cases q⟩
theorem RVs.alone {ds : List D} {vs : List L2.V} (p : purAll ds = true) (r : RVs C Z ι H ds vs) : RVs C (zOf Z ι) [] H ds vs :=
  RVs.move (fun a z n => ⟨fun q => q.elim z n, by simp⟩) (fun a xs _ => by simp) ds vs p r
/-- behind such a callee -/
theorem back_alone (s : SO C Z ι H L) (x : Ex [] H ι1 H1) : L2.Same H H1 ∧ SO C Z ι H1 L ∧ Ex ι H ι H1 := by
  have sm : L2.Same H H1 := fun a o e => x.old a o e (by simp)
  exact ⟨sm, s.same sm, ex_same sm⟩
theorem RV.back (s : SO C Z ι H1 L) {d : D} {v : L2.V} (p : d.pure = true) (r : RV C (zOf Z ι) ι1 H1 d v) : RV C Z ι H1 d v :=
  RV.move (fun a z _ => ⟨fun q => z (.inl q), fun q => z (.inr q)⟩) (fun a xs h => s.notup h) d v p r
theorem new_alone (s : SO C Z ι H L) (x : Ex [] H ι1 H1) {a : Addr} (m : a ∈ ι1) : H a = none ∧ ¬ Z a ∧ a ∉ ι := by
  have h : H a = none := by
    rcases x.new a m with z | z
    · simp at z
    · exact z
  exact ⟨h, s.notz h, s.fresh h⟩
theorem frozen_alone (s : SO C Z ι H L) (x : Ex [] H ι1 H1) (s1 : SO C (zOf Z ι) ι1 H1 L1) {d d' : D} {v : L2.V} (f : frozen 0 d L1 = some d') (r : RV C (zOf Z ι) ι1 H1 d v) : RV C Z ι H1 d' v := by
  obtain ⟨sm, s', _⟩ := back_alone s x
  by_cases hk : ∃ k, d = .obj k
  · obtain ⟨k, rfl⟩ := hk
    simp only [frozen, Nat.not_lt_zero, if_false] at f
    cases e : L1[k]? with
    | none => rw [e] at f; cases f
    | some o =>
      rw [e] at f
      cases o with
      | dK _ => cases f
      | dT _ => cases f
      | lst ds =>
        simp only at f
        split at f
        · rename_i p
          cases f
          unfold RV at r
          obtain ⟨a, ea, ev⟩ := r
          obtain ⟨xs, q1, q2⟩ := s1.at_ e ea
          obtain ⟨n1, n2, n3⟩ := new_alone s x (List.mem_of_getElem? ea)
          unfold RV
          exact ⟨a, xs, ev, .inl q1, n2, n3, RVs.move (fun a z _ => ⟨fun q => z (.inl q), fun q => z (.inr q)⟩) (fun a xs h => s'.notup h) ds xs p q2⟩
        · cases f
  · have f' : (if d.pure then some d else none) = some d' := by
      cases d <;> first | exact f | exact absurd ⟨_, rfl⟩ hk
    split at f'
    · rename_i p
      cases f'
      exact RV.back s' p r
    · cases f'
/-- a new object that the callee hands back -/
theorem kept_alone (s : SO C Z ι H L) (x : Ex [] H ι1 H1) (s1 : SO C (zOf Z ι) ι1 H1 L1) {k : Nat} {a : Addr} {o : O} (e : L1[k]? = some o) (ea : ι1[k]? = some a) (p : o.pure = true) :
    Ex ι H (ι ++ [a]) H1 ∧ SO C Z (ι ++ [a]) H1 (L ++ [o]) := by
  obtain ⟨sm, s', ex⟩ := back_alone s x
  obtain ⟨n1, n2, n3⟩ := new_alone s x (List.mem_of_getElem? ea)
  have ha : a ∈ ι1 := List.mem_of_getElem? ea
  refine ⟨⟨fun j b q => ?_, fun b m => ?_, ex.old⟩, ⟨by simp [s.len], ?_, fun j o' q => ?_, s'.zh⟩⟩
  · rw [List.getElem?_append_left (List.getElem?_eq_some_iff.mp q).1]; exact q
  · rcases List.mem_append.mp m with m | m
    · exact .inl m
    · have : b = a := by simpa using m
      exact .inr (this ▸ n1)
  · rw [List.nodup_append]
    refine ⟨s.nd, by simp, fun b hb c hc q => ?_⟩
    have : c = a := by simpa using hc
    rw [this] at q
    exact n3 (q ▸ hb)
  · by_cases hj : j < L.length
    · rw [List.getElem?_append_left hj] at q
      obtain ⟨b, q1, q2⟩ := s.obj j o' q
      refine ⟨b, by rw [List.getElem?_append_left (by rw [s.len]; exact hj)]; exact q1, q2.mono ⟨fun i c z => by rw [List.getElem?_append_left (List.getElem?_eq_some_iff.mp z).1]; exact z, fun c m => ?_, fun c u z _ => sm c u z⟩ fun u z => sm b u z⟩
      rcases List.mem_append.mp m with m | m
      · exact .inl m
      · have : c = a := by simpa using m
        exact .inr (this ▸ n1)
    · rw [List.getElem?_append_right (by omega)] at q
      have hj' : j = L.length := by
        have := (List.getElem?_eq_some_iff.mp q).1
        simp at this; omega
      subst hj'
      simp at q
      subst q
      refine ⟨a, by rw [List.getElem?_append_right (by rw [s.len]; exact Nat.le_refl _)]; simp [s.len], ?_⟩
      refine OR.move (fun b z n => ⟨fun q => z (.inl q), fun q => ?_⟩) (fun b xs h q => ?_) p (s1.at_ e ea)
      · rcases List.mem_append.mp q with q | q
        · exact z (.inr q)
        · have : b = a := by simpa using q
          exact n (this ▸ ha)
      · rcases List.mem_append.mp q with q | q
        · exact s'.notup h q
        · have : b = a := by simpa using q
          subst this
          obtain ⟨u, e1, k1⟩ := s1.kind ha
          rw [h] at e1; cases e1; cases k1

/-! ### a callee in our store -/
theorem take_getElem? {α : Type} {l : List α} {n k : Nat} (h : k < n) : (l.take n)[k]? = l[k]? := List.getElem?_take_of_lt h
theorem back_full (s : SO C Z ι H L) (x : Ex ι H ι1 H1) (s1 : SO C Z ι1 H1 L1) (p : storeP (L1.take L.length) = true) : Ex ι H ι H1 ∧ SO C Z ι H1 (L1.take L.length) := by
  have pre : ∀ k, k < ι.length → ι1[k]? = ι[k]? := fun k hk => by
    rw [List.getElem?_eq_getElem hk]; exact x.pre k _ (List.getElem?_eq_getElem hk)
  have sub : ∀ a, a ∈ ι → a ∈ ι1 := fun a m => by
    obtain ⟨k, hk, e⟩ := List.getElem_of_mem m
    exact List.mem_of_getElem? (x.pre k a (by rw [List.getElem?_eq_getElem hk, e]))
  have le : L.length ≤ L1.length := by
    rw [← s.len, ← s1.len]
    by_cases h0 : ι.length = 0
    · omega
    · have := pre (ι.length - 1) (by omega)
      rw [List.getElem?_eq_getElem (show ι.length - 1 < ι.length by omega)] at this
      have := (List.getElem?_eq_some_iff.mp this).1
      omega
  refine ⟨⟨fun k a h => h, fun a m => .inl m, x.old⟩, ⟨by rw [List.length_take, Nat.min_eq_left le]; exact s.len, s.nd, fun k o e => ?_, fun a z => s1.zh a z⟩⟩
  have hk : k < L.length := by
    have := (List.getElem?_eq_some_iff.mp e).1
    rw [List.length_take] at this
    omega
  rw [take_getElem? hk] at e
  obtain ⟨a, q, r⟩ := s1.obj k o e
  rw [pre k (by rw [s.len]; exact hk)] at q
  have po : o.pure = true := by
    unfold storeP at p
    exact List.all_eq_true.mp p o (List.mem_of_getElem? (show (L1.take L.length)[k]? = some o by rw [take_getElem? hk]; exact e))
  exact ⟨a, q, OR.move (fun b z n => ⟨z, fun m => n (sub b m)⟩) (fun b xs h m => s1.notup h (sub b m)) po r⟩
theorem frozen_full (s : SO C Z ι H L) (x : Ex ι H ι1 H1) (s1 : SO C Z ι1 H1 L1) {d d' : D} {v : L2.V} (f : frozen L.length d L1 = some d') (r : RV C Z ι1 H1 d v) : RV C Z ι H1 d' v := by
  have pre : ∀ k, k < ι.length → ι1[k]? = ι[k]? := fun k hk => by
    rw [List.getElem?_eq_getElem hk]; exact x.pre k _ (List.getElem?_eq_getElem hk)
  have sub : ∀ a, a ∈ ι → a ∈ ι1 := fun a m => by
    obtain ⟨k, hk, e⟩ := List.getElem_of_mem m
    exact List.mem_of_getElem? (x.pre k a (by rw [List.getElem?_eq_getElem hk, e]))
  have mv : ∀ (a : Addr), ¬ Z a → a ∉ ι1 → ¬ Z a ∧ a ∉ ι := fun b z n => ⟨z, fun m => n (sub b m)⟩
  have mt : ∀ (a : Addr) xs, H1 a = some (.tup xs) → a ∉ ι := fun b xs h m => s1.notup h (sub b m)
  by_cases hk : ∃ k, d = .obj k
  · obtain ⟨k, rfl⟩ := hk
    unfold RV at r
    obtain ⟨a, ea, ev⟩ := r
    simp only [frozen] at f
    split at f
    · rename_i hlt
      cases f
      unfold RV
      exact ⟨a, by rw [← pre k (by rw [s.len]; exact hlt)]; exact ea, ev⟩
    · rename_i hge
      cases e : L1[k]? with
      | none => rw [e] at f; cases f
      | some o =>
        rw [e] at f
        cases o with
        | dK _ => cases f
        | dT _ => cases f
        | lst ds =>
          simp only at f
          split at f
          · rename_i p
            cases f
            obtain ⟨xs, q1, q2⟩ := s1.at_ e ea
            have na : a ∉ ι := fun m => by
              obtain ⟨j, hj, ej⟩ := List.getElem_of_mem m
              have z := x.pre j a (by rw [List.getElem?_eq_getElem hj, ej])
              have := L2.nd_ix s1.nd ea z
              rw [s.len] at hj
              omega
            have hn : H a = none := (x.new a (List.mem_of_getElem? ea)).resolve_left na
            unfold RV
            exact ⟨a, xs, ev, .inl q1, s.notz hn, na, RVs.move mv mt ds xs p q2⟩
          · cases f
  · have f' : (if d.pure then some d else none) = some d' := by
      cases d <;> first | exact f | exact absurd ⟨_, rfl⟩ hk
    split at f'
    · rename_i p
      cases f'
      exact RV.move mv mt _ _ p r
    · cases f'
end

/-- what a def promises: the evaluator's word -/
def spF (C : Cfg) (cf : Nat → List D → M D) (f : Nat) : L2.Sp := fun vs H Q E => ∃ Z ι L ds, SO C Z ι H L ∧ RVs C Z ι H ds vs ∧ match cf f ds L with
  | .ok d L' => ∀ v ι' H', Ex ι H ι' H' → SO C Z ι' H' L' → RV C Z ι' H' d v → Q v H'
  | .exc c d L' => ∀ v ι' H' dx, Ex ι H ι' H' → SO C Z ι' H' L' → RV C Z ι' H' d v → H' dx = some (.xd [(C.fld c, v)]) → E (.ref (C.cls c)) (some dx) H'
  | .bad => False
section
variable {C : Cfg} {Z : Addr → Prop} {W : L2.WX} {σ : L2.St} {ι : List Addr} {H : L2.Hp} {L : Store} {cf : Nat → List D → M D}
theorem callF_sp {f : Nat} {ds : List D} {vs : List L2.V} {Q : L2.VK} (S : SO C Z ι H L) (r : RVs C Z ι H ds vs) (h : Aft C Z W σ ι H (callF cf f ds L) fun d L' ι' H' => ∀ v, RV C Z ι' H' d v → Q v H') :
    spF C cf f vs H Q (fun cls d H' => W cls d σ H') := by
  unfold callF at h
  split at h
  · rename_i p
    refine ⟨zOf Z ι, [], [], ds, S.alone, r.alone p, ?_⟩
    cases e : cf f ds [] with
    | bad => rw [e] at h; exact h
    | exc c d L1 =>
      rw [e] at h
      simp only at h
      split at h
      · rename_i pd
        intro v ι1 H1 dx x s1 rv hd
        obtain ⟨sm, s', ex⟩ := back_alone S x
        exact h v ι H1 dx ex s' (RV.back s' pd rv) hd
      · exact False.elim h
    | ok d L1 =>
      rw [e] at h
      simp only at h
      cases fz : frozen 0 d L1 with
      | none => rw [fz] at h; exact False.elim h
      | some d' =>
        rw [fz] at h
        intro v ι1 H1 x s1 rv
        obtain ⟨sm, s', ex⟩ := back_alone S x
        exact h ι H1 ex s' v (frozen_alone S x s1 fz rv)
  · refine ⟨Z, ι, L, ds, S, r, ?_⟩
    cases e : cf f ds L with
    | bad => rw [e] at h; exact h
    | exc c d L1 =>
      rw [e] at h
      simp only at h
      split at h
      · rename_i pd
        rw [Bool.and_eq_true] at pd
        intro v ι1 H1 dx x s1 rv hd
        obtain ⟨ex, s'⟩ := back_full S x s1 pd.2
        have fz : frozen L.length d L1 = some d := by
          cases d <;> first | (simp only [frozen]; rw [if_pos pd.1]) | (simp [D.pure] at pd)
        exact h v ι H1 dx ex s' (frozen_full S x s1 fz rv) hd
      · exact False.elim h
    | ok d L1 =>
      rw [e] at h
      simp only at h
      split at h
      · rename_i ps
        cases fz : frozen L.length d L1 with
        | none => rw [fz] at h; exact False.elim h
        | some d' =>
          rw [fz] at h
          intro v ι1 H1 x s1 rv
          obtain ⟨ex, s'⟩ := back_full S x s1 ps
          exact h ι H1 ex s' v (frozen_full S x s1 fz rv)
      · exact False.elim h
theorem callK_sp {f : Nat} {ds : List D} {vs : List L2.V} {Q : L2.VK} (S : SO C Z ι H L) (r : RVs C Z ι H ds vs) (h : Aft C Z W σ ι H (callK cf f ds L) fun d L' ι' H' => ∀ v, RV C Z ι' H' d v → Q v H') :
    spF C cf f vs H Q (fun cls d H' => W cls d σ H') := by
  unfold callK at h
  split at h
  · rename_i p
    refine ⟨zOf Z ι, [], [], ds, S.alone, r.alone p, ?_⟩
    cases e : cf f ds [] with
    | bad => rw [e] at h; exact h
    | exc c d L1 =>
      rw [e] at h
      simp only at h
      split at h
      · rename_i pd
        intro v ι1 H1 dx x s1 rv hd
        obtain ⟨sm, s', ex⟩ := back_alone S x
        exact h v ι H1 dx ex s' (RV.back s' pd rv) hd
      · exact False.elim h
    | ok d L1 =>
      rw [e] at h
      cases d with
      | obj k =>
        simp only at h
        cases e2 : L1[k]? with
        | none => rw [e2] at h; exact False.elim h
        | some o =>
          rw [e2] at h
          simp only at h
          split at h
          · rename_i po
            intro v ι1 H1 x s1 rv
            unfold RV at rv
            obtain ⟨a, ea, ev⟩ := rv
            obtain ⟨ex, s'⟩ := kept_alone S x s1 e2 ea po
            refine h (ι ++ [a]) H1 ex s' v ?_
            unfold RV
            exact ⟨a, by rw [List.getElem?_append_right (by rw [S.len]; exact Nat.le_refl _)]; simp [S.len], ev⟩
          · exact False.elim h
      | _ => exact False.elim h
  · exact False.elim h
end
end EV
end

section
set_option autoImplicit false
/-! The evaluator's word about expressions, construct by construct. -/
namespace EV
open PySem PySem.Spec PyProof.Rows

theorem pe_imp {X : L2.Cx} {e : Expr} {t t' : L2.TE} (h : L2.PE X e t) (k : ∀ σ H Q, t' σ H Q → t σ H Q) : L2.PE X e t' := ⟨fun pins s σ H Q I w => h.run pins s σ H Q I (k σ H Q w)⟩
theorem pt_imp {X : L2.Cx} {e : Expr} {t t' : L2.TT} (h : L2.PT X e t) (k : ∀ σ H Q, t' σ H Q → t σ H Q) : L2.PT X e t' := ⟨fun pins s σ H Q I w => h.run pins s σ H Q I (k σ H Q w)⟩
theorem pw_imp {X : L2.Cx} {e : Expr} {t t' : L2.TT} (h : L2.PW X e t) (k : ∀ σ H Q, t' σ H Q → t σ H Q) : L2.PW X e t' := ⟨fun wh pins s σ H Q I w => h.run wh pins s σ H Q I (k σ H Q w)⟩
theorem pa_imp {X : L2.Cx} {e : List Expr} {t t' : L2.TA} (h : L2.PA X e t) (k : ∀ σ H Q, t' σ H Q → t σ H Q) : L2.PA X e t' := ⟨fun pos pins s σ H Q I w => h.run pos pins s σ H Q I (k σ H Q w)⟩

section
variable {C : Cfg} {Z : Addr → Prop} {W : L2.WX} {σ : L2.St} {ι ι' : List Addr} {H H' : L2.Hp} {L : Store} {ρ : Env}
/-- first m, then f -/
theorem seqG {α β γ : Type} {rel : (Addr → Prop) → List Addr → L2.Hp → α → γ → Prop} {m : Env → M α} {f : α → M β} {P : β → Store → List Addr → L2.Hp → Prop} {Q : γ → L2.Hp → Prop} (S : SO C Z ι H L) (E : ER C Z ι H ρ σ) (h : Aft C Z W σ ι H ((m ρ L).bind f) P)
    (k : ∀ x L1 ι1 H1 v, SO C Z ι1 H1 L1 → ER C Z ι1 H1 ρ σ → Ex ι H ι1 H1 → rel Z ι1 H1 x v → Aft C Z W σ ι1 H1 (f x L1) P → Q v H1) : rG C W m rel σ H Q :=
  ⟨Z, ι, L, ρ, S, E, h.bind.mono fun x L1 ι1 H1 ex s1 a v r => k x L1 ι1 H1 v s1 (E.mono ex) ex r a⟩
/-- m alone -/
theorem oneG {α γ : Type} {rel : (Addr → Prop) → List Addr → L2.Hp → α → γ → Prop} {m : Env → M α} {Q : γ → L2.Hp → Prop} (S : SO C Z ι H L) (E : ER C Z ι H ρ σ) (h : Aft C Z W σ ι H (m ρ L) fun a L' ι' H' => ∀ b, rel Z ι' H' a b → Q b H') : rG C W m rel σ H Q :=
  ⟨Z, ι, L, ρ, S, E, h⟩
theorem Aft.look2 {α : Type} {f : Store → Option α} {P : α → Store → List Addr → L2.Hp → Prop} (h : Aft C Z W σ ι H (EV.look f L) P) : ∃ a, f L = some a ∧ ∀ ι' H', Ex ι H ι' H' → SO C Z ι' H' L → P a L ι' H' := by
  unfold EV.look at h
  cases e : f L with
  | none => rw [e] at h; exact False.elim h
  | some a => rw [e] at h; exact ⟨a, rfl, h⟩
theorem Aft.okk {α : Type} {a : α} {P : α → Store → List Addr → L2.Hp → Prop} (h : Aft C Z W σ ι H (.ok a L) P) : ∀ ι' H', Ex ι H ι' H' → SO C Z ι' H' L → P a L ι' H' := h
end

section
variable {X : L2.Cx} {C : Cfg} {cf : Nat → List D → M D} {W : L2.WX} {pos : Pos}
/-! ### names and constants -/
theorem s_slot {i : Nat} {x : Str} (hN : X.N[i]? = some x) (hv : L2.Vis X.env.scope x) (hd : (x == ("__debug__" : Str)) = false) (hcd : (x == ("__classdict__" : Str)) = false) : L2.PE X (.Name x pos) (rE C W (evE cf (.slot i))) := by
  refine pe_imp (L2.pe_var (i := i) hN hv hd hcd) fun σ H Q ⟨Z, ι, L, ρ, S, E, h⟩ => ?_
  simp only [evE] at h
  split at h
  · rename_i d e
    obtain ⟨v, e', r⟩ := E.get i d e
    exact ⟨v, e', h.ok S v r⟩
  · exact False.elim h
/-- a constant's value -/
def cstV : D → Const → Bool
  | .non, .none => true
  | .bl a, .bool b => a == b
  | .int i, .int j => decide (i = j)
  | .str x, .str y => decide (SX.S x = y) && x.all (· < 128)
  | _, _ => false
theorem asc_of {x : List Nat} (h : x.all (· < 128) = true) : asc x := fun c m => by
  have := List.all_eq_true.mp h c m
  simpa using this
theorem rE_cst {d : D} {v : L2.V} {σ : L2.St} {H : L2.Hp} {Q : L2.VK} (h : rE C W (fun _ L => .ok d L) σ H Q) (r : ∀ Z ι H, RV C Z ι H d v) : Q v H := by
  obtain ⟨Z, ι, L, ρ, S, E, h⟩ := h
  exact Aft.ok h S v (r _ _ _)
theorem s_cst {d : D} {c : Const} {j : Nat} (h : cstV d c = true) : L2.PE X (.Constant c j pos) (rE C W (evE cf (.cst d))) := by
  have e0 : evE cf (.cst d) = fun _ L => .ok d L := by funext ρ L; simp only [evE]
  rw [e0]
  cases d <;> cases c <;> simp only [cstV] at h <;> try cases h
  · exact pe_imp L2.pe_non fun σ H Q q => rE_cst q fun _ _ _ => rv_non
  · rename_i a b
    have e : a = b := by simpa using h
    subst e
    exact pe_imp L2.pe_bl fun σ H Q q => rE_cst q fun _ _ _ => rv_bl
  · rename_i a b
    have e : a = b := by simpa using h
    subst e
    exact pe_imp L2.pe_int fun σ H Q q => rE_cst q fun _ _ _ => rv_int
  · rename_i a b
    rw [Bool.and_eq_true] at h
    have e : SX.S a = b := by simpa using h.1
    subst e
    exact pe_imp L2.pe_str fun σ H Q q => rE_cst q fun _ _ _ => rv_str (asc_of h.2)
/-- a module's constant -/
theorem s_glob {d : D} {x : Str} {u : Value} {v : L2.V} (hg : L2.Gl X x) (hm : X.mg x = some u) (r : L2.RelV v u) (hd : (x == ("__debug__" : Str)) = false) (rv : ∀ Z ι H, RV C Z ι H d v) : L2.PE X (.Name x pos) (rE C W (evE cf (.glob d))) := by
  have e0 : evE cf (.glob d) = fun _ L => .ok d L := by funext ρ L; simp only [evE]
  rw [e0]
  exact pe_imp (L2.pe_glob hg hm r hd) fun σ H Q q => rE_cst q rv
theorem s_fnv {f : Nat} {x : Str} (hg : L2.Gl X x) (hm : X.mg x = some (.ref (C.adr f))) (hd : (x == ("__debug__" : Str)) = false) : L2.PE X (.Name x pos) (rE C W (evE cf (.fnv f))) := by
  have e0 : evE cf (.fnv f) = fun _ L => .ok (.fn f) L := by funext ρ L; simp only [evE]
  rw [e0]
  exact pe_imp (L2.pe_glob (v := .ref (C.adr f)) hg hm rfl hd) fun σ H Q q => rE_cst q fun _ _ _ => by unfold RV; rfl

/-! ### operators -/
section
variable {a b c : Expr} {ca cb cc : E}
def rBin (C : Cfg) (f : Store → D → D → Option D) : L2.R2 := fun v w H Q => ∃ Z ι L x y d, SO C Z ι H L ∧ RV C Z ι H x v ∧ RV C Z ι H y w ∧ f L x y = some d ∧ ∀ v' H', L2.Same H H' → RV C Z ι H' d v' → Q v' H'
theorem r2_of {ma mb : Env → M D} {f : Store → D → D → Option D} {σ : L2.St} {H : L2.Hp} {Q : L2.VK}
    (h : rE C W (fun ρ L => (ma ρ L).bind fun x L1 => (mb ρ L1).bind fun y L2 => look (fun L => f L x y) L2) σ H Q) : L2.tOp (rBin C f) (rE C W ma) (rE C W mb) σ H Q := by
  obtain ⟨Z, ι, L, ρ, S, E, h⟩ := h
  refine seqG S E h fun x L1 ι1 H1 v s1 e1 ex1 rx h1 => seqG s1 e1 h1 fun y L2 ι2 H2 w s2 e2 ex2 ry h2 => ?_
  obtain ⟨d, hd, q⟩ := h2.look2
  exact ⟨Z, ι2, L2, x, y, d, s2, RV.mono ex2 _ _ rx, ry, hd, fun v' H' sm r => q ι2 H' (ex_same sm) (s2.same sm) v' r⟩
theorem s_bin {o : Bin} {op : Operator} (hK : X.K = C.K) (ho : op = opB o) (ha : L2.PE X a (rE C W (evE cf ca))) (hb : L2.PE X b (rE C W (evE cf cb))) : L2.PE X (.BinOp a op b pos) (rE C W (evE cf (.bin o ca cb))) := by
  subst ho
  refine pe_imp (L2.pe_op (r := rBin C fun L x y => binV L o x y) (fun pins s σ H v w u u' Q I r1 r2 ⟨Z, ι, L, x, y, d, S, rx, ry, hd, q⟩ => bin_sound hK I S hd rx ry r1 r2 q) ha hb) fun σ H Q h => r2_of ?_
  have e0 : evE cf (.bin o ca cb) = fun ρ L => (evE cf ca ρ L).bind fun x L1 => (evE cf cb ρ L1).bind fun y L2 => look (fun L => binV L o x y) L2 := by funext ρ L; simp only [evE]
  rw [e0] at h
  exact h
theorem s_neg (ha : L2.PE X a (rE C W (evE cf ca))) : L2.PE X (.UnaryOp .USub a pos) (rE C W (evE cf (.neg ca))) := by
  refine pe_imp (L2.pe_un L2.un_neg ha) fun σ H Q ⟨Z, ι, L, ρ, S, E, h⟩ => ?_
  simp only [evE] at h
  refine seqG S E h fun x L1 ι1 H1 v s1 e1 ex1 rx h1 => ?_
  split at h1
  · exact ⟨_, rv_unInt rx, h1.ok s1 _ rv_int⟩
  · exact False.elim h1
def rCmp (C : Cfg) (o : Cmp) : L2.R2 := fun v w H Q => ∃ Z ι L x y d, SO C Z ι H L ∧ RV C Z ι H x v ∧ RV C Z ι H y w ∧ cmpV L o x y = some d ∧ Q (.bl d) H
theorem op_rCmp (hK : X.K = C.K) (hu : X.A.units + 65 < cLine) (o : Cmp) : L2.OpR X (compareOp (opC o)) (rCmp C o) :=
  fun pins s σ H v w u u' Q I r1 r2 ⟨Z, ι, L, x, y, d, S, rx, ry, hd, q⟩ => cmp_sound hK hu I S hd rx ry r1 r2 q
theorem cmp_of {o : Cmp} {σ : L2.St} {H : L2.Hp} {Q : L2.VK} (h : rE C W (evE cf (.cmp o ca cb)) σ H Q) : L2.tOp (rCmp C o) (rE C W (evE cf ca)) (rE C W (evE cf cb)) σ H Q := by
  obtain ⟨Z, ι, L, ρ, S, E, h⟩ := h
  simp only [evE] at h
  refine seqG S E h fun x L1 ι1 H1 v s1 e1 ex1 rx h1 => seqG s1 e1 h1 fun y L2 ι2 H2 w s2 e2 ex2 ry h2 => ?_
  obtain ⟨d, hd, q⟩ := h2.bind.look s2
  exact ⟨Z, ι2, L2, x, y, d, s2, RV.mono ex2 _ _ rx, ry, hd, q.ok s2 _ rv_bl⟩
theorem s_cmp {o : Cmp} {op : CmpOp} (hK : X.K = C.K) (hu : X.A.units + 65 < cLine) (ho : op = opC o) (hm : behindInMarks op b = false) (ha : L2.PE X a (rE C W (evE cf ca))) (hb : L2.PE X b (rE C W (evE cf cb))) : L2.PE X (.Compare a [op] [b] pos) (rE C W (evE cf (.cmp o ca cb))) := by
  subst ho
  exact pe_imp (L2.pe_cmpR (op_rCmp hK hu o) ha hb hm) fun σ H Q h => cmp_of h
/-- a value's test -/
theorem tB_of {m : Env → M D} {t : L2.TE} (k : ∀ σ H Q, rE C W m σ H Q → t σ H Q) : ∀ σ H Q, rT C W m σ H Q → L2.tTest t σ H Q := fun σ H Q ⟨Z, ι, L, ρ, S, E, h⟩ =>
  k _ _ _ (oneG S E (h.bind.mono fun d L' ι' H' ex s q v r => by
    split at q
    · exact ⟨_, rv_unBl r, q.ok s _ rfl⟩
    · exact False.elim q))
theorem tB_ok : L2.tB = L2.tTest := rfl
theorem st_cmp {o : Cmp} {op : CmpOp} (hK : X.K = C.K) (hu : X.A.units + 65 < cLine) (ho : op = opC o) (hm : behindInMarks op b = false) (ha : L2.PE X a (rE C W (evE cf ca))) (hb : L2.PE X b (rE C W (evE cf cb))) : L2.PT X (.Compare a [op] [b] pos) (rT C W (evE cf (.cmp o ca cb))) := by
  subst ho
  exact pt_imp (L2.pt_cmpR (op_rCmp hK hu o) ha hb hm) (tB_of fun σ H Q h => cmp_of h)
/-- any expression without a way of its own as a test -/
theorem st_val {e : Expr} {m : Env → M D} (h : L2.PE X e (rE C W m)) (he : ∀ whole, isTrue e X.env whole = (do let v ← whole; standAt e.pos; holding [v] (truthy v))) : L2.PT X e (rT C W m) :=
  pt_imp (L2.pt_val h he) (tB_of fun σ H Q h => h)
theorem chain_of {o1 o2 : Cmp} {σ : L2.St} {H : L2.Hp} {Q : L2.VK} (h : rE C W (evE cf (.chain o1 o2 ca cb cc)) σ H Q) : L2.tChain (rCmp C o1) (rCmp C o2) (rE C W (evE cf ca)) (rE C W (evE cf cb)) (rE C W (evE cf cc)) σ H Q := by
  obtain ⟨Z, ι, L, ρ, S, E, h⟩ := h
  simp only [evE] at h
  refine seqG S E h fun x L1 ι1 H1 v s1 e1 ex1 rx h1 => seqG s1 e1 h1 fun y L2 ι2 H2 w s2 e2 ex2 ry h2 => ?_
  obtain ⟨d, hd, q⟩ := h2.bind.look s2
  refine ⟨Z, ι2, L2, x, y, d, s2, RV.mono ex2 _ _ rx, ry, hd, d, rfl, ?_⟩
  cases d with
  | false =>
    rw [if_neg Bool.false_ne_true] at q ⊢
    exact q.ok s2 _ rv_bl
  | true =>
    rw [if_pos rfl] at q ⊢
    refine seqG s2 e2 q fun z L3 ι3 H3 w3 s3 e3 ex3 rz h3 => ?_
    obtain ⟨d2, hd2, q2⟩ := h3.bind.look s3
    exact ⟨Z, ι3, L3, y, z, d2, s3, RV.mono ex3 _ _ ry, rz, hd2, q2.ok s3 _ rv_bl⟩
theorem s_chain {o1 o2 : Cmp} {p1 p2 : CmpOp} (hK : X.K = C.K) (hu : X.A.units + 65 < cLine) (h1 : p1 = opC o1) (h2 : p2 = opC o2) (hm : lastMarks [p1, p2] [b, c] = false) (ha : L2.PE X a (rE C W (evE cf ca))) (hb : L2.PE X b (rE C W (evE cf cb))) (hc : L2.PE X c (rE C W (evE cf cc))) :
    L2.PE X (.Compare a [p1, p2] [b, c] pos) (rE C W (evE cf (.chain o1 o2 ca cb cc))) := by
  subst h1 h2
  exact pe_imp (L2.pe_chain (op_rCmp hK hu o1) (op_rCmp hK hu o2) ha hb hc hm) fun σ H Q h => chain_of h
theorem st_chain {o1 o2 : Cmp} {p1 p2 : CmpOp} (hK : X.K = C.K) (hu : X.A.units + 65 < cLine) (h1 : p1 = opC o1) (h2 : p2 = opC o2) (hm : lastMarks [p1, p2] [b, c] = false) (ha : L2.PE X a (rE C W (evE cf ca))) (hb : L2.PE X b (rE C W (evE cf cb))) (hc : L2.PE X c (rE C W (evE cf cc))) :
    L2.PT X (.Compare a [p1, p2] [b, c] pos) (rT C W (evE cf (.chain o1 o2 ca cb cc))) := by
  subst h1 h2
  exact pt_imp (L2.pt_chain (op_rCmp hK hu o1) (op_rCmp hK hu o2) ha hb hc hm) (tB_of fun σ H Q h => chain_of h)
theorem isN_of {σ : L2.St} {H : L2.Hp} {Q : L2.VK} (h : rE C W (evE cf (.isN ca)) σ H Q) : L2.tIsN (rE C W (evE cf ca)) σ H Q := by
  obtain ⟨Z, ι, L, ρ, S, E, h⟩ := h
  simp only [evE] at h
  refine seqG S E h fun x L1 ι1 H1 v s1 e1 ex1 rx h1 => h1.ok s1 _ ?_
  unfold RV
  cases x <;> unfold RV at rx <;> simp only at rx ⊢
  all_goals first
    | (subst rx; rfl)
    | (obtain ⟨rx, _⟩ := rx; subst rx; rfl)
    | (obtain ⟨_, _, rx, _⟩ := rx; subst rx; rfl)
    | (obtain ⟨_, _, rx⟩ := rx; subst rx; rfl)
    | (obtain ⟨_, _, _, rx, _⟩ := rx; subst rx; rfl)
theorem notN_of {σ : L2.St} {H : L2.Hp} {Q : L2.VK} (h : rE C W (evE cf (.notN ca)) σ H Q) : L2.tNotN (rE C W (evE cf ca)) σ H Q := by
  obtain ⟨Z, ι, L, ρ, S, E, h⟩ := h
  simp only [evE] at h
  refine seqG S E h fun x L1 ι1 H1 v s1 e1 ex1 rx h1 => h1.ok s1 _ ?_
  unfold RV
  cases x <;> unfold RV at rx <;> simp only at rx ⊢
  all_goals first
    | (subst rx; rfl)
    | (obtain ⟨rx, _⟩ := rx; subst rx; rfl)
    | (obtain ⟨_, _, rx, _⟩ := rx; subst rx; rfl)
    | (obtain ⟨_, _, rx⟩ := rx; subst rx; rfl)
    | (obtain ⟨_, _, _, rx, _⟩ := rx; subst rx; rfl)
theorem s_isN {j : Nat} {p2 : Pos} (ha : L2.PE X a (rE C W (evE cf ca))) : L2.PE X (.Compare a [.Is] [.Constant .none j p2] pos) (rE C W (evE cf (.isN ca))) := pe_imp (L2.pe_cmp (L2.pc_isN ha)) fun σ H Q h => isN_of h
theorem st_isN {j : Nat} {p2 : Pos} (ha : L2.PE X a (rE C W (evE cf ca))) : L2.PT X (.Compare a [.Is] [.Constant .none j p2] pos) (rT C W (evE cf (.isN ca))) := pt_imp (L2.pt_cmp (L2.pc_isN ha)) (tB_of fun σ H Q h => isN_of h)
theorem s_notN {j : Nat} {p2 : Pos} (ha : L2.PE X a (rE C W (evE cf ca))) : L2.PE X (.Compare a [.IsNot] [.Constant .none j p2] pos) (rE C W (evE cf (.notN ca))) := pe_imp (L2.pe_cmp (L2.pc_notN ha)) fun σ H Q h => notN_of h
theorem st_notN {j : Nat} {p2 : Pos} (ha : L2.PE X a (rE C W (evE cf ca))) : L2.PT X (.Compare a [.IsNot] [.Constant .none j p2] pos) (rT C W (evE cf (.notN ca))) := pt_imp (L2.pt_cmp (L2.pc_notN ha)) (tB_of fun σ H Q h => notN_of h)
/-! ### not, and, or, if-else -/
theorem s_not (ha : L2.PE X a (rE C W (evE cf ca))) : L2.PE X (.UnaryOp .Not a pos) (rE C W (evE cf (.not ca))) := by
  refine pe_imp (L2.pe_not ha) fun σ H Q ⟨Z, ι, L, ρ, S, E, h⟩ => ?_
  simp only [evE] at h
  refine seqG S E h fun x L1 ι1 H1 v s1 e1 ex1 rx h1 => ?_
  split at h1
  · exact ⟨_, rv_unBl rx, h1.ok s1 _ rv_bl⟩
  · exact False.elim h1
theorem st_not (ha : L2.PT X a (rT C W (evE cf ca))) : L2.PT X (.UnaryOp .Not a pos) (rT C W (evE cf (.not ca))) := by
  refine pt_imp (L2.pt_not ha) fun σ H Q ⟨Z, ι, L, ρ, S, E, h⟩ => ?_
  refine ⟨Z, ι, L, ρ, S, E, ?_⟩
  unfold boolM at h ⊢
  simp only [evE] at h
  cases e : evE cf ca ρ L with
  | bad => rw [e] at h; exact h
  | exc c d L1 => rw [e] at h; exact h
  | ok d L1 =>
    rw [e] at h
    cases d with
    | bl b => exact fun ι' H' x s c e => h ι' H' x s _ (by rw [← e])
    | _ => exact h
theorem and_bool {ρ : Env} {L : Store} : boolM (evE cf (.and ca cb)) ρ L = (boolM (evE cf ca) ρ L).bind fun b L1 => if b = true then boolM (evE cf cb) ρ L1 else .ok false L1 := by
  unfold boolM
  simp only [evE]
  cases evE cf ca ρ L with
  | bad => rfl
  | exc c d L1 => rfl
  | ok d L1 =>
    cases d with
    | bl b =>
      cases b with
      | false => rfl
      | true =>
        simp only [R.bind, if_true]
        cases evE cf cb ρ L1 with
        | bad => rfl
        | exc c d L1 => rfl
        | ok d L1 => cases d <;> rfl
    | _ => rfl
theorem or_bool {ρ : Env} {L : Store} : boolM (evE cf (.or ca cb)) ρ L = (boolM (evE cf ca) ρ L).bind fun b L1 => if b = true then .ok true L1 else boolM (evE cf cb) ρ L1 := by
  unfold boolM
  simp only [evE]
  cases evE cf ca ρ L with
  | bad => rfl
  | exc c d L1 => rfl
  | ok d L1 =>
    cases d with
    | bl b =>
      cases b with
      | true => rfl
      | false =>
        simp only [R.bind, Bool.false_eq_true, if_false]
        cases evE cf cb ρ L1 with
        | bad => rfl
        | exc c d L1 => rfl
        | ok d L1 => cases d <;> rfl
    | _ => rfl
theorem tAnd_of {ta : L2.TT} {tb : L2.TT} {σ : L2.St} {H : L2.Hp} {Q : Bool → L2.Hp → Prop} (ka : ta = rT C W (evE cf ca)) (kb : tb = rT C W (evE cf cb)) (h : rT C W (evE cf (.and ca cb)) σ H Q) : L2.tAnd ta tb σ H Q := by
  subst ka kb
  obtain ⟨Z, ι, L, ρ, S, E, h⟩ := h
  rw [and_bool] at h
  refine seqG S E h fun x L1 ι1 H1 v s1 e1 ex1 rx h1 => ?_
  subst rx
  cases x with
  | true => exact oneG s1 e1 h1
  | false => exact h1.ok s1 _ rfl
theorem tOr_of {ta : L2.TT} {tb : L2.TT} {σ : L2.St} {H : L2.Hp} {Q : Bool → L2.Hp → Prop} (ka : ta = rT C W (evE cf ca)) (kb : tb = rT C W (evE cf cb)) (h : rT C W (evE cf (.or ca cb)) σ H Q) : L2.tOr ta tb σ H Q := by
  subst ka kb
  obtain ⟨Z, ι, L, ρ, S, E, h⟩ := h
  rw [or_bool] at h
  refine seqG S E h fun x L1 ι1 H1 v s1 e1 ex1 rx h1 => ?_
  subst rx
  cases x with
  | true => exact h1.ok s1 _ rfl
  | false => exact oneG s1 e1 h1
/-- a row of and: the core is nested to the right -/
theorem sw_and1 (ha : L2.PT X a (rT C W (evE cf ca))) : L2.PW X (.BoolOp .And [a] pos) (rT C W (evE cf ca)) := L2.pw_and1 ha
theorem sw_or1 (ha : L2.PT X a (rT C W (evE cf ca))) : L2.PW X (.BoolOp .Or [a] pos) (rT C W (evE cf ca)) := L2.pw_or1 ha
theorem sw_and {rest : List Expr} (ha : L2.PT X a (rT C W (evE cf ca))) (hb : L2.PW X (.BoolOp .And (b :: rest) pos) (rT C W (evE cf cb))) : L2.PW X (.BoolOp .And (a :: b :: rest) pos) (rT C W (evE cf (.and ca cb))) :=
  pw_imp (L2.pw_and ha hb) fun σ H Q h => tAnd_of rfl rfl h
theorem sw_or {rest : List Expr} (ha : L2.PT X a (rT C W (evE cf ca))) (hb : L2.PW X (.BoolOp .Or (b :: rest) pos) (rT C W (evE cf cb))) : L2.PW X (.BoolOp .Or (a :: b :: rest) pos) (rT C W (evE cf (.or ca cb))) :=
  pw_imp (L2.pw_or ha hb) fun σ H Q h => tOr_of rfl rfl h
theorem s_one {op : BoolOp} (ha : L2.PE X a (rE C W (evE cf ca))) : L2.PE X (.BoolOp op [a] pos) (rE C W (evE cf ca)) := L2.pe_one ha
theorem s_and {rest : List Expr} (ha : L2.PE X a (rE C W (evE cf ca))) (hb : L2.PE X (.BoolOp .And (b :: rest) pos) (rE C W (evE cf cb))) : L2.PE X (.BoolOp .And (a :: b :: rest) pos) (rE C W (evE cf (.and ca cb))) := by
  refine pe_imp (L2.pe_and ha hb) fun σ H Q ⟨Z, ι, L, ρ, S, E, h⟩ => ?_
  simp only [evE] at h
  refine seqG S E h fun x L1 ι1 H1 v s1 e1 ex1 rx h1 => ?_
  split at h1
  · refine ⟨_, rv_unBl rx, ?_⟩
    rw [if_pos rfl]
    refine oneG s1 e1 (h1.bind.mono fun d L2 ι2 H2 ex2 s2 q w rw => ?_)
    split at q
    · rw [rv_unBl rw]; exact q.ok s2 _ rv_bl
    · exact False.elim q
  · refine ⟨_, rv_unBl rx, ?_⟩
    rw [if_neg Bool.false_ne_true]
    exact h1.ok s1 _ rv_bl
  · exact False.elim h1
theorem s_or {rest : List Expr} (ha : L2.PE X a (rE C W (evE cf ca))) (hb : L2.PE X (.BoolOp .Or (b :: rest) pos) (rE C W (evE cf cb))) : L2.PE X (.BoolOp .Or (a :: b :: rest) pos) (rE C W (evE cf (.or ca cb))) := by
  refine pe_imp (L2.pe_or ha hb) fun σ H Q ⟨Z, ι, L, ρ, S, E, h⟩ => ?_
  simp only [evE] at h
  refine seqG S E h fun x L1 ι1 H1 v s1 e1 ex1 rx h1 => ?_
  split at h1
  · refine ⟨_, rv_unBl rx, ?_⟩
    rw [if_pos rfl]
    exact h1.ok s1 _ rv_bl
  · refine ⟨_, rv_unBl rx, ?_⟩
    rw [if_neg Bool.false_ne_true]
    refine oneG s1 e1 (h1.bind.mono fun d L2 ι2 H2 ex2 s2 q w rw => ?_)
    split at q
    · rw [rv_unBl rw]; exact q.ok s2 _ rv_bl
    · exact False.elim q
  · exact False.elim h1
theorem s_ife (hc : L2.PT X c (rT C W (evE cf cc))) (ha : L2.PE X a (rE C W (evE cf ca))) (hb : L2.PE X b (rE C W (evE cf cb))) : L2.PE X (.IfExp c a b pos) (rE C W (evE cf (.ife cc ca cb))) := by
  refine pe_imp (L2.pe_ifExp hc ha hb) fun σ H Q ⟨Z, ι, L, ρ, S, E, h⟩ => ?_
  have e0 : evE cf (.ife cc ca cb) ρ L = (boolM (evE cf cc) ρ L).bind fun b L1 => if b = true then evE cf ca ρ L1 else evE cf cb ρ L1 := by
    unfold boolM
    simp only [evE]
    cases evE cf cc ρ L with
    | bad => rfl
    | exc c d L1 => rfl
    | ok d L1 => cases d with
      | bl b => cases b <;> rfl
      | _ => rfl
  rw [e0] at h
  refine seqG S E h fun x L1 ι1 H1 v s1 e1 ex1 rx h1 => ?_
  subst rx
  cases x with
  | true => exact oneG s1 e1 h1
  | false => exact oneG s1 e1 h1
end
end
end EV
end

section
set_option autoImplicit false
/-! The evaluator's word: argument lists, tuples, new lists, built-ins, methods, subscripts, dicts. -/
namespace EV
open PySem PySem.Spec PyProof.Rows

section
variable {X : L2.Cx} {C : Cfg} {cf : Nat → List D → M D} {W : L2.WX} {pos : Pos}
/-! ### argument lists -/
theorem s_nil : L2.PA X [] (rA C W (evEs cf .nil)) := pa_imp L2.pa_nil fun σ H Q ⟨Z, ι, L, ρ, S, E, h⟩ => by
  simp only [evEs] at h
  exact h.ok S _ .nil
theorem s_cons {e : Expr} {es : List Expr} {ce : E} {ces : Es} (hs : starEach (e :: es) X.env = (false, eval e X.env) :: starEach es X.env) (he : L2.PE X e (rE C W (evE cf ce))) (hes : L2.PA X es (rA C W (evEs cf ces))) :
    L2.PA X (e :: es) (rA C W (evEs cf (.cons ce ces))) := pa_imp (L2.pa_cons he hes hs) fun σ H Q ⟨Z, ι, L, ρ, S, E, h⟩ => by
  simp only [evEs] at h
  refine seqG S E h fun x L1 ι1 H1 v s1 e1 ex1 rx h1 => seqG s1 e1 h1 fun xs L2 ι2 H2 vs s2 e2 ex2 rs h2 => h2.ok s2 _ (.cons (RV.mono ex2 _ _ rx) rs)
theorem s_tup {es : List Expr} {ces : Es} {k : Nat} (h : L2.PA X es (rA C W (evEs cf ces))) : L2.PE X (.Tuple es k pos) (rE C W (evE cf (.tup ces))) := pe_imp (L2.pe_tup h) fun σ H Q ⟨Z, ι, L, ρ, S, E, h⟩ => by
  simp only [evE] at h
  refine seqG S E h fun xs L1 ι1 H1 vs s1 e1 ex1 rs h1 => ?_
  split at h1
  · rename_i hz
    exact ⟨by rw [← rs.length, ← big_eq]; exact hz, fun p hp => h1 ι1 _ (ex_upd hp) (s1.upd hp) _ (rv_tupNew s1 hp rs)⟩
  · exact False.elim h1

/-! ### new lists -/
def AftF (C : Cfg) (Z : Addr → Prop) (W : L2.WX) (σ : L2.St) (ι : List Addr) (H : L2.Hp) (r : R (List D)) (Q : L2.VK) : Prop := match r with
  | .ok ds L' => ∀ p xs ι' H', Ex ι H ι' H' → H p = none → SO C (zAdd Z p) ι' H' L' → H' p = some (.lst xs) → p ∉ ι' → RVs C (zAdd Z p) ι' H' ds xs → Q (.ref p) H'
  | .exc c d L' => ∀ v ι' H' dx, Ex ι H ι' H' → SO C Z ι' H' L' → RV C Z ι' H' d v → H' dx = some (.xd [(C.fld c, v)]) → W (.ref (C.cls c)) (some dx) σ H'
  | .bad => False
section
variable {Z : Addr → Prop} {σ : L2.St} {ι ι' : List Addr} {H H' : L2.Hp} {L L1 : Store} {ρ : Env} {Q : L2.VK}
theorem AftF.ext {r : R (List D)} (h : AftF C Z W σ ι H r Q) (x : Ex ι H ι' H') (S : SO C Z ι' H' L1) : AftF C Z W σ ι' H' r Q := by
  cases r with
  | ok a L => exact fun p xs ι2 H2 y hp s e n rv => h p xs ι2 H2 (x.trans y) (x.fresh S hp) s e n rv
  | exc c d L => exact fun v ι2 H2 dx y s rv e => h v ι2 H2 dx (x.trans y) s rv e
  | bad => exact h
theorem AftF.bind {α : Type} {r : R α} {f : α → M (List D)} (h : AftF C Z W σ ι H (r.bind f) Q) : Aft C Z W σ ι H r fun a L1 ι1 H1 => SO C Z ι1 H1 L1 → AftF C Z W σ ι1 H1 (f a L1) Q := by
  cases r with
  | ok a L => exact fun ι1 H1 x s s' => h.ext x s'
  | exc c d L => exact h
  | bad => exact h
theorem seqF {α γ : Type} {rel : (Addr → Prop) → List Addr → L2.Hp → α → γ → Prop} {m : Env → M α} {f : α → M (List D)} {Q' : γ → L2.Hp → Prop} (S : SO C Z ι H L) (E : ER C Z ι H ρ σ) (h : AftF C Z W σ ι H ((m ρ L).bind f) Q)
    (k : ∀ x L1 ι1 H1 v, SO C Z ι1 H1 L1 → ER C Z ι1 H1 ρ σ → Ex ι H ι1 H1 → rel Z ι1 H1 x v → AftF C Z W σ ι1 H1 (f x L1) Q → Q' v H1) : rG C W m rel σ H Q' :=
  ⟨Z, ι, L, ρ, S, E, h.bind.mono fun x L1 ι1 H1 ex s1 a v r => k x L1 ι1 H1 v s1 (E.mono ex) ex r (a s1)⟩
theorem AftF.new {ds : List D} {xs : List L2.V} (h : AftF C Z W σ ι H (.ok ds L) Q) (S : SO C Z ι H L) (r : RVs C Z ι H ds xs) : ∀ p, H p = none → Q (.ref p) (L2.upd H p (.lst xs)) := fun p hp =>
  h p xs ι _ (ex_upd hp) hp (S.add hp) L2.upd_same (S.fresh hp) (RVs.mono (ex_upd hp) _ _ (RVs.add hp _ _ r))
theorem rF_of {m : Env → M (List D)} (S : SO C Z ι H L) (E : ER C Z ι H ρ σ) (h : AftF C Z W σ ι H (m ρ L) Q) : rF C W m σ H Q := ⟨Z, ι, L, ρ, S, E, by
  unfold AftF at h
  exact h⟩
theorem rF_un {m : Env → M (List D)} (h : rF C W m σ H Q) : ∃ Z ι L ρ, SO C Z ι H L ∧ ER C Z ι H ρ σ ∧ AftF C Z W σ ι H (m ρ L) Q := by
  obtain ⟨Z, ι, L, ρ, S, E, h⟩ := h
  exact ⟨Z, ι, L, ρ, S, E, by unfold AftF; exact h⟩
end
theorem frz_of {cf : Nat → List D → M D} {f : F} {σ : L2.St} {H : L2.Hp} {Q : L2.VK} (h : rE C W (evE cf (.frz f)) σ H Q) : rF C W (evF cf f) σ H Q := by
  obtain ⟨Z, ι, L, ρ, S, E, h⟩ := h
  refine rF_of S E ?_
  simp only [evE] at h
  cases e : evF cf f ρ L with
  | bad => rw [e] at h; exact h
  | exc c d L1 => rw [e] at h; exact h
  | ok ds L1 =>
    rw [e] at h
    intro p xs ι' H' x hp s' hp' pn rv
    refine h ι' H' x (s'.weak zle) _ ?_
    unfold RV
    exact ⟨p, xs, rfl, .inl hp', S.notz hp, pn, RVs.weak zle _ _ rv⟩
theorem mut_of {cf : Nat → List D → M D} {f : F} {σ : L2.St} {H : L2.Hp} {Q : L2.VK} (h : rE C W (evE cf (.mut f)) σ H Q) : rF C W (evF cf f) σ H Q := by
  obtain ⟨Z, ι, L, ρ, S, E, h⟩ := h
  refine rF_of S E ?_
  simp only [evE] at h
  cases e : evF cf f ρ L with
  | bad => rw [e] at h; exact h
  | exc c d L1 => rw [e] at h; exact h
  | ok ds L1 =>
    rw [e] at h
    intro p xs ι' H' x hp s' hp' pn rv
    have s2 := s'.adopt hp' pn rv
    refine h (ι' ++ [p]) H' ⟨fun k a e => ?_, fun a m => ?_, x.old⟩ s2 _ ?_
    · have := x.pre k a e
      rw [List.getElem?_append_left (List.getElem?_eq_some_iff.mp this).1]; exact this
    · rcases List.mem_append.mp m with m | m
      · exact x.new a m
      · have : a = p := by simpa using m
        exact .inr (this ▸ hp)
    · unfold RV
      exact ⟨p, by rw [← s'.len, List.getElem?_append_right (Nat.le_refl _)]; simp, rfl⟩
theorem s_frz {e : Expr} {f : F} (h : L2.PE X e (rF C W (evF cf f))) : L2.PE X e (rE C W (evE cf (.frz f))) := pe_imp h fun σ H Q h => frz_of h
theorem s_mut {e : Expr} {f : F} (h : L2.PE X e (rF C W (evF cf f))) : L2.PE X e (rE C W (evE cf (.mut f))) := pe_imp h fun σ H Q h => mut_of h
theorem f_disp {es : List Expr} {ces : Es} (h : L2.PA X es (rA C W (evEs cf ces))) : L2.PE X (.List es pos) (rF C W (evF cf (.disp ces))) := pe_imp (L2.pe_lst h) fun σ H Q h => by
  obtain ⟨Z, ι, L, ρ, S, E, h⟩ := rF_un h
  simp only [evF] at h
  refine seqF S E h fun xs L1 ι1 H1 vs s1 e1 ex1 rs h1 => ?_
  split at h1
  · rename_i hz
    exact ⟨by rw [← rs.length, ← big_eq]; exact hz, h1.new s1 rs⟩
  · exact False.elim h1
/-! slices -/
theorem s_onone : L2.PO X none (rO C W (evO cf .none)) := ⟨fun pins s σ H Q I ⟨Z, ι, L, ρ, S, E, h⟩ => by
  simp only [evO] at h
  exact L2.po_none.run pins s σ H Q I (h.ok S none rfl)⟩
theorem s_osome {e : Expr} {ce : E} (he : L2.PE X e (rE C W (evE cf ce))) : L2.PO X (some e) (rO C W (evO cf (.some ce))) := ⟨fun pins s σ H Q I ⟨Z, ι, L, ρ, S, E, h⟩ => by
  refine (L2.po_some he).run pins s σ H Q I ?_
  simp only [evO] at h
  refine seqG S E h fun x L1 ι1 H1 v s1 e1 ex1 rx h1 => ?_
  split at h1
  · exact ⟨_, rv_unInt rx, h1.ok s1 _ rfl⟩
  · exact False.elim h1⟩
theorem s_sl {e : Expr} {lo hi : Option Expr} {ce : E} {clo chi : Oe} {p2 : Pos} (hK : X.K = C.K) (he : L2.PE X e (rE C W (evE cf ce))) (hl : L2.PO X lo (rO C W (evO cf clo))) (hh : L2.PO X hi (rO C W (evO cf chi))) :
    L2.PE X (.Subscript e (.Slice lo hi none p2) pos) (rE C W (evE cf (.sl ce clo chi))) := pe_imp (L2.pe_slice sl_txt2 he hl hh) fun σ H Q ⟨Z, ι, L, ρ, S, E, h⟩ => by
  simp only [evE] at h
  refine seqG S E h fun x L1 ι1 H1 v s1 e1 ex1 rx h1 => seqG s1 e1 h1 fun l L2 ι2 H2 l' s2 e2 ex2 rl h2 => seqG s2 e2 h2 fun u L3 ι3 H3 u' s3 e3 ex3 ru h3 => ?_
  subst rl ru
  obtain ⟨d, hd, q⟩ := h3.look2
  exact sl_sound hK s3 hd (RV.mono ex3 _ _ (RV.mono ex2 _ _ rx)) fun v' H' sm r => q ι3 H' (ex_same sm) (s3.same sm) v' r
theorem f_sl {e : Expr} {lo hi : Option Expr} {ce : E} {clo chi : Oe} {p2 : Pos} (he : L2.PE X e (rE C W (evE cf ce))) (hl : L2.PO X lo (rO C W (evO cf clo))) (hh : L2.PO X hi (rO C W (evO cf chi))) :
    L2.PE X (.Subscript e (.Slice lo hi none p2) pos) (rF C W (evF cf (.sl ce clo chi))) := pe_imp (L2.pe_slice L2.sl_list he hl hh) fun σ H Q h => by
  obtain ⟨Z, ι, L, ρ, S, E, h⟩ := rF_un h
  simp only [evF] at h
  refine seqF S E h fun x L1 ι1 H1 v s1 e1 ex1 rx h1 => seqF s1 e1 h1 fun l L2 ι2 H2 l' s2 e2 ex2 rl h2 => seqF s2 e2 h2 fun u L3 ι3 H3 u' s3 e3 ex3 ru h3 => ?_
  subst rl ru
  cases e : listOf L3 x with
  | none => rw [e] at h3; exact False.elim h3
  | some ds =>
    rw [e] at h3
    obtain ⟨a, xs, rfl, rd, rs⟩ := listOf_rv s3 e (RV.mono ex3 _ _ (RV.mono ex2 _ _ rx))
    exact ⟨a, xs, rfl, sql_of rd, h3.new s3 (rvs_cut rs l u)⟩
theorem f_cat {a b : Expr} {ca cb : E} (ha : L2.PE X a (rE C W (evE cf ca))) (hb : L2.PE X b (rE C W (evE cf cb))) : L2.PE X (.BinOp a .Add b pos) (rF C W (evF cf (.cat ca cb))) := pe_imp (L2.pe_op op_catR ha hb) fun σ H Q h => by
  obtain ⟨Z, ι, L, ρ, S, E, h⟩ := rF_un h
  simp only [evF] at h
  refine seqF S E h fun x L1 ι1 H1 v s1 e1 ex1 rx h1 => seqF s1 e1 h1 fun y L2 ι2 H2 w s2 e2 ex2 ry h2 => ?_
  cases e1 : listOf L2 x with
  | none => rw [e1] at h2; exact False.elim h2
  | some ds =>
    cases e2 : listOf L2 y with
    | none => rw [e1, e2] at h2; exact False.elim h2
    | some es =>
      rw [e1, e2] at h2
      simp only at h2
      split at h2
      · rename_i hz
        obtain ⟨a, xs, rfl, rd, rs⟩ := listOf_rv s2 e1 (RV.mono ex2 _ _ rx)
        obtain ⟨b, ys, rfl, rd2, rs2⟩ := listOf_rv s2 e2 ry
        exact ⟨a, b, xs, ys, rfl, rfl, rd, rd2, by rw [← rs.length, ← rs2.length, ← big_eq]; exact hz, h2.new s2 (rs.append rs2)⟩
      · exact False.elim h2

/-! ### built-ins by name -/
section
variable {e : Expr} {es : List Expr} {ce : E} {ces : Es} {p : Pos}
def rBi (C : Cfg) (b : Bi) : List L2.V → L2.Hp → L2.VK → Prop := fun vs H Q => ∃ Z ι L xs d, SO C Z ι H L ∧ RVs C Z ι H xs vs ∧ biV L b xs = some d ∧ ∀ v' H', L2.Same H H' → RV C Z ι H' d v' → Q v' H'
theorem cr_bi (hK : X.K = C.K) (hc : X.calm = true) (b : Bi) : L2.CallR X (biF b) (rBi C b) := fun pins s σ H vs us Q I r1 ⟨Z, ι, L, xs, d, S, rx, hd, q⟩ => bi_sound hK hc I S hd rx r1 q
theorem bi_of {b : Bi} {σ : L2.St} {H : L2.Hp} {Q : L2.VK} (h : rE C W (evE cf (.bi b ces)) σ H Q) : L2.tCB (rBi C b) (rA C W (evEs cf ces)) σ H Q := by
  obtain ⟨Z, ι, L, ρ, S, E, h⟩ := h
  simp only [evE] at h
  refine seqG S E h fun xs L1 ι1 H1 vs s1 e1 ex1 rs h1 => ?_
  obtain ⟨d, hd, q⟩ := h1.look2
  exact ⟨Z, ι1, L1, xs, d, s1, rs, hd, fun v' H' sm r => q ι1 H' (ex_same sm) (s1.same sm) v' r⟩
def biNm : Bi → Str
  | .len => "len"
  | .tuple => "tuple"
  | .all => "all"
  | .any => "any"
  | .sum => "sum"
  | .str => "str"
  | .int => "int"
theorem boot_any : bootBuiltins "any" = some (.builtin "any") := by decide +kernel
theorem boot_all : bootBuiltins "all" = some (.builtin "all") := by decide +kernel
theorem boot_len : bootBuiltins "len" = some (.builtin "len") := by decide +kernel
theorem boot_sum : bootBuiltins "sum" = some (.builtin "sum") := by decide +kernel
theorem boot_tuple : bootBuiltins "tuple" = some (.type "tuple") := by decide +kernel
theorem boot_str : bootBuiltins "str" = some (.type "str") := by decide +kernel
theorem boot_int : bootBuiltins "int" = some (.type "int") := by decide +kernel
theorem s_bi {b : Bi} {x : Str} (hx : x = biNm b) (hK : X.K = C.K) (hc : X.calm = true) (hg : L2.Gl X x) (hm : X.mg x = none) (ha : L2.PA X (e :: es) (rA C W (evEs cf ces)))
    (he : starEach (e :: es) X.env = (false, eval e X.env) :: starEach es X.env) (hpl : (backTo pos (starEach es X.env)).any (·.1) = false) : L2.PE X (.Call (.Name x p) (e :: es) [] pos) (rE C W (evE cf (.bi b ces))) := by
  subst hx
  refine pe_imp (t := L2.tCB (rBi C b) (rA C W (evEs cf ces))) ?_ fun σ H Q h => bi_of h
  have cr := cr_bi (X := X) hK hc b
  cases b with
  | len => exact L2.pe_callB cr hg hm boot_len ha (by decide) (by decide) he hpl
  | tuple => exact L2.pe_callTy cr hg hm boot_tuple ha (by decide) (by decide) he hpl
  | all => exact L2.pe_callB cr hg hm boot_all ha (by decide) (by decide) he hpl
  | any => exact L2.pe_callB cr hg hm boot_any ha (by decide) (by decide) he hpl
  | sum => exact L2.pe_callB cr hg hm boot_sum ha (by decide) (by decide) he hpl
  | str => exact L2.pe_callTy cr hg hm boot_str ha (by decide) (by decide) he hpl
  | int => exact L2.pe_callTy cr hg hm boot_int ha (by decide) (by decide) he hpl
/-- isinstance(x, T) -/
def tyNm : Ty → Str
  | .int => "int"
  | .str => "str"
  | .bool => "bool"
  | .tuple => "tuple"
  | .list => "list"
theorem boot_isi : bootBuiltins "isinstance" = some (.builtin "isinstance") := by decide +kernel
theorem boot_ty (t : Ty) : bootBuiltins (tyNm t) = some (.type (tyN t)) := by cases t <;> decide +kernel
theorem tyNm_ok (t : Ty) : tyNm t ≠ "__name__" ∧ (tyNm t == ("__debug__" : Str)) = false := by cases t <;> decide
theorem s_isi {t : Ty} {y : Str} {py : Pos} (hy : y = tyNm t) (hK : X.K = C.K) (hg : L2.Gl X "isinstance") (hm : X.mg "isinstance" = none) (hgy : L2.Gl X y) (hmy : X.mg y = none) (ha : L2.PE X e (rE C W (evE cf ce)))
    (h1 : starEach [e, .Name y py] X.env = (false, eval e X.env) :: starEach [.Name y py] X.env) : L2.PE X (.Call (.Name "isinstance" p) [e, .Name y py] [] pos) (rE C W (evE cf (.isi ce t))) := by
  subst hy
  have hT : L2.PE X (.Name (tyNm t) py) (L2.tC (.ty (tyN t))) := L2.pe_bltn hgy hmy (boot_ty t) rfl (tyNm_ok t).1 (tyNm_ok t).2
  refine pe_imp (L2.pe_callB L2.call_isi hg hm boot_isi (L2.pa_cons ha (L2.pa_cons hT L2.pa_nil rfl) h1) (by decide) (by decide) h1 rfl) fun σ H Q ⟨Z, ι, L, ρ, S, E, h⟩ => ?_
  simp only [evE] at h
  refine seqG S E h fun x L1 ι1 H1 v s1 e1 ex1 rx h1 => ?_
  obtain ⟨b, hb, q⟩ := h1.bind.look s1
  exact isi_sound hK s1 hb rx (q.ok s1 _ rv_bl)
/-- tuple(range(n)) -/
theorem upto_rg (a : Int) : ∀ n : Nat, ∀ {Z : Addr → Prop} {ι : List Addr} {H : L2.Hp}, RVs C Z ι H (upto a n) ((List.range n).map fun i => L2.V.int (a + (i : Nat))) := fun n {Z ι H} => by
  have key : ∀ (n : Nat) (a : Int) (f : Nat → L2.V), (∀ i, f i = .int (a + (i : Nat))) → RVs C Z ι H (upto a n) ((List.range n).map f) := by
    intro n
    induction n with
    | zero => intro a f hf; exact .nil
    | succ n ih =>
      intro a f hf
      rw [List.range_succ_eq_map, List.map_cons, List.map_map]
      refine .cons ?_ (ih (a + 1) (f ∘ Nat.succ) fun i => ?_)
      · rw [hf 0]
        have : a + ((0 : Nat) : Int) = a := by omega
        rw [this]
        exact rv_int
      · show f (i + 1) = _
        rw [hf]
        congr 1
        push_cast
        omega
  exact key n a _ fun i => rfl
theorem s_tupr {p2 pos2 : Pos} (hc : X.calm = true) (hg : L2.Gl X "tuple") (hm : X.mg "tuple" = none) (hg2 : L2.Gl X "range") (hm2 : X.mg "range" = none) (ha : L2.PE X e (rE C W (evE cf ce))) (na : starEach [e] X.env = (false, eval e X.env) :: starEach [] X.env) :
    L2.PE X (.Call (.Name "tuple" p) [.Call (.Name "range" p2) [e] [] pos2] [] pos) (rE C W (evE cf (.tupr ce))) := by
  refine pe_imp (L2.pe_tupRg hc hg hm (L2.prg_1 hg2 hm2 ha na) rfl) fun σ H Q ⟨Z, ι, L, ρ, S, E, h⟩ => ?_
  simp only [evE] at h
  refine seqG S E h fun x L1 ι1 H1 v s1 e1 ex1 rx h1 => ?_
  split at h1
  · rename_i n
    split at h1
    · rename_i hn
      refine ⟨n, rv_unInt rx, ⟨by omega, by omega, by omega, by omega, by omega⟩, fun q hq => h1 ι1 _ (ex_upd hq) (s1.upd hq) _ ?_⟩
      have e0 : (n - 0).toNat = n.toNat := by congr 1; omega
      unfold L2.rgV
      rw [e0]
      exact rv_tupNew s1 hq (upto_rg 0 n.toNat)
    · exact False.elim h1
  · exact False.elim h1
theorem f_lis {x : Str} (hx : x = "list") (hK : X.K = C.K) (hg : L2.Gl X x) (hm : X.mg x = none) (ha : L2.PE X e (rE C W (evE cf ce))) (he : starEach [e] X.env = (false, eval e X.env) :: starEach [] X.env) :
    L2.PE X (.Call (.Name x p) [e] [] pos) (rF C W (evF cf (.lis ce))) := by
  subst hx
  refine pe_imp (L2.pe_callTy L2.call_list_of hg hm (by decide +kernel) (L2.pa_cons ha L2.pa_nil he) (by decide) (by decide) he rfl) fun σ H Q h => ?_
  obtain ⟨Z, ι, L, ρ, S, E, h⟩ := rF_un h
  simp only [evF] at h
  refine seqF S E h fun x L1 ι1 H1 v s1 e1 ex1 rx h1 => ?_
  cases e : seqOf L1 x with
  | none => rw [e] at h1; exact False.elim h1
  | some ds =>
    rw [e] at h1
    obtain ⟨a, xs, rfl, rd, rs⟩ := seqOf_rv s1 e rx
    exact ⟨a, xs, rfl, by rw [hK]; exact rd, h1.new s1 rs⟩
end

/-! ### subscripts -/
section
variable {a b : Expr} {ca cb : E}
def rIxC (C : Cfg) : L2.R2 := fun v w H Q => ∃ Z ι L x y d, SO C Z ι H L ∧ RV C Z ι H x v ∧ RV C Z ι H y w ∧ ixV L x y = some d ∧ ∀ v', RV C Z ι H d v' → Q v' H
theorem ixr_C (hK : X.K = C.K) : L2.IxR X (rIxC C) := fun value slice pins s σ H v w u u' Q I r1 r2 ⟨Z, ι, L, x, y, d, S, rx, ry, hd, q⟩ hs => L2.ix_seq value slice pins s σ H v w u u' Q I r1 r2 (ix_sound hK I S hd rx ry q) hs
theorem s_ix (hK : X.K = C.K) (hs : L2.PlainIx b) (ha : L2.PE X a (rE C W (evE cf ca))) (hb : L2.PE X b (rE C W (evE cf cb))) : L2.PE X (.Subscript a b pos) (rE C W (evE cf (.ix ca cb))) :=
  pe_imp (L2.pe_ix (ixr_C hK) ha hb hs) fun σ H Q ⟨Z, ι, L, ρ, S, E, h⟩ => by
    simp only [evE] at h
    refine seqG S E h fun x L1 ι1 H1 v s1 e1 ex1 rx h1 => seqG s1 e1 h1 fun y L2 ι2 H2 w s2 e2 ex2 ry h2 => ?_
    obtain ⟨d, hd, q⟩ := h2.look s2
    exact ⟨Z, ι2, L2, x, y, d, s2, RV.mono ex2 _ _ rx, ry, hd, q⟩
theorem s_dget (hu : X.A.units + 65 < cLine) (hs : L2.NoSl b) (ha : L2.PE X a (rE C W (evE cf ca))) (hb : L2.PE X b (rE C W (evE cf cb))) : L2.PE X (.Subscript a b pos) (rE C W (evE cf (.dget ca cb))) :=
  pe_imp (L2.pe_dget (by omega) ha hb hs) fun σ H Q ⟨Z, ι, L, ρ, S, E, h⟩ => by
    simp only [evE] at h
    refine seqG S E h fun x L1 ι1 H1 v s1 e1 ex1 rx h1 => seqG s1 e1 h1 fun y L2 ι2 H2 w s2 e2 ex2 ry h2 => ?_
    obtain ⟨d, hd, q⟩ := h2.look s2
    cases e : dictGet L2 x y with
    | none => rw [e] at hd; cases hd
    | some o =>
      rw [e] at hd
      have : o = some d := hd
      subst this
      obtain ⟨a, r, rfl, g, o2⟩ := dictGet_rv s2 e (RV.mono ex2 _ _ rx) ry
      cases r with
      | none => exact False.elim o2
      | some v' => exact ⟨a, v', rfl, g, q v' o2⟩
end

/-! ### methods -/
section
variable {o e : Expr} {es : List Expr} {co : E} {ces : Es} {apos : Pos}
def meNm : Me → Str
  | .split => "split"
  | .join => "join"
  | .index => "index"
  | .append => "append"
  | .count => "count"
  | .startswith => "startswith"
  | .endswith => "endswith"
def meTy : Me → String
  | .append => "list"
  | _ => "str"
def rMe (C : Cfg) (m : Me) : L2.V → List L2.V → L2.Hp → L2.VK → Prop := fun v vs H Q => ∃ Z ι L x xs d, SO C Z ι H L ∧ RV C Z ι H x v ∧ RVs C Z ι H xs vs ∧ meV L m x xs = some d ∧ ∀ v' H', L2.Same H H' → RV C Z ι H' d v' → Q v' H'
theorem mt_me (hK : X.K = C.K) (m : Me) : L2.MtR X (meId m) (rMe C m) := fun pins s σ H v vs u us Q I r0 r1 ⟨Z, ι, L, x, xs, d, S, rx, rs, hd, q⟩ => me_sound hK I S hd rx rs r0 r1 q
theorem recv_ty {Z : Addr → Prop} {ι : List Addr} {H : L2.Hp} {L : Store} {m : Me} {x : D} {v : L2.V} (S : SO C Z ι H L) (h : recv m x L = true) (r : RV C Z ι H x v) : L2.tyV C.K (meTy m) v H := by
  unfold recv at h
  split at h
  · rename_i k
    split at h
    · rename_i ds e
      unfold RV at r
      obtain ⟨a, ea, rfl⟩ := r
      obtain ⟨xs, q, _⟩ := S.at_ e ea
      unfold L2.tyV meTy
      exact .inl ⟨rfl, xs, .inl (.inl q)⟩
    · cases h
  · cases h
  · rename_i m' x' _ hm
    obtain ⟨rfl, _⟩ := rv_unStr r
    cases m <;> first | rfl | exact absurd rfl hm
  · cases h
theorem plain_meTy : ∀ m : Me, PlainAttrs (meTy m)
  | .append => F.plainAttrs_list
  | .split => F.plainAttrs_str
  | .join => F.plainAttrs_str
  | .index => F.plainAttrs_str
  | .count => F.plainAttrs_str
  | .startswith => F.plainAttrs_str
  | .endswith => F.plainAttrs_str
theorem slot_me : ∀ m : Me, Slot (meTy m) (meNm m) (meId m)
  | .append => F.slot_list_append
  | .split => F.slot_str_split
  | .join => F.slot_str_join
  | .index => F.slot_str_index
  | .count => F.slot_str_count
  | .startswith => F.slot_str_startswith
  | .endswith => F.slot_str_endswith
theorem type_me : ∀ m : Me, typeOf (.builtin (meId m)) = pure (.type "method_descriptor")
  | .append => F.type_list_append
  | .split => F.type_str_split
  | .join => F.type_str_join
  | .index => F.type_str_index
  | .count => F.type_str_count
  | .startswith => F.type_str_startswith
  | .endswith => F.type_str_endswith
theorem s_meth {m : Me} {x : Str} (hx : x = meNm m) (hm : m ≠ .append) (hK : X.K = C.K) (ho : L2.PE X o (rE C W (evE cf co))) (ha : L2.PA X (e :: es) (rA C W (evEs cf ces)))
    (hbase : attributeBase o x X.env (eval o X.env) = eval o X.env)
    (hfew : ((backTo pos (starEach (e :: es) X.env)).all (fun x => !x.1) && (backToKw pos (keywordEach [] X.env)).all (fun x => x.1.isSome)
      && decide ((e :: es).length + ([] : List Keyword).length + (if ([] : List Keyword).isEmpty then 0 else 1) < 30)) = true)
    (hline : (apos.endLine == pos.line) = true) (hs : starEach (e :: es) X.env = (false, eval e X.env) :: starEach es X.env) (hplain : (backTo pos (starEach es X.env)).any (·.1) = false) :
    L2.PE X (.Call (.Attribute o x apos) (e :: es) [] pos) (rE C W (evE cf (.meth m co ces))) := by
  subst hx
  refine pe_imp (L2.pe_bm (plain_meTy m) (slot_me m) (type_me m) (mt_me hK m) ho ha hbase hfew hline hs hplain) fun σ H Q ⟨Z, ι, L, ρ, S, E, h⟩ => ?_
  simp only [evE] at h
  refine seqG S E h fun x L1 ι1 H1 v s1 e1 ex1 rx h1 => ?_
  split at h1
  · rename_i hr
    refine ⟨by rw [hK]; exact recv_ty s1 hr rx, seqG s1 e1 h1 fun xs L2 ι2 H2 vs s2 e2 ex2 rs h2 => ?_⟩
    split at h2
    · exact absurd rfl hm
    · obtain ⟨d, hd, q⟩ := h2.look2
      exact ⟨Z, ι2, L2, x, xs, d, s2, RV.mono ex2 _ _ rx, rs, hd, fun v' H' sm r => q ι2 H' (ex_same sm) (s2.same sm) v' r⟩
  · exact False.elim h1
/-- o.append(e) -/
theorem s_append {x : Str} (hx : x = "append") (hK : X.K = C.K) (ho : L2.PE X o (rE C W (evE cf co))) (ha : L2.PA X [e] (rA C W (evEs cf ces)))
    (hbase : attributeBase o x X.env (eval o X.env) = eval o X.env)
    (hfew : ((backTo pos (starEach [e] X.env)).all (fun x => !x.1) && (backToKw pos (keywordEach [] X.env)).all (fun x => x.1.isSome)
      && decide (([e] : List Expr).length + ([] : List Keyword).length + (if ([] : List Keyword).isEmpty then 0 else 1) < 30)) = true)
    (hline : (apos.endLine == pos.line) = true) (hs : starEach [e] X.env = (false, eval e X.env) :: starEach [] X.env) :
    L2.PE X (.Call (.Attribute o x apos) [e] [] pos) (rE C W (evE cf (.meth .append co ces))) := by
  subst hx
  refine pe_imp (L2.pe_bm F.plainAttrs_list F.slot_list_append F.type_list_append L2.mt_append ho ha hbase hfew hline hs rfl) fun σ H Q ⟨Z, ι, L, ρ, S, E, h⟩ => ?_
  simp only [evE] at h
  refine seqG S E h fun x L1 ι1 H1 v s1 e1 ex1 rx h1 => ?_
  split at h1
  · rename_i hr
    refine ⟨by rw [hK]; exact recv_ty (m := .append) s1 hr rx, seqG s1 e1 h1 fun xs L2 ι2 H2 vs s2 e2 ex2 rs h2 => ?_⟩
    have rx2 := RV.mono ex2 _ _ rx
    split at h2
    · rename_i k y hz
      cases e : L2[k]? with
      | none => rw [e] at h2; exact False.elim h2
      | some o =>
        rw [e] at h2
        cases o with
        | dK _ => exact False.elim h2
        | dT _ => exact False.elim h2
        | lst ds =>
          simp only at h2
          split at h2
          · rename_i hlt
            unfold RV at rx2
            obtain ⟨a, ea, rfl⟩ := rx2
            obtain ⟨ys, hq, rq⟩ := s2.at_ e ea
            obtain ⟨w, r, rfl, r1, r2⟩ := rs.uncons
            have er : r = [] := by unfold RVs at r2; exact r2
            subst er
            have xx := ex_set (H := H2) (u := .lst (ys ++ [w])) (List.mem_of_getElem? ea)
            refine ⟨a, ys, w, rfl, rfl, hq, by rw [← rq.length, ← big_eq]; exact hlt, h2 ι2 _ xx (s2.set ea ⟨ys ++ [w], _root_.L2.upd_same, RVs.mono xx _ _ (rq.append (.cons r1 .nil))⟩) _ rv_non⟩
          · exact False.elim h2
    · obtain ⟨d, hd, _⟩ := h2.look2
      simp [meV] at hd
  · exact False.elim h1
end
end
end EV
end

section
set_option autoImplicit false
/-! The evaluator's word: what is walked, targets, comprehensions. -/
namespace EV
open PySem PySem.Spec PyProof.Rows

section
variable {C : Cfg} {Z Z' : Addr → Prop} {ι ι' : List Addr} {H H' : L2.Hp} {L L' : Store}
def ZOk (Z : Addr → Prop) (H : L2.Hp) (Z' : Addr → Prop) : Prop := ∀ a, Z' a → Z a ∨ H a = none
mutual
theorem RV.addz (hz : ZOk Z H Z') : ∀ (d : D) (v : L2.V), RV C Z ι H d v → RV C Z' ι H d v
  | .non, _, r => by simpa [RV] using r
  | .bl _, _, r => by simpa [RV] using r
  | .int _, _, r => by simpa [RV] using r
  | .str _, _, r => by simpa [RV] using r
  | .fn _, _, r => by simpa [RV] using r
  | .obj _, _, r => by simpa [RV] using r
  | .tup ds, v, r => by
    unfold RV at r ⊢
    obtain ⟨a, xs, e, t, n, q⟩ := r
    exact ⟨a, xs, e, t, n, RVs.addz hz ds xs q⟩
  | .ktup ds, v, r => by
    unfold RV at r ⊢
    obtain ⟨a, xs, e, t, q⟩ := r
    exact ⟨a, xs, e, t, RVs.addz hz ds xs q⟩
  | .lst ds, v, r => by
    unfold RV at r ⊢
    obtain ⟨a, xs, e, t, z, n, q⟩ := r
    refine ⟨a, xs, e, t, fun y => ?_, n, RVs.addz hz ds xs q⟩
    rcases hz a y with y | y
    · exact z y
    · rcases t with t | ⟨o, t⟩ <;> (rw [y] at t; cases t)
  | .exn c d, v, r => by
    unfold RV at r ⊢
    obtain ⟨a, dx, y, e, q, hd, n, r⟩ := r
    exact ⟨a, dx, y, e, q, hd, n, RV.addz hz d y r⟩
theorem RVs.addz (hz : ZOk Z H Z') : ∀ (ds : List D) (vs : List L2.V), RVs C Z ι H ds vs → RVs C Z' ι H ds vs
  | [], _, r => by simpa [RVs] using r
  | d :: ds, vs, r => by
    obtain ⟨v, w, rfl, r1, r2⟩ := r.uncons
    exact .cons (RV.addz hz d v r1) (RVs.addz hz ds w r2)
end
theorem ER.addz (hz : ZOk Z H Z') {ρ : Env} {σ : L2.St} (h : ER C Z ι H ρ σ) : ER C Z' ι H ρ σ :=
  ⟨h.len, fun i d e => let ⟨v, q, r⟩ := h.get i d e; ⟨v, q, RV.addz hz _ _ r⟩⟩
mutual
/-- what stands at an address that must not be met is changed -/
theorem RV.updz {p : Addr} {xs : List L2.V} {u : L2.HO} (hp : Z p) (hx : H p = some (.lst xs)) : ∀ (d : D) (v : L2.V), RV C Z ι H d v → RV C Z ι (L2.upd H p u) d v
  | .non, _, r => by simpa [RV] using r
  | .bl _, _, r => by simpa [RV] using r
  | .int _, _, r => by simpa [RV] using r
  | .str _, _, r => by simpa [RV] using r
  | .fn _, _, r => by simpa [RV] using r
  | .obj _, _, r => by simpa [RV] using r
  | .tup ds, v, r => by
    unfold RV at r ⊢
    obtain ⟨a, ys, e, t, n, q⟩ := r
    have ne : a ≠ p := fun z => by rw [z, hx] at t; cases t
    exact ⟨a, ys, e, by rw [L2.upd_ne ne]; exact t, n, RVs.updz hp hx ds ys q⟩
  | .ktup ds, v, r => by
    unfold RV at r ⊢
    obtain ⟨a, ys, e, t, q⟩ := r
    exact ⟨a, ys, e, t, RVs.updz hp hx ds ys q⟩
  | .lst ds, v, r => by
    unfold RV at r ⊢
    obtain ⟨a, ys, e, t, z, n, q⟩ := r
    have ne : a ≠ p := fun y => z (y ▸ hp)
    refine ⟨a, ys, e, ?_, z, n, RVs.updz hp hx ds ys q⟩
    unfold L2.Rd
    rw [L2.upd_ne ne]
    exact t
  | .exn c d, v, r => by
    unfold RV at r ⊢
    obtain ⟨a, dx, y, e, q, hd, n, r⟩ := r
    have ne : dx ≠ p := fun z => by rw [z, hx] at hd; cases hd
    exact ⟨a, dx, y, e, q, by rw [L2.upd_ne ne]; exact hd, n, RV.updz hp hx d y r⟩
theorem RVs.updz {p : Addr} {xs : List L2.V} {u : L2.HO} (hp : Z p) (hx : H p = some (.lst xs)) : ∀ (ds : List D) (vs : List L2.V), RVs C Z ι H ds vs → RVs C Z ι (L2.upd H p u) ds vs
  | [], _, r => by simpa [RVs] using r
  | d :: ds, vs, r => by
    obtain ⟨v, w, rfl, r1, r2⟩ := r.uncons
    exact .cons (RV.updz hp hx d v r1) (RVs.updz hp hx ds w r2)
end
theorem KR.updz {κ : Type} {p : Addr} {xs : List L2.V} {u : L2.HO} (hp : Z p) (hx : H p = some (.lst xs)) : ∀ {kvs : List (κ × D)} {kv : List (κ × L2.V)}, KR C Z ι H kvs kv → KR C Z ι (L2.upd H p u) kvs kv
  | [], _, r => r
  | q :: r, kv, x => by
    obtain ⟨q, s, e, k, h1, h2⟩ := x
    exact ⟨q, s, e, k, RV.updz hp hx _ _ h1, KR.updz hp hx h2⟩
theorem SO.updz (s : SO C Z ι H L) {p : Addr} {xs : List L2.V} {u : L2.HO} (hp : Z p) (hx : H p = some (.lst xs)) (hn : p ∉ ι) : SO C Z ι (L2.upd H p u) L :=
  ⟨s.len, s.nd, fun k o e => by
    obtain ⟨a, q, r⟩ := s.obj k o e
    have ne : a ≠ p := fun z => hn (z ▸ List.mem_of_getElem? q)
    refine ⟨a, q, ?_⟩
    cases o with
    | lst ds => obtain ⟨ys, q1, q2⟩ := r; exact ⟨ys, by rw [L2.upd_ne ne]; exact q1, RVs.updz hp hx _ _ q2⟩
    | dK ds => obtain ⟨ys, q1, q2⟩ := r; exact ⟨ys, by rw [L2.upd_ne ne]; exact q1, KR.updz hp hx q2⟩
    | dT ds => obtain ⟨ys, q1, q2⟩ := r; exact ⟨ys, by rw [L2.upd_ne ne]; exact q1, KR.updz hp hx q2⟩, fun a z q => by
    by_cases e : a = p
    · rw [e, L2.upd_same] at q; cases q
    · rw [L2.upd_ne e] at q; exact s.zh a z q⟩
theorem ex_updN {p : Addr} {u : L2.HO} (x : Ex ι H ι' H') (h : H p = none) : Ex ι H ι' (L2.upd H' p u) :=
  ⟨x.pre, x.new, fun a o e n => by rw [L2.upd_ne (L2.ne_of_none e h)]; exact x.old a o e n⟩

/-! ### what is walked -/
/-- J yields the items of w -/
def Wks (C : Cfg) (J : L2.It) (w : Wk) (Z : Addr → Prop) (ι : List Addr) (H : L2.Hp) : Prop :=
  ∀ (Z' : Addr → Prop) (i : Nat) (ι' : List Addr) (H' : L2.Hp) (L' : Store) (ds : List D), ZOk Z H Z' → Ex ι H ι' H' → SO C Z' ι' H' L' → items w L' = some ds →
    (∀ d, ds[i]? = some d → J.go i H' ∧ ∀ x H'', J.yld i H' x H'' → L2.Same H' H'' ∧ RV C Z' ι' H'' d x) ∧ (ds[i]? = none → J.stop i H')
theorem wks_list {a : Addr} {xs : List L2.V} {ds : List D} (h : L2.Rd H a (.lst xs)) (n : a ∉ ι) (r : RVs C Z ι H ds xs) : Wks C (L2.Itl C.K a) (.vals ds) Z ι H := fun Z' i ι' H' L' es hz x s e => by
  have e : ds = es := by simpa [items] using e
  subst e
  have hq := sql_of (K := C.K) (x.rd h n).1
  have r' := RVs.mono x _ _ (RVs.addz hz _ _ r)
  refine ⟨fun d hd => ?_, fun hd => ⟨xs, hq, ?_⟩⟩
  · obtain ⟨v, hv, rv⟩ := r'.get hd
    refine ⟨⟨xs, v, hq, hv⟩, fun y H'' ⟨e1, e2⟩ => ?_⟩
    subst e1
    have := e2 xs hq
    rw [hv] at this
    cases this
    exact ⟨L2.Same.refl _, rv⟩
  · have := List.getElem?_eq_none_iff.mp hd
    rw [← r.length]; exact this
theorem wks_tup {a : Addr} {xs : List L2.V} {ds : List D} (h : ∀ ι' H', Ex ι H ι' H' → L2.SqT C.K H' a xs) (r : RVs C Z ι H ds xs) : Wks C (L2.Itt C.K a) (.vals ds) Z ι H := fun Z' i ι' H' L' es hz x s e => by
  have e : ds = es := by simpa [items] using e
  subst e
  have hq := h ι' H' x
  have r' := RVs.mono x _ _ (RVs.addz hz _ _ r)
  refine ⟨fun d hd => ?_, fun hd => ⟨xs, hq, ?_⟩⟩
  · obtain ⟨v, hv, rv⟩ := r'.get hd
    refine ⟨⟨xs, v, hq, hv⟩, fun y H'' ⟨e1, e2⟩ => ?_⟩
    subst e1
    have := e2 xs hq
    rw [hv] at this
    cases this
    exact ⟨L2.Same.refl _, rv⟩
  · have := List.getElem?_eq_none_iff.mp hd
    rw [← r.length]; exact this
theorem wks_obj {a : Addr} {k : Nat} (h : ι[k]? = some a) : Wks C (L2.Itl C.K a) (.obj k) Z ι H := fun Z' i ι' H' L' es hz x s e => by
  have e : listOf L' (.obj k) = some es := e
  have h' := x.pre k a h
  obtain ⟨b, xs, eb, rd, r⟩ := listOf_rv s e (v := .ref a) (by unfold RV; exact ⟨a, h', rfl⟩)
  cases eb
  have hq := sql_of (K := C.K) rd
  refine ⟨fun d hd => ?_, fun hd => ⟨xs, hq, ?_⟩⟩
  · obtain ⟨v, hv, rv⟩ := r.get hd
    refine ⟨⟨xs, v, hq, hv⟩, fun y H'' ⟨e1, e2⟩ => ?_⟩
    subst e1
    have := e2 xs hq
    rw [hv] at this
    cases this
    exact ⟨L2.Same.refl _, rv⟩
  · have := List.getElem?_eq_none_iff.mp hd
    rw [← r.length]; exact this
theorem wks_str {x : List Nat} (h : asc x) : Wks C (L2.Its (SX.S x)) (.vals (signs x)) Z ι H := fun Z' i ι' H' L' es hz ex s e => by
  have e : signs x = es := by simpa [items] using e
  subst e
  have sz : (SX.S x).cps.size = x.length := by simp [SX.S]
  refine ⟨fun d hd => ?_, fun hd => ?_⟩
  · unfold signs at hd
    rw [List.getElem?_map] at hd
    cases q : x[i]? with
    | none => rw [q] at hd; cases hd
    | some c =>
      rw [q] at hd
      cases hd
      have lt := (List.getElem?_eq_some_iff.mp q).1
      refine ⟨by show i < _; rw [sz]; exact lt, fun y H'' ⟨e1, c', hc, e2⟩ => ?_⟩
      subst e1
      subst e2
      have hc' : x[i]? = some c' := by simpa [SX.S] using hc
      rw [q] at hc'
      cases hc'
      refine ⟨L2.Same.refl _, ?_⟩
      exact rv_str (x := [c]) fun b m => by
        have : b = c := by simpa using m
        subst this
        exact h b (List.mem_of_getElem? q)
  · show (SX.S x).cps.size ≤ i
    rw [sz]
    unfold signs at hd
    have := List.getElem?_eq_none_iff.mp hd
    simpa using this
theorem upto_get (lo : Int) : ∀ (n i : Nat), (upto lo n)[i]? = if i < n then some (.int (lo + (i : Nat))) else none := by
  intro n
  induction n generalizing lo with
  | zero => intro i; simp [upto]
  | succ n ih =>
    intro i
    cases i with
    | zero => simp [upto]
    | succ i =>
      show (upto (lo + 1) n)[i]? = _
      rw [ih]
      by_cases h : i < n
      · rw [if_pos h, if_pos (by omega)]
        congr 2
        push_cast
        omega
      · rw [if_neg h, if_neg (by omega)]
theorem wks_range {lo : Int} {n : Nat} : Wks C (L2.Itr lo n) (.vals (upto lo n)) Z ι H := fun Z' i ι' H' L' es hz x s e => by
  have e : upto lo n = es := by simpa [items] using e
  subst e
  rw [upto_get]
  refine ⟨fun d hd => ?_, fun hd => ?_⟩
  · split at hd
    · rename_i h
      cases hd
      refine ⟨h, fun y H'' ⟨e1, e2⟩ => ?_⟩
      subst e1
      subst e2
      exact ⟨L2.Same.refl _, rv_int⟩
    · cases hd
  · split at hd
    · cases hd
    · rename_i h
      exact Nat.le_of_not_lt h
theorem numbered_get (lo : Int) : ∀ (ds : List D) (i : Nat), (numbered lo ds)[i]? = (ds[i]?).map fun d => .tup [.int (lo + (i : Nat)), d] := by
  intro ds
  induction ds generalizing lo with
  | nil => intro i; simp [numbered]
  | cons d ds ih =>
    intro i
    cases i with
    | zero => simp [numbered]
    | succ i =>
      show (numbered (lo + 1) ds)[i]? = _
      rw [ih]
      show _ = (ds[i]?).map _
      congr 1
      funext d
      congr 3
      push_cast
      omega
theorem wks_enum {a : Addr} {xs : List L2.V} {ds : List D} (h : L2.Rd H a (.lst xs)) (n : a ∉ ι) (r : RVs C Z ι H ds xs) : Wks C (L2.Ite C.K a) (.vals (numbered 0 ds)) Z ι H := fun Z' i ι' H' L' es hz x s e => by
  have e : numbered 0 ds = es := by simpa [items] using e
  subst e
  have hq := sql_of (K := C.K) (x.rd h n).1
  have r' := RVs.mono x _ _ (RVs.addz hz _ _ r)
  rw [numbered_get]
  refine ⟨fun d hd => ?_, fun hd => ⟨xs, hq, ?_⟩⟩
  · cases q : ds[i]? with
    | none => rw [q] at hd; cases hd
    | some d0 =>
      rw [q] at hd
      cases hd
      obtain ⟨v, hv, rv⟩ := r'.get q
      refine ⟨⟨xs, v, hq, hv⟩, fun y H'' ⟨T, z, e1, hT, e2, e3⟩ => ?_⟩
      subst e1
      subst e2
      have := e3 xs hq
      rw [hv] at this
      cases this
      refine ⟨same_upd hT, rv_tupNew s hT ?_⟩
      have : (0 : Int) + (i : Nat) = (i : Nat) := by omega
      rw [this]
      exact .cons rv_int (.cons rv .nil)
  · cases q : ds[i]? with
    | none =>
      have := List.getElem?_eq_none_iff.mp q
      rw [← r.length]; exact this
    | some d0 => rw [q] at hd; cases hd
theorem zipD_get : ∀ (as bs : List D) (i : Nat), (zipD as bs)[i]? = match as[i]?, bs[i]? with
    | some a, some b => some (.tup [a, b])
    | _, _ => none := by
  intro as
  induction as with
  | nil => intro bs i; simp [zipD]
  | cons a as ih =>
    intro bs i
    cases bs with
    | nil => simp only [zipD]; cases (a :: as)[i]? <;> simp
    | cons b bs => cases i with
      | zero => simp [zipD]
      | succ i => simpa [zipD] using ih bs i
theorem wks_zip {a b : Addr} {xs ys : List L2.V} {ds es : List D} (h : L2.Rd H a (.lst xs)) (n : a ∉ ι) (r : RVs C Z ι H ds xs) (h2 : L2.Rd H b (.lst ys)) (n2 : b ∉ ι) (r2 : RVs C Z ι H es ys) :
    Wks C (L2.Itz C.K a b) (.vals (zipD ds es)) Z ι H := fun Z' i ι' H' L' fs hz x s e => by
  have e : zipD ds es = fs := by simpa [items] using e
  subst e
  have hq := sql_of (K := C.K) (x.rd h n).1
  have hq2 := sql_of (K := C.K) (x.rd h2 n2).1
  have r' := RVs.mono x _ _ (RVs.addz hz _ _ r)
  have r2' := RVs.mono x _ _ (RVs.addz hz _ _ r2)
  rw [zipD_get]
  refine ⟨fun d hd => ?_, fun hd => ⟨xs, ys, hq, hq2, ?_⟩⟩
  · cases q : ds[i]? with
    | none => rw [q] at hd; cases hd
    | some d0 => cases q2 : es[i]? with
      | none => rw [q, q2] at hd; cases hd
      | some d1 =>
        rw [q, q2] at hd
        cases hd
        obtain ⟨v, hv, rv⟩ := r'.get q
        obtain ⟨v2, hv2, rv2⟩ := r2'.get q2
        refine ⟨⟨xs, ys, v, v2, hq, hq2, hv, hv2⟩, fun y H'' ⟨T, z, z2, e1, hT, e2, e3, e4⟩ => ?_⟩
        subst e1
        subst e2
        have := e3 xs hq
        rw [hv] at this
        cases this
        have := e4 ys hq2
        rw [hv2] at this
        cases this
        exact ⟨same_upd hT, rv_tupNew s hT (.cons rv (.cons rv2 .nil))⟩
  · cases q : ds[i]? with
    | none => left; have := List.getElem?_eq_none_iff.mp q; rw [← r.length]; exact this
    | some d0 => cases q2 : es[i]? with
      | none => right; have := List.getElem?_eq_none_iff.mp q2; rw [← r2.length]; exact this
      | some d1 => rw [q, q2] at hd; cases hd
theorem wks_zipT {a b : Addr} {xs ys : List L2.V} {ds es : List D} (h : ∀ ι' H', Ex ι H ι' H' → L2.SqT C.K H' a xs) (r : RVs C Z ι H ds xs) (h2 : ∀ ι' H', Ex ι H ι' H' → L2.SqT C.K H' b ys) (r2 : RVs C Z ι H es ys) :
    Wks C (RZ.ItzT C.K a b) (.vals (zipD ds es)) Z ι H := fun Z' i ι' H' L' fs hz x s e => by
  have e : zipD ds es = fs := by simpa [items] using e
  subst e
  have hq := h ι' H' x
  have hq2 := h2 ι' H' x
  have r' := RVs.mono x _ _ (RVs.addz hz _ _ r)
  have r2' := RVs.mono x _ _ (RVs.addz hz _ _ r2)
  rw [zipD_get]
  refine ⟨fun d hd => ?_, fun hd => ⟨xs, ys, hq, hq2, ?_⟩⟩
  · cases q : ds[i]? with
    | none => rw [q] at hd; cases hd
    | some d0 => cases q2 : es[i]? with
      | none => rw [q, q2] at hd; cases hd
      | some d1 =>
        rw [q, q2] at hd
        cases hd
        obtain ⟨v, hv, rv⟩ := r'.get q
        obtain ⟨v2, hv2, rv2⟩ := r2'.get q2
        refine ⟨⟨xs, ys, v, v2, hq, hq2, hv, hv2⟩, fun y H'' ⟨T, z, z2, e1, hT, e2, e3, e4⟩ => ?_⟩
        subst e1
        subst e2
        have := e3 xs hq
        rw [hv] at this
        cases this
        have := e4 ys hq2
        rw [hv2] at this
        cases this
        exact ⟨same_upd hT, rv_tupNew s hT (.cons rv (.cons rv2 .nil))⟩
  · cases q : ds[i]? with
    | none => left; have := List.getElem?_eq_none_iff.mp q; rw [← r.length]; exact this
    | some d0 => cases q2 : es[i]? with
      | none => right; have := List.getElem?_eq_none_iff.mp q2; rw [← r2.length]; exact this
      | some d1 => rw [q, q2] at hd; cases hd
theorem tupOf_rv {x : D} {ds : List D} {v : L2.V} (h : tupOf x = some ds) (r : RV C Z ι H x v) : ∃ a xs, v = .ref a ∧ (∀ ι' H', Ex ι H ι' H' → L2.SqT C.K H' a xs) ∧ RVs C Z ι H ds xs := by
  cases x <;> simp only [tupOf] at h <;> try cases h
  · unfold RV at r
    obtain ⟨a, xs, e, t, n, q⟩ := r
    exact ⟨a, xs, e, fun ι' H' x => .inl (.inl (x.old _ _ t n)), q⟩
  · unfold RV at r
    obtain ⟨a, xs, e, t, q⟩ := r
    obtain ⟨o, its, n, h1, h2, h3, h4, h5⟩ := t
    exact ⟨a, xs, e, fun ι' H' x => .inr ⟨o, its, n, h1, h2, h3, h4, h5⟩, q⟩
end

def rI (C : Cfg) (W : L2.WX) (m : Env → M Wk) : L2.TI := fun σ H R => rG C W m (fun Z ι H w J => Wks C J w Z ι H) σ H R
section
variable {X : L2.Cx} {C : Cfg} {cf : Nat → List D → M D} {W : L2.WX} {pos : Pos} {tg : Expr}
theorem pi_imp {it : Expr} {t t' : L2.TI} (h : L2.PI X tg it t) (k : ∀ σ H R, t' σ H R → t σ H R) : L2.PI X tg it t' := ⟨fun pins s σ H R I w => h.run pins s σ H R I (k σ H R w)⟩
def iAny (K : PySem.W.Frag) (tl : L2.TE) : L2.TI := fun σ H R => tl σ H fun x H1 => (∃ a, x = .ref a ∧ (∃ xs, L2.SqL K H1 a xs) ∧ R (L2.Itl K a) H1) ∨ (∃ a, x = .ref a ∧ (∃ xs, L2.SqT K H1 a xs) ∧ R (L2.Itt K a) H1) ∨ ∃ z, x = .str z ∧ R (L2.Its z) H1
theorem pi_any {l : Expr} {tl : L2.TE} (hl : L2.PE X l tl) : L2.PI X tg l (iAny X.K tl) := by
  refine ⟨fun pins s σ H R I h => ?_⟩
  refine L2.thn (hl.run pins s σ H _ I h) fun v s1 ⟨x, H1, I1, r1, q1⟩ => ?_
  rcases q1 with ⟨a, e, ⟨xs, hq⟩, q⟩ | ⟨a, e, ⟨xs, hq⟩, q⟩ | ⟨z, e, q⟩
  · subst e
    cases r1
    obtain ⟨its, rv, p, hz⟩ := I1.list hq
    refine wpAny_pyIter_list p.isList ?_
    refine ⟨s1.heap.objs.size, [s1.heap.objs.size], _, _, H1, rfl, I1.kept (t' := s1.toks) fun b o e => Heap.get?_push_of_some _ e, L2.turn_list a _, ⟨_, Heap.get?_push_size _ rfl, rfl, rfl⟩, fun b hb => ?_, q⟩
    have e : b = s1.heap.objs.size := by simpa using hb
    subst e
    exact I1.fpOk (Nat.le_refl _) (I1.hok.fresh (Nat.le_refl _))
  · subst e
    cases r1
    obtain ⟨its, rv, p, hz⟩ := I1.tuple hq
    refine wpAny_pyIter_tuple (show s1.heap.IsTuple a its.toArray from p) ?_
    refine ⟨s1.heap.objs.size, [s1.heap.objs.size], _, _, H1, rfl, I1.kept (t' := s1.toks) fun b o e => Heap.get?_push_of_some _ e, L2.turn_tuple a _, ⟨_, Heap.get?_push_size _ rfl, rfl, rfl⟩, fun b hb => ?_, q⟩
    have e : b = s1.heap.objs.size := by simpa using hb
    subst e
    exact I1.fpOk (Nat.le_refl _) (I1.hok.fresh (Nat.le_refl _))
  · subst e
    obtain ⟨t, rfl⟩ := r1
    cases ha : z.cps.all (· < 128)
    · exact wpAny_pyIter_wide ha (L2.pi_one (tk := s1.toks) I1 _ (L2.turn_str _ z t "str_iterator" (.inr rfl)) ⟨_, Heap.get?_push_size _ rfl, rfl, rfl⟩ q)
    · exact wpAny_pyIter_ascii ha (L2.pi_one (tk := s1.toks) I1 _ (L2.turn_str _ z t "str_ascii_iterator" (.inl rfl)) ⟨_, Heap.get?_push_size _ rfl, rfl, rfl⟩ q)
theorem i_val {e : Expr} {ce : E} (hK : X.K = C.K) (h : L2.PE X e (rE C W (evE cf ce))) : L2.PI X tg e (rI C W (evI cf (.val ce))) := by
  refine pi_imp (pi_any h) fun σ H R ⟨Z, ι, L, ρ, S, E, h⟩ => ?_
  simp only [evI] at h
  rw [hK]
  refine seqG S E h fun x L1 ι1 H1 v s1 e1 ex1 rx h1 => ?_
  split at h1
  · unfold RV at rx
    obtain ⟨a, xs, e, t, z, n, q⟩ := rx
    exact .inl ⟨a, e, ⟨xs, sql_of t⟩, h1.ok s1 _ (wks_list t n q)⟩
  · obtain ⟨a, xs, e, t, q⟩ := tupOf_rv (ds := _) rfl rx
    exact .inr (.inl ⟨a, e, ⟨xs, t _ _ .refl⟩, h1.ok s1 _ (wks_tup t q)⟩)
  · obtain ⟨a, xs, e, t, q⟩ := tupOf_rv (ds := _) rfl rx
    exact .inr (.inl ⟨a, e, ⟨xs, t _ _ .refl⟩, h1.ok s1 _ (wks_tup t q)⟩)
  · obtain ⟨e, a⟩ := rv_unStr rx
    exact .inr (.inr ⟨_, e, h1.ok s1 _ (wks_str a)⟩)
  · rename_i k
    cases e : listOf L1 (.obj k) with
    | none => rw [e] at h1; exact False.elim h1
    | some ds =>
      rw [e] at h1
      obtain ⟨a, xs, ea, rd, r⟩ := listOf_rv s1 e rx
      unfold RV at rx
      obtain ⟨b, eb, ev⟩ := rx
      rw [ev] at ea
      cases ea
      exact .inl ⟨_, ev, ⟨xs, sql_of rd⟩, h1.ok s1 _ (wks_obj eb)⟩
  · exact False.elim h1
section
variable {a b : Expr} {ca cb : E} {p : Pos}
theorem i_range1 (hg : L2.Gl X "range") (hm : X.mg "range" = none) (hs : starEach [a] X.env = (false, eval a X.env) :: starEach [] X.env) (ha : L2.PE X a (rE C W (evE cf ca))) :
    L2.PI X tg (.Call (.Name "range" p) [a] [] pos) (rI C W (evI cf (.range1 ca))) := by
  refine pi_imp (L2.pi_range1 hg hm (L2.pa_cons ha L2.pa_nil hs) hs) fun σ H R ⟨Z, ι, L, ρ, S, E, h⟩ => ?_
  simp only [evI] at h
  refine seqG S E h fun x L1 ι1 H1 v s1 e1 ex1 rx h1 => ?_
  split at h1
  · rename_i n
    split at h1
    · rename_i hn
      exact ⟨n, by rw [rv_unInt rx], hn.2, hn.1, h1.ok s1 _ wks_range⟩
    · exact False.elim h1
  · exact False.elim h1
theorem i_range2 (hg : L2.Gl X "range") (hm : X.mg "range" = none) (hs : starEach [a, b] X.env = (false, eval a X.env) :: starEach [b] X.env) (hs2 : starEach [b] X.env = (false, eval b X.env) :: starEach [] X.env) (ha : L2.PE X a (rE C W (evE cf ca))) (hb : L2.PE X b (rE C W (evE cf cb))) :
    L2.PI X tg (.Call (.Name "range" p) [a, b] [] pos) (rI C W (evI cf (.range2 ca cb))) := by
  refine pi_imp (L2.pi_range2 hg hm (L2.pa_cons ha (L2.pa_cons hb L2.pa_nil hs2) hs) (by rw [hs, hs2]; rfl) hs2) fun σ H R ⟨Z, ι, L, ρ, S, E, h⟩ => ?_
  simp only [evI] at h
  refine seqG S E h fun x L1 ι1 H1 v s1 e1 ex1 rx h1 => seqG s1 e1 h1 fun y L2 ι2 H2 w s2 e2 ex2 ry h2 => ?_
  split at h2
  · rename_i m n
    split at h2
    · rename_i hn
      exact ⟨m, n, by rw [rv_unInt rx, rv_unInt ry], ⟨hn.2.2.2, hn.2.2.1, hn.2.1, hn.1⟩, h2.ok s2 _ wks_range⟩
    · exact False.elim h2
  · exact False.elim h2
theorem i_enum {elts : List Expr} {kk : Nat} {tpos : Pos} (hK : X.K = C.K) (hg : L2.Gl X "enumerate") (hm : X.mg "enumerate" = none) (hs : starEach [a] X.env = (false, eval a X.env) :: starEach [] X.env) (ha : L2.PE X a (rE C W (evE cf ca))) :
    L2.PI X (.Tuple elts kk tpos) (.Call (.Name "enumerate" p) [a] [] pos) (rI C W (evI cf (.enum ca))) := by
  refine pi_imp (L2.pi_enum hg hm (L2.pa_cons ha L2.pa_nil hs) hs) fun σ H R ⟨Z, ι, L, ρ, S, E, h⟩ => ?_
  simp only [evI] at h
  rw [hK]
  refine seqG S E h fun x L1 ι1 H1 v s1 e1 ex1 rx h1 => ?_
  split at h1
  · unfold RV at rx
    obtain ⟨a, xs, e, t, z, n, q⟩ := rx
    exact ⟨a, xs, by rw [e], sql_of t, h1.ok s1 _ (wks_enum t n q)⟩
  · exact False.elim h1
theorem i_zip {elts : List Expr} {kk : Nat} {tpos : Pos} (hK : X.K = C.K) (hg : L2.Gl X "zip") (hm : X.mg "zip" = none) (hs : starEach [a, b] X.env = (false, eval a X.env) :: starEach [b] X.env) (hs2 : starEach [b] X.env = (false, eval b X.env) :: starEach [] X.env) (ha : L2.PE X a (rE C W (evE cf ca))) (hb : L2.PE X b (rE C W (evE cf cb))) :
    L2.PI X (.Tuple elts kk tpos) (.Call (.Name "zip" p) [a, b] [] pos) (rI C W (evI cf (.zip ca cb))) := by
  refine pi_imp (RZ.pi_zipA hg hm (L2.pa_cons ha (L2.pa_cons hb L2.pa_nil hs2) hs) hs (by rw [hs2]; rfl)) fun σ H R ⟨Z, ι, L, ρ, S, E, h⟩ => ?_
  simp only [evI] at h
  rw [hK]
  refine seqG S E h fun x L1 ι1 H1 v s1 e1 ex1 rx h1 => seqG s1 e1 h1 fun y L2 ι2 H2 w s2 e2 ex2 ry h2 => ?_
  have rx2 := RV.mono ex2 _ _ rx
  split at h2
  · unfold RV at rx2 ry
    obtain ⟨a, xs, e, t, z, n, q⟩ := rx2
    obtain ⟨b, ys, e2, t2, z2, n2, q2⟩ := ry
    exact ⟨a, b, xs, ys, by rw [e, e2], .inl ⟨sql_of t, sql_of t2, h2.ok s2 _ (wks_zip t n q t2 n2 q2)⟩⟩
  · cases q1 : tupOf x with
    | none => rw [q1] at h2; exact False.elim h2
    | some ds => cases q2 : tupOf y with
      | none => rw [q1, q2] at h2; exact False.elim h2
      | some es =>
        rw [q1, q2] at h2
        obtain ⟨a, xs, e, t, r⟩ := tupOf_rv q1 rx2
        obtain ⟨b, ys, e2, t2, r2⟩ := tupOf_rv q2 ry
        exact ⟨a, b, xs, ys, by rw [e, e2], .inr ⟨t _ _ .refl, t2 _ _ .refl, h2.ok s2 _ (wks_zipT t r t2 r2)⟩⟩
end
end

/-! ### targets -/
/-- a target's reading -/
def rB (C : Cfg) (t : Tg) : L2.TG := fun v σ H Q => ∃ Z ι L ρ d ρ', SO C Z ι H L ∧ ER C Z ι H ρ σ ∧ RV C Z ι H d v ∧ bindT t d ρ = some ρ' ∧ ∀ σ', ER C Z ι H ρ' σ' → (∀ j, j ∉ tgIx t → σ'[j]? = σ[j]?) → Q σ' H
def rBs (C : Cfg) (t : Tgs) : L2.TGs := fun vs σ H Q => ∃ Z ι L ρ ds ρ', SO C Z ι H L ∧ ER C Z ι H ρ σ ∧ RVs C Z ι H ds vs ∧ bindTs t ds ρ = some ρ' ∧ ∀ σ', ER C Z ι H ρ' σ' → (∀ j, j ∉ tgsIx t → σ'[j]? = σ[j]?) → Q σ' H
section
variable {C : Cfg} {Z : Addr → Prop} {ι : List Addr} {H : L2.Hp} {ρ : Env} {σ : L2.St}
theorem ER.set (h : ER C Z ι H ρ σ) (i : Nat) {d : D} {v : L2.V} (r : RV C Z ι H d v) : ER C Z ι H (ρ.set i (some d)) (σ.set i (some v)) := by
  refine ⟨by rw [List.length_set, List.length_set]; exact h.len, fun j e hj => ?_⟩
  by_cases hij : i = j
  · subst hij
    have hl : i < ρ.length := by
      have := (List.getElem?_eq_some_iff.mp hj).1
      simpa using this
    rw [List.getElem?_set_self hl] at hj
    cases hj
    exact ⟨v, by rw [List.getElem?_set_self (by rw [← h.len]; exact hl)], r⟩
  · rw [List.getElem?_set_ne hij] at hj
    obtain ⟨w, q, r'⟩ := h.get j e hj
    exact ⟨w, by rw [List.getElem?_set_ne hij]; exact q, r'⟩
theorem ER.clear (h : ER C Z ι H ρ σ) (i : Nat) : ER C Z ι H (ρ.set i none) (σ.set i none) := by
  refine ⟨by rw [List.length_set, List.length_set]; exact h.len, fun j e hj => ?_⟩
  by_cases hij : i = j
  · subst hij
    have hl : i < ρ.length := by
      have := (List.getElem?_eq_some_iff.mp hj).1
      simpa using this
    rw [List.getElem?_set_self hl] at hj
    cases hj
  · rw [List.getElem?_set_ne hij] at hj
    obtain ⟨w, q, r'⟩ := h.get j e hj
    exact ⟨w, by rw [List.getElem?_set_ne hij]; exact q, r'⟩
theorem ER.wipe (h : ER C Z ι H ρ σ) : ∀ vs : List Nat, ER C Z ι H (wipeD ρ vs) (L2.wipe σ vs)
  | [] => h
  | v :: vs => (ER.wipe h vs).clear v
end
section
variable {X : L2.Cx} {C : Cfg} {pos : Pos}
theorem pg_imp {e : Expr} {t t' : L2.TG} (h : L2.PG X e t) (k : ∀ v σ H Q, t' v σ H Q → t v σ H Q) : L2.PG X e t' := ⟨fun pins s σ H v u Q I r w => h.run pins s σ H v u Q I r (k v σ H Q w)⟩
theorem pgs_imp {e : List Expr} {t t' : L2.TGs} (h : L2.PGs X e t) (k : ∀ v σ H Q, t' v σ H Q → t v σ H Q) : L2.PGs X e t' := ⟨fun pins s σ H v u Q I r w => h.run pins s σ H v u Q I r (k v σ H Q w)⟩
theorem g_name {i : Nat} {x : Str} (hN : X.N.Nodup) (hi : X.N[i]? = some x) (hx : L2.Loc X.env.scope x) (hf : X.fn x = true ∨ X.env.scope.names.lookup x = some .local) : L2.PG X (.Name x pos) (rB C (.name i)) :=
  pg_imp (L2.pg_name hN hi hx hf) fun v σ H Q ⟨Z, ι, L, ρ, d, ρ', S, E, r, hb, k⟩ => by
    simp only [bindT] at hb
    cases hb
    refine k _ (E.set i r) fun j hj => ?_
    have : i ≠ j := fun z => hj (by simp [tgIx, z])
    rw [List.getElem?_set_ne this]
theorem gs_nil : L2.PGs X [] (rBs C .nil) := pgs_imp L2.pgs_nil fun v σ H Q ⟨Z, ι, L, ρ, d, ρ', S, E, r, hb, k⟩ => by
  cases d with
  | nil =>
    simp only [bindTs] at hb
    cases hb
    unfold RVs at r
    exact ⟨r, k _ E fun j hj => rfl⟩
  | cons _ _ => simp [bindTs] at hb
theorem gs_cons {e : Expr} {es : List Expr} {t : Tg} {ts : Tgs} (hs : (assignEach (e :: es) X.env).map (·.2) = assign e X.env :: (assignEach es X.env).map (·.2)) (h1 : L2.PG X e (rB C t)) (h2 : L2.PGs X es (rBs C ts)) : L2.PGs X (e :: es) (rBs C (.cons t ts)) :=
  pgs_imp (L2.pgs_cons h1 h2 hs) fun v σ H Q ⟨Z, ι, L, ρ, ds, ρ', S, E, r, hb, k⟩ => by
  cases ds with
  | nil => simp [bindTs] at hb
  | cons d ds =>
    simp only [bindTs] at hb
    cases e : bindT t d ρ with
    | none => rw [e] at hb; cases hb
    | some ρ1 =>
      rw [e] at hb
      obtain ⟨w, vs, rfl, r1, r2⟩ := r.uncons
      refine ⟨w, vs, rfl, Z, ι, L, ρ, d, ρ1, S, E, r1, e, fun σ1 E1 f1 => ⟨Z, ι, L, ρ1, ds, ρ', S, E1, r2, hb, fun σ2 E2 f2 => k σ2 E2 fun j hj => ?_⟩⟩
      simp only [tgsIx, List.mem_append, not_or] at hj
      rw [f2 j hj.2, f1 j hj.1]
mutual
theorem bindT_len : ∀ {t : Tg} {d : D} {ρ ρ' : Env}, bindT t d ρ = some ρ' → ρ'.length = ρ.length
  | .name i, d, ρ, ρ', h => by
    simp only [bindT] at h
    cases h
    simp
  | .tup ts, d, ρ, ρ', h => by
    simp only [bindT] at h
    split at h
    · exact bindTs_ln h
    · cases h
theorem bindTs_ln : ∀ {t : Tgs} {d : List D} {ρ ρ' : Env}, bindTs t d ρ = some ρ' → ρ'.length = ρ.length
  | .nil, [], ρ, ρ', h => by
    simp only [bindTs] at h
    cases h
    rfl
  | .nil, _ :: _, ρ, ρ', h => by simp [bindTs] at h
  | .cons t r, [], ρ, ρ', h => by simp [bindTs] at h
  | .cons t r, d :: ds, ρ, ρ', h => by
    simp only [bindTs] at h
    split at h
    · rename_i e
      rw [bindTs_ln h, bindT_len e]
    · cases h
end
theorem bindTs_len : ∀ {ts : Tgs} {ds : List D} {ρ ρ' : Env} {n : Nat}, bindTs ts ds ρ = some ρ' → lenTs ts = n → ds.length = n
  | .nil, [], ρ, ρ', n, h, e => by simpa [lenTs] using e
  | .nil, _ :: _, ρ, ρ', n, h, e => by simp [bindTs] at h
  | .cons t r, [], ρ, ρ', n, h, e => by simp [bindTs] at h
  | .cons t r, d :: ds, ρ, ρ', n, h, e => by
    simp only [bindTs] at h
    cases q : bindT t d ρ with
    | none => rw [q] at h; cases h
    | some ρ1 =>
      rw [q] at h
      have := bindTs_len (n := lenTs r) h rfl
      rw [List.length_cons, this]
      simpa [lenTs] using e
theorem g_tup {es : List Expr} {ts : Tgs} {k : Nat} (hK : X.K = C.K) (hc : X.calm = true) (h : L2.PGs X es (rBs C ts)) (hn : (assignEach es X.env).length = lenTs ts) (hst : (assignEach es X.env).findIdx? (·.1) = none) : L2.PG X (.Tuple es k pos) (rB C (.tup ts)) :=
  pg_imp (L2.pg_tup hc h hn hst) fun v σ H Q ⟨Z, ι, L, ρ, d, ρ', S, E, r, hb, k⟩ => by
  simp only [bindT] at hb
  cases e : tupOf d with
  | none => rw [e] at hb; cases hb
  | some ds =>
    rw [e] at hb
    obtain ⟨a, xs, ev, q, rs⟩ := tupOf_rv e r
    refine ⟨a, xs, ev, by rw [hK]; exact q _ _ .refl, by rw [← rs.length]; exact bindTs_len hb rfl, Z, ι, L, ρ, ds, ρ', S, E, rs, hb, fun σ' E' f => k σ' E' fun j hj => f j (by simpa [tgIx] using hj)⟩
end
end EV
end

section
set_option autoImplicit false
/-! The evaluator's word: comprehensions, dicts, calls. -/
namespace EV
open PySem PySem.Spec PyProof.Rows

section
variable {C : Cfg} {W : L2.WX}
def turnOf (cf : Nat → List D → M D) (n : Bool) (elt : E) (tg : Tg) (t : Oe) (own : List Nat) (ρ : Env) : D → M (Option D) := fun d L => match bindT tg d (wipeD ρ own) with
  | none => .bad
  | some ρ' => noX n ((evT cf t ρ' L).bind fun b L2 => if b then (evE cf elt ρ' L2).bind fun x L3 => .ok (some x) L3 else .ok none L2)
def Kont (C : Cfg) (Z : Addr → Prop) (W : L2.WX) (σ : L2.St) (ι : List Addr) (H : L2.Hp) (D : Addr) (Q : L2.VK) (acc : List EV.D) (r : R (List EV.D)) : Prop := match r with
  | .ok ys L' => ∀ xs ι' H', Ex ι H ι' H' → SO C (zAdd Z D) ι' H' L' → H' D = some (.lst xs) → D ∉ ι' → RVs C (zAdd Z D) ι' H' (acc ++ ys) xs → Q (.ref D) H'
  | .exc c d L' => ∀ v ι' H' dx, Ex ι H ι' H' → SO C (zAdd Z D) ι' H' L' → RV C (zAdd Z D) ι' H' d v → H' dx = some (.xd [(C.fld c, v)]) → W (.ref (C.cls c)) (some dx) σ H'
  | .bad => False
/-- the wish within a block -/
def wBlk (n : Bool) (W : L2.WX) (σ : L2.St) : L2.WX := fun cls d _ H' => if n then False else W cls d σ H'
theorem kont_aft {Z : Addr → Prop} {σ σ2 : L2.St} {ι ι' : List Addr} {H H' : L2.Hp} {D : Addr} {Q : L2.VK} {acc : List EV.D} {n : Bool} {α : Type} {r : R α} {g : α → M (List EV.D)} (h : Kont C Z W σ ι H D Q acc ((noX n r).bind g)) (x : Ex ι H ι' H') :
    Aft C (zAdd Z D) (wBlk n W σ) σ2 ι' H' r fun a L1 _ _ => Kont C Z W σ ι H D Q acc (g a L1) := by
  cases r with
  | ok a L => exact fun ι1 H1 _ _ => h
  | bad => exact h
  | exc c d L =>
    cases n with
    | true => exact False.elim h
    | false =>
      intro v ι1 H1 dx y s rv e
      unfold wBlk
      rw [if_neg Bool.false_ne_true]
      exact h v ι1 H1 dx (x.trans y) s rv e
/-- a comprehension's tests -/
def rTo (C : Cfg) (W : L2.WX) (m : Env → M Bool) : L2.TT := rG C W m (fun _ _ _ b c => b = c)
theorem wipe_eq {σ σ' : L2.St} {vs ix : List Nat} (hs : ∀ i ∈ ix, i ∈ vs) (hl : σ'.length = σ.length) (h : ∀ j, j ∉ ix → σ'[j]? = (L2.wipe σ vs)[j]?) : L2.wipe σ' vs = L2.wipe σ vs := by
  refine List.ext_getElem? fun j => ?_
  have wn : ∀ (σ : L2.St) (vs : List Nat) (j : Nat), j ∈ vs → j < σ.length → (L2.wipe σ vs)[j]? = some none := by
    intro σ vs
    induction vs with
    | nil => intro j h; cases h
    | cons v vs ih =>
      intro j h hl
      unfold L2.wipe
      by_cases e : v = j
      · subst e; rw [List.getElem?_set_self (by rw [L2.wipe_length]; exact hl)]
      · rw [List.getElem?_set_ne e]
        exact ih j (by cases h with
          | head => exact absurd rfl e
          | tail _ h => exact h) hl
  by_cases hj : j ∈ vs
  · by_cases hlt : j < σ.length
    · rw [wn σ vs j hj hlt, wn σ' vs j hj (by rw [hl]; exact hlt)]
    · rw [List.getElem?_eq_none (by rw [L2.wipe_length]; omega), List.getElem?_eq_none (by rw [L2.wipe_length]; omega)]
  · rw [L2.wipe_out hj, h j (fun m => hj (hs j m))]
def bndW (w : Wk) (i m : Nat) : Prop := match w with
  | .vals ds => ds.length ≤ big
  | .obj _ => i + m ≤ big
theorem lc_read {cf : Nat → List D → M D} {n : Bool} {celt : E} {ctg : Tg} {cit : It} {ct : Oe} {own : List Nat} (hown : ∀ i ∈ tgIx ctg, i ∈ own) {σ : L2.St} {H : L2.Hp} {Q : L2.VK} (h : rF C W (evF cf (.lc n celt ctg cit ct own)) σ H Q) :
    L2.tLc (rI C W (evI cf cit)) (rB C ctg) (rTo C (wBlk n W σ) (evT cf ct)) (rE C (wBlk n W σ) (evE cf celt)) own σ H Q := by
  obtain ⟨Z, ι, L, ρ, S, E, h⟩ := rF_un h
  simp only [evF] at h
  refine seqF S E h fun w L1 ι1 H1 J s1 e1 ex1 wk h1 D hD => ?_
  have h1' : AftF C Z W σ ι1 H1 (compW (turnOf cf n celt ctg ct own ρ) w L1) Q := h1
  unfold compW at h1'
  split at h1'
  · rename_i hsm
    have z0 : ZOk Z H1 (zAdd Z D) := fun a z => z.elim .inl fun e => .inr (e ▸ hD)
    have K0 : Kont C Z W σ ι1 H1 D Q [] (compG (turnOf cf n celt ctg ct own ρ) w (fuelW w) 0 L1) := by
      revert h1'
      cases compG (turnOf cf n celt ctg ct own ρ) w (fuelW w) 0 L1 with
      | bad => exact fun h => h
      | ok ys L2 => exact fun h xs ι' H' x s e n r => h D xs ι' H' x hD s e n r
      | exc c d L2 => exact fun h v ι' H' dx x s r e => h v ι' H' dx x (s.weak zle) (RV.weak zle _ _ r) e
    refine ⟨fun i m H' => ∃ ι' L' acc xs, Ex ι1 H1 ι' H' ∧ SO C (zAdd Z D) ι' H' L' ∧ D ∉ ι' ∧ H' D = some (.lst xs) ∧ RVs C (zAdd Z D) ι' H' acc xs ∧ acc.length ≤ i ∧
      bndW w i m ∧ Kont C Z W σ ι1 H1 D Q acc (compG (turnOf cf n celt ctg ct own ρ) w m i L'), ⟨fuelW w, ι1, L1, [], [], ex_updN .refl hD, s1.add hD, s1.fresh hD, L2.upd_same, .nil, Nat.le_refl _, ?_, K0⟩, ?_⟩
    · cases w with
      | vals ds => exact (of_decide_eq_true hsm : ds.length ≤ big)
      | obj k => show 0 + big ≤ big; omega
    · rintro i m H' ⟨ι', L', acc, xs, ex, s', nD, hDx, ra, hal, hbig, K⟩
      cases m with
      | zero => exact False.elim K
      | succ m =>
        unfold compG at K
        cases hi : items w L' with
        | none => rw [hi] at K; exact False.elim K
        | some ds =>
          rw [hi] at K
          simp only at K
          obtain ⟨wgo, wstop⟩ := wk (zAdd Z D) i ι' H' L' ds z0 ex s' hi
          cases hd : ds[i]? with
          | none =>
            rw [hd] at K
            exact .inl ⟨wstop hd, K xs ι' H' ex s' hDx nD (by rw [List.append_nil]; exact ra)⟩
          | some d =>
            rw [hd] at K
            obtain ⟨go, yl⟩ := wgo d hd
            refine .inr ⟨go, fun H'' => ∃ ι' L' acc xs, Ex ι1 H1 ι' H'' ∧ SO C (zAdd Z D) ι' H'' L' ∧ D ∉ ι' ∧ H'' D = some (.lst xs) ∧ RVs C (zAdd Z D) ι' H'' acc xs ∧ acc.length ≤ i + 1 ∧
              bndW w (i + 1) m ∧ Kont C Z W σ ι1 H1 D Q acc (compG (turnOf cf n celt ctg ct own ρ) w m (i + 1) L'), fun H'' q => ⟨m, Nat.lt_succ_self m, q⟩, fun x H'' hy => ?_⟩
            obtain ⟨sm, rx⟩ := yl x H'' hy
            have s2 := s'.same sm
            have ex2 := ex_same (ι := ι') sm
            have hDx2 := sm D _ hDx
            have ilt : i < big := by
              cases w with
              | vals es =>
                have : es = ds := by simpa [items] using hi
                subst this
                have := (List.getElem?_eq_some_iff.mp hd).1
                exact Nat.lt_of_lt_of_le this hbig
              | obj k =>
                have : i + (m + 1) ≤ big := hbig
                omega
            have hbig2 : bndW w (i + 1) m := by
              cases w with
              | vals es => exact hbig
              | obj k =>
                have : i + (m + 1) ≤ big := hbig
                show (i + 1) + m ≤ big
                omega
            have K : Kont C Z W σ ι1 H1 D Q acc ((turnOf cf n celt ctg ct own ρ d L').bind fun o L1 => (compG (turnOf cf n celt ctg ct own ρ) w m (i + 1) L1).bind fun r L2 => .ok (match o with
              | some x => x :: r
              | none => r) L2) := K
            cases hb : bindT ctg d (wipeD ρ own) with
            | none =>
              have et : turnOf cf n celt ctg ct own ρ d L' = .bad := by unfold turnOf; rw [hb]
              rw [et] at K
              exact False.elim K
            | some ρ' =>
              have et : turnOf cf n celt ctg ct own ρ d L' = noX n ((evT cf ct ρ' L').bind fun b L2 => if b then (evE cf celt ρ' L2).bind fun x L3 => .ok (some x) L3 else .ok none L2) := by unfold turnOf; rw [hb]
              rw [et] at K
              have eρ : ER C (zAdd Z D) ι' H'' (wipeD ρ own) (L2.wipe σ own) := (((e1.addz z0).mono ex).mono ex2).wipe own
              refine ⟨zAdd Z D, ι', L', wipeD ρ own, d, ρ', s2, eρ, rx, hb, fun σ2 E2 fr => ⟨?_, ?_⟩⟩
              · refine wipe_eq hown ?_ fr
                rw [← E2.len]
                have := eρ.len
                rw [L2.wipe_length] at this
                rw [← this]
                exact bindT_len hb
              · refine seqG s2 E2 (kont_aft (σ2 := σ2) K (ex.trans ex2)) fun b L3 ι3 H3 c s3 e3 ex3 hbc K2 => ?_
                subst hbc
                cases b with
                | false =>
                  rw [if_neg Bool.false_ne_true] at K2 ⊢
                  have K3 := K2.ok s3
                  simp only [R.bind] at K3
                  refine ⟨ι3, L3, acc, xs, (ex.trans ex2).trans ex3, s3, ex3.notin hDx2 nD, ex3.old _ _ hDx2 nD, RVs.mono (ex2.trans ex3) _ _ ra, by omega, hbig2, ?_⟩
                  show Kont C Z W σ ι1 H1 D Q acc (compG (turnOf cf n celt ctg ct own ρ) w m (i + 1) L3)
                  revert K3
                  show Kont C Z W σ ι1 H1 D Q acc ((compG (turnOf cf n celt ctg ct own ρ) w m (i + 1) L3).bind fun r L2 => .ok r L2) → _
                  cases compG (turnOf cf n celt ctg ct own ρ) w m (i + 1) L3 <;> exact fun h => h
                | true =>
                  rw [if_pos rfl] at K2 ⊢
                  refine seqG s3 e3 K2 fun y L4 ι4 H4 v s4 e4 ex4 ry K4 => ?_
                  have K5 := K4.ok s4
                  simp only [R.bind] at K5
                  have x24 := ex2.trans (ex3.trans ex4)
                  have nD4 := x24.notin hDx nD
                  have hD4 := x24.old _ _ hDx nD
                  have zD : zAdd Z D D := .inr rfl
                  refine ⟨xs, hD4, by rw [← ra.length, ← big_eq]; omega, ι4, L4, acc ++ [y], xs ++ [v], ex_updN (ex.trans x24) hD, s4.updz zD hD4 nD4, nD4, L2.upd_same, RVs.updz zD hD4 _ _ ((RVs.mono x24 _ _ ra).append (.cons ry .nil)), by simp; omega, hbig2, ?_⟩
                  show Kont C Z W σ ι1 H1 D Q (acc ++ [y]) (compG (turnOf cf n celt ctg ct own ρ) w m (i + 1) L4)
                  revert K5
                  show Kont C Z W σ ι1 H1 D Q acc ((compG (turnOf cf n celt ctg ct own ρ) w m (i + 1) L4).bind fun r L2 => .ok (y :: r) L2) → _
                  cases compG (turnOf cf n celt ctg ct own ρ) w m (i + 1) L4 with
                  | bad => exact fun h => h
                  | exc c d L => exact fun h => h
                  | ok ys L => exact fun h xs ι' H' x s e n r => h xs ι' H' x s e n (by simpa using r)
  · exact False.elim h1'
end
section
variable {X : L2.Cx} {C : Cfg} {cf : Nat → List D → M D} {W : L2.WX} {pos : Pos}
theorem pe_imp2 {e : Expr} {t' : L2.TE} (k : ∀ σ H Q, t' σ H Q → ∃ t, L2.PE X e t ∧ t σ H Q) : L2.PE X e t' := ⟨fun pins s σ H Q I w => let ⟨t, h, q⟩ := k σ H Q w; h.run pins s σ H Q I q⟩
/-- [elt for tg in it if t], in a block or where a turn raises nothing -/
theorem f_lcn {elt tg iter : Expr} {ifs : List Expr} {scope : Scope} {own : List (Str × Nat)} {celt : E} {ctg : Tg} {cit : It} {ct : Oe} (hc : X.calm = true) (hN : X.N.Nodup) (hown : ∀ i ∈ tgIx ctg, i ∈ own.map (·.2))
    (hi : L2.PI X tg iter (rI C W (evI cf cit))) (ok : L2.BlkOk X.N X.env.scope scope own)
    (hg : ∀ (s : Shared) (H : L2.Hp) (C' : Addr) (cl : List (Str × Addr)) (fp : List Addr) (xe : Value → Shared → Prop), L2.PG (blkX X s H scope (compEnvC scope cl C' X.env) fp xe) tg (rB C ctg))
    (ht : ∀ (s : Shared) (H : L2.Hp) (C' : Addr) (cl : List (Str × Addr)) (fp : List Addr) (xe : Value → Shared → Prop) (W' : L2.WX), Takes2 (blkX X s H scope (compEnvC scope cl C' X.env) fp xe) W' → L2.PTs (blkX X s H scope (compEnvC scope cl C' X.env) fp xe) ifs (rTo C W' (evT cf ct)))
    (he : ∀ (s : Shared) (H : L2.Hp) (C' : Addr) (cl : List (Str × Addr)) (fp : List Addr) (xe : Value → Shared → Prop) (W' : L2.WX), Takes2 (blkX X s H scope (compEnvC scope cl C' X.env) fp xe) W' → L2.PE (blkX X s H scope (compEnvC scope cl C' X.env) fp xe) elt (rE C W' (evE cf celt)))
    (hs : ∀ x, foldedSetIterable iter X.env x = pure x) : L2.PE X (.ListComp elt [⟨tg, iter, ifs, 0⟩] scope pos) (rF C W (evF cf (.lc true celt ctg cit ct (own.map (·.2))))) := by
  have e : ∀ σ, wBlk true W σ = fun _ _ _ _ => False := fun σ => by
    funext a b c d
    unfold wBlk
    rw [if_pos rfl]
  exact pe_imp (L2.pe_lc hc hN hi ok (fun s H C' cl fp => hg s H C' cl fp _) (fun s H C' cl fp => ht s H C' cl fp _ (fun _ _ _ _ => False) takes2_none) (fun s H C' cl fp => he s H C' cl fp _ (fun _ _ _ _ => False) takes2_none) hs) fun σ H Q h => by
    have q := lc_read hown h
    rw [e] at q
    exact q
/-- in a def's own body -/
theorem f_lc {elt tg iter : Expr} {ifs : List Expr} {scope : Scope} {own : List (Str × Nat)} {celt : E} {ctg : Tg} {cit : It} {ct : Oe} (hs0 : X.stack = X.env :: X.outer) (hf : X.env.frame = some X.env.locals) (tk : L2.Takes X W) (hc : X.calm = true) (hN : X.N.Nodup) (hown : ∀ i ∈ tgIx ctg, i ∈ own.map (·.2))
    (hi : L2.PI X tg iter (rI C W (evI cf cit))) (ok : L2.BlkOk X.N X.env.scope scope own)
    (hg : ∀ (s : Shared) (H : L2.Hp) (C' : Addr) (cl : List (Str × Addr)) (fp : List Addr) (xe : Value → Shared → Prop), L2.PG (blkX X s H scope (compEnvC scope cl C' X.env) fp xe) tg (rB C ctg))
    (ht : ∀ (s : Shared) (H : L2.Hp) (C' : Addr) (cl : List (Str × Addr)) (fp : List Addr) (xe : Value → Shared → Prop) (W' : L2.WX), Takes2 (blkX X s H scope (compEnvC scope cl C' X.env) fp xe) W' → L2.PTs (blkX X s H scope (compEnvC scope cl C' X.env) fp xe) ifs (rTo C W' (evT cf ct)))
    (he : ∀ (s : Shared) (H : L2.Hp) (C' : Addr) (cl : List (Str × Addr)) (fp : List Addr) (xe : Value → Shared → Prop) (W' : L2.WX), Takes2 (blkX X s H scope (compEnvC scope cl C' X.env) fp xe) W' → L2.PE (blkX X s H scope (compEnvC scope cl C' X.env) fp xe) elt (rE C W' (evE cf celt)))
    (hs : ∀ x, foldedSetIterable iter X.env x = pure x) : L2.PE X (.ListComp elt [⟨tg, iter, ifs, 0⟩] scope pos) (rF C W (evF cf (.lc false celt ctg cit ct (own.map (·.2))))) := by
  refine ⟨fun pins s σ H Q I h => ?_⟩
  have q := lc_read hown h
  have e : wBlk false W σ = fun cls d _ H' => W cls d σ H' := by
    funext a b c d
    unfold wBlk
    rw [if_neg Bool.false_ne_true]
  rw [e] at q
  rw [eval_ListComp]
  refine lc_coreX (wi := rI C W (evI cf cit)) (tt := fun W' => rTo C W' (evT cf ct)) (te := fun W' => rE C W' (evE cf celt)) (use := none) (Qf := L2.EP X pins σ Q) hs0 hf tk hc hN I hi ok hg ht he hs q fun D L ce s' m H' eL I' q hn f => ?_
  obtain ⟨f0, f1, f2, f3, f4, f5⟩ := f
  exact ⟨m, by rw [eL]; exact hn, fun h'' sb => ⟨.ref D, H', I'.turned (t' := s'.toks) (fun b o hb e => (sb.2 b (by rw [eL]; exact hb)).trans e) f0 f1 f3 f4 f5, rfl, q⟩⟩
/-- name = [..] on one line, the name a local -/
theorem f_setLc {i : Nat} {y : Str} {py : Pos} {elt tg iter : Expr} {ifs : List Expr} {scope : Scope} {own : List (Str × Nat)} {celt : E} {ctg : Tg} {cit : It} {ct : Oe} {spos : Pos} {t : L2.TE} (hs0 : X.stack = X.env :: X.outer) (hf : X.env.frame = some X.env.locals) (tk : L2.Takes X W) (hc : X.calm = true) (hN : X.N.Nodup)
    (hy : X.N[i]? = some y) (hyl : X.env.scope.names.lookup y = some .local) (hsw : swapsWith (.ListComp elt [⟨tg, iter, ifs, 0⟩] scope pos) (some (.Name y py)) spos.line X.env = pure true) (hown : ∀ i ∈ tgIx ctg, i ∈ own.map (·.2))
    (hi : L2.PI X tg iter (rI C W (evI cf cit))) (ok : L2.BlkOk X.N X.env.scope scope own)
    (hg : ∀ (s : Shared) (H : L2.Hp) (C' : Addr) (cl : List (Str × Addr)) (fp : List Addr) (xe : Value → Shared → Prop), L2.PG (blkX X s H scope (compEnvC scope cl C' X.env) fp xe) tg (rB C ctg))
    (ht : ∀ (s : Shared) (H : L2.Hp) (C' : Addr) (cl : List (Str × Addr)) (fp : List Addr) (xe : Value → Shared → Prop) (W' : L2.WX), Takes2 (blkX X s H scope (compEnvC scope cl C' X.env) fp xe) W' → L2.PTs (blkX X s H scope (compEnvC scope cl C' X.env) fp xe) ifs (rTo C W' (evT cf ct)))
    (he : ∀ (s : Shared) (H : L2.Hp) (C' : Addr) (cl : List (Str × Addr)) (fp : List Addr) (xe : Value → Shared → Prop) (W' : L2.WX), Takes2 (blkX X s H scope (compEnvC scope cl C' X.env) fp xe) W' → L2.PE (blkX X s H scope (compEnvC scope cl C' X.env) fp xe) elt (rE C W' (evE cf celt)))
    (hs : ∀ x, foldedSetIterable iter X.env x = pure x) (k : ∀ σ H Q, t σ H Q → rF C W (evF cf (.lc false celt ctg cit ct (own.map (·.2)))) σ H Q) : L2.PS X (.Assign [.Name y py] (.ListComp elt [⟨tg, iter, ifs, 0⟩] scope pos) spos) (L2.tAsg t (L2.gName i)) := by
  refine ⟨fun pins s σ H D I h => ?_⟩
  rw [exec_Assign_Name_used _ _ _ _ hsw]
  refine wpAny_bind (wpAny_standAt (wpAny_bind ?_))
  show wpAny _ X.A (do let _ ← comprehension (.ListComp elt [⟨tg, iter, ifs, 0⟩] scope pos) scope X.env (firstIterPos [⟨tg, iter, ifs, 0⟩] pos) (newList []) false (eval iter X.env) (some (assign (.Name y py) X.env))) _ _ s
  have q := lc_read hown (k σ H _ h)
  have e : wBlk false W σ = fun cls d _ H' => W cls d σ H' := by
    funext a b c d
    unfold wBlk
    rw [if_neg Bool.false_ne_true]
  rw [e] at q
  refine wpAny_bind (L2.thn (lc_coreX (wi := rI C W (evI cf cit)) (tt := fun W' => rTo C W' (evT cf ct)) (te := fun W' => rE C W' (evE cf celt)) (Qf := fun _ s' => L2.SP X pins D .next s') hs0 hf tk hc hN I hi ok hg ht he hs q fun L C' ce s' m H' eL I' q hn f => ?_) fun _ s' hq => wpAny_pure (wpAny_pure hq))
  show wpAny _ _ (assign (.Name y py) X.env (.ref L)) _ _ _
  refine wpAny_assign_Name (L2.store_ok2 (v := L2.V.ref L) I' hN hy (.inl hyl) rfl (fun s2 I2 ⟨a, sb, ha⟩ => ?_) (.inr hyl))
  obtain ⟨f0, f1, f2, f3, f4, f5⟩ := f
  have haC : C' ≠ a := by
    rcases ha with z | z
    · rw [z]; exact f1
    · exact fun e => f4 y a z e.symm
  refine ⟨m, by rw [eL]; exact hn.sameBut sb haC, fun h3 sb3 => ?_⟩
  exact ⟨_, H', I2.turned (t' := s2.toks) (fun b o hb e => (sb3.2 b (by rw [eL]; exact hb)).trans e) f0 f1 f3 f4 f5, q⟩
/-! tests of a comprehension -/
theorem ts_nil : L2.PTs X [] (rTo C W (evT cf .none)) := ⟨fun pins s σ H Q I ⟨Z, ι, L, ρ, S, E, h⟩ => by
  simp only [evT] at h
  exact L2.pts_nil.run pins s σ H Q I (h.ok S _ rfl)⟩
theorem ts_one {c : Expr} {cc : E} (h : L2.PT X c (rT C W (evE cf cc))) : L2.PTs X [c] (rTo C W (evT cf (.some cc))) := ⟨fun pins s σ H Q I q => by
  refine (L2.pts_one h).run pins s σ H Q I ?_
  obtain ⟨Z, ι, L, ρ, S, E, q⟩ := q
  refine ⟨Z, ι, L, ρ, S, E, ?_⟩
  simp only [evT] at q
  exact q⟩

/-! ### calls -/
/-- a callee's promise -/
structure Cal (X : L2.Cx) (C : Cfg) (cf : Nat → List D → M D) (f : Nat) : Prop where
  ex : ∃ (k : Nat) (fd : FuncData) (ps : List Str), L2.FnOk X.prog X.w X.K X.mg X.base (L2.CX X.prog X.w) k (C.adr f) fd ps (spF C cf f) ∧ L2.Room k X.A ∧ L2.Binds X.K fd ps []
  keep : PySem.W.keepIn X.K (.ref (C.adr f)) = true
theorem run_cal {pins : List (Addr × Obj)} {σ : L2.St} {H : L2.Hp} {s : Shared} {Q : L2.VK} {us : List Value} {vs : List L2.V} {f : Nat} (c : Cal X C cf f) (tk : Takes2 X W) (I : L2.Inv X pins σ H s) (r : L2.Vals vs us)
    (h : spF C cf f vs H Q (fun cls d H' => W cls d σ H')) : wpAny (model X.prog X.w) X.A (call (.ref (C.adr f)) us) (L2.EP X pins σ Q) X.xe s := by
  obtain ⟨k, fd, ps, F, hr, hb⟩ := c.ex
  exact L2.run_fnSD (dvs := []) (ds := []) (E := fun σ cls d H' => W cls d σ H') F hr hb .nil (fun pins H s e s' I cx => passes_at tk pins σ H s e s' I cx) I r (by rw [List.append_nil]; exact h)
section
variable {f : Nat} {x : Str} {p : Pos} {e : Expr} {es : List Expr} {ces : Es}
theorem pe_cal {t : L2.TE} (c : Cal X C cf f) (tk : Takes2 X W) (hg : L2.Gl X x) (hm : X.mg x = some (.ref (C.adr f))) (hdb : (x == ("__debug__" : Str)) = false) (ha : L2.PA X (e :: es) (rA C W (evEs cf ces)))
    (h1 : starEach (e :: es) X.env = (false, eval e X.env) :: starEach es X.env) (h2 : (backTo pos (starEach es X.env)).any (·.1) = false)
    (h : ∀ σ H Q, t σ H Q → rA C W (evEs cf ces) σ H fun vs H1 => spF C cf f vs H1 Q (fun cls d H' => W cls d σ H')) : L2.PE X (.Call (.Name x p) (e :: es) [] pos) t := by
  refine ⟨fun pins s σ H Q I q => ?_⟩
  have q := h σ H Q q
  refine wpAny_Call_Name_kw (L2.ld_glob I hg hm ?_ hdb)
  refine PySem.W.callWith_K (h₀ := X.base) I.ok.mod.kin c.keep (L2.thn (ha.run pos pins s σ H _ I q) fun us s1 ⟨vs, H1, I1, r, q⟩ => ⟨I1.kIn, ?_⟩) h1 h2
  exact run_cal c tk I1 r q
theorem pe_cal0 {t : L2.TE} (c : Cal X C cf f) (tk : Takes2 X W) (hg : L2.Gl X x) (hm : X.mg x = some (.ref (C.adr f))) (hdb : (x == ("__debug__" : Str)) = false)
    (h : ∀ σ H Q, t σ H Q → spF C cf f [] H Q (fun cls d H' => W cls d σ H')) : L2.PE X (.Call (.Name x p) [] [] pos) t := by
  refine ⟨fun pins s σ H Q I q => ?_⟩
  refine wpAny_Call_Name_kw (L2.ld_glob I hg hm ?_ hdb)
  exact PySem.W.callWith_K0 I.kIn c.keep (run_cal (us := []) c tk I .nil (h σ H Q q))
theorem call_of {σ : L2.St} {H : L2.Hp} {Q : L2.VK} (h : rE C W (evE cf (.call f ces)) σ H Q) : rA C W (evEs cf ces) σ H fun vs H1 => spF C cf f vs H1 Q (fun cls d H' => W cls d σ H') := by
  obtain ⟨Z, ι, L, ρ, S, E, h⟩ := h
  simp only [evE] at h
  exact seqG S E h fun x L1 ι1 H1 v s1 e1 ex1 rx h1 => callF_sp s1 rx h1
theorem callk_of {σ : L2.St} {H : L2.Hp} {Q : L2.VK} (h : rE C W (evE cf (.callk f ces)) σ H Q) : rA C W (evEs cf ces) σ H fun vs H1 => spF C cf f vs H1 Q (fun cls d H' => W cls d σ H') := by
  obtain ⟨Z, ι, L, ρ, S, E, h⟩ := h
  simp only [evE] at h
  exact seqG S E h fun x L1 ι1 H1 v s1 e1 ex1 rx h1 => callK_sp s1 rx h1
theorem nil_of {σ : L2.St} {H : L2.Hp} {P : List L2.V → L2.Hp → Prop} (h : rA C W (evEs cf .nil) σ H P) : P [] H := by
  obtain ⟨Z, ι, L, ρ, S, E, h⟩ := h
  simp only [evEs] at h
  exact h.ok S _ .nil
theorem s_call (c : Cal X C cf f) (tk : Takes2 X W) (hg : L2.Gl X x) (hm : X.mg x = some (.ref (C.adr f))) (hdb : (x == ("__debug__" : Str)) = false) (ha : L2.PA X (e :: es) (rA C W (evEs cf ces)))
    (h1 : starEach (e :: es) X.env = (false, eval e X.env) :: starEach es X.env) (h2 : (backTo pos (starEach es X.env)).any (·.1) = false) : L2.PE X (.Call (.Name x p) (e :: es) [] pos) (rE C W (evE cf (.call f ces))) :=
  pe_cal c tk hg hm hdb ha h1 h2 fun σ H Q h => call_of h
theorem s_call0 (c : Cal X C cf f) (tk : Takes2 X W) (hg : L2.Gl X x) (hm : X.mg x = some (.ref (C.adr f))) (hdb : (x == ("__debug__" : Str)) = false) : L2.PE X (.Call (.Name x p) [] [] pos) (rE C W (evE cf (.call f .nil))) :=
  pe_cal0 c tk hg hm hdb fun σ H Q h => nil_of (call_of h)
theorem s_callk (c : Cal X C cf f) (tk : Takes2 X W) (hg : L2.Gl X x) (hm : X.mg x = some (.ref (C.adr f))) (hdb : (x == ("__debug__" : Str)) = false) (ha : L2.PA X (e :: es) (rA C W (evEs cf ces)))
    (h1 : starEach (e :: es) X.env = (false, eval e X.env) :: starEach es X.env) (h2 : (backTo pos (starEach es X.env)).any (·.1) = false) : L2.PE X (.Call (.Name x p) (e :: es) [] pos) (rE C W (evE cf (.callk f ces))) :=
  pe_cal c tk hg hm hdb ha h1 h2 fun σ H Q h => callk_of h
theorem s_callk0 (c : Cal X C cf f) (tk : Takes2 X W) (hg : L2.Gl X x) (hm : X.mg x = some (.ref (C.adr f))) (hdb : (x == ("__debug__" : Str)) = false) : L2.PE X (.Call (.Name x p) [] [] pos) (rE C W (evE cf (.callk f .nil))) :=
  pe_cal0 c tk hg hm hdb fun σ H Q h => nil_of (callk_of h)
/-- a local name that holds a def -/
theorem callv_of {i n : Nat} {σ : L2.St} {H : L2.Hp} {Q : L2.VK} (h : rE C W (evE cf (.callv i n ces)) σ H Q) : ∃ f, f < n ∧ σ[i]? = some (some (.ref (C.adr f))) ∧ rA C W (evEs cf ces) σ H fun vs H1 => spF C cf f vs H1 Q (fun cls d H' => W cls d σ H') := by
  obtain ⟨Z, ι, L, ρ, S, E, h⟩ := h
  simp only [evE] at h
  split at h
  · rename_i f hf
    split at h
    · rename_i hn
      obtain ⟨v, hv, r⟩ := E.get i _ hf
      unfold RV at r
      subst r
      exact ⟨f, hn, hv, seqG S E h fun x L1 ι1 H1 v s1 e1 ex1 rx h1 => callF_sp s1 rx h1⟩
    · exact False.elim h
  · exact False.elim h
theorem s_callv {i n : Nat} (c : ∀ f, f < n → Cal X C cf f) (tk : Takes2 X W) (hN : X.N[i]? = some x) (hv : L2.Vis X.env.scope x) (hdb : (x == ("__debug__" : Str)) = false) (hcd : (x == ("__classdict__" : Str)) = false) (ha : L2.PA X (e :: es) (rA C W (evEs cf ces)))
    (h1 : starEach (e :: es) X.env = (false, eval e X.env) :: starEach es X.env) (h2 : (backTo pos (starEach es X.env)).any (·.1) = false) : L2.PE X (.Call (.Name x p) (e :: es) [] pos) (rE C W (evE cf (.callv i n ces))) := by
  refine ⟨fun pins s σ H Q I h => ?_⟩
  obtain ⟨f, hf, hs, ht⟩ := callv_of h
  refine wpAny_Call_Name_kw (L2.thn ((L2.pe_var (pos := p) hN hv hdb hcd).run pins s σ H (fun v H1 => v = .ref (C.adr f) ∧ H1 = H) I ⟨.ref (C.adr f), hs, rfl, rfl⟩) fun u s1 ⟨v, H1, I1, r1, q1⟩ => ?_)
  obtain ⟨rfl, rfl⟩ := q1
  cases r1
  refine PySem.W.callWith_K (h₀ := X.base) I.ok.mod.kin (c f hf).keep (L2.thn (ha.run pos pins s1 σ _ _ I1 ht) fun us s2 ⟨vs, H2, I2, r, q⟩ => ⟨I2.kIn, ?_⟩) h1 h2
  exact run_cal (c f hf) tk I2 r q
theorem s_callv0 {i n : Nat} (c : ∀ f, f < n → Cal X C cf f) (tk : Takes2 X W) (hN : X.N[i]? = some x) (hv : L2.Vis X.env.scope x) (hdb : (x == ("__debug__" : Str)) = false) (hcd : (x == ("__classdict__" : Str)) = false) :
    L2.PE X (.Call (.Name x p) [] [] pos) (rE C W (evE cf (.callv i n .nil))) := by
  refine ⟨fun pins s σ H Q I h => ?_⟩
  obtain ⟨f, hf, hs, ht⟩ := callv_of h
  refine wpAny_Call_Name_kw (L2.thn ((L2.pe_var (pos := p) hN hv hdb hcd).run pins s σ H (fun v H1 => v = .ref (C.adr f) ∧ H1 = H) I ⟨.ref (C.adr f), hs, rfl, rfl⟩) fun u s1 ⟨v, H1, I1, r1, q1⟩ => ?_)
  obtain ⟨rfl, rfl⟩ := q1
  cases r1
  exact PySem.W.callWith_K0 I1.kIn (c f hf).keep (run_cal (us := []) (c f hf) tk I1 .nil (nil_of ht))
end

/-! ### dicts -/
section
variable {Z : Addr → Prop} {ι ι' : List Addr} {H H' : L2.Hp} {L : Store} {σ : L2.St} {ρ : Env}
/-- the new thing, an empty dict, becomes an object -/
theorem OR.adopt {p : Addr} (ht : ∀ xs, H p ≠ some (.tup xs)) (hx : ∀ fs, H p ≠ some (.xd fs)) {o : O} {a : Addr} (h : OR C (zAdd Z p) ι H o a) : OR C Z (ι ++ [p]) H o a := by
  cases o with
  | lst ds => obtain ⟨xs, q1, q2⟩ := h; exact ⟨xs, q1, RVs.adopt ht hx _ _ q2⟩
  | dK ds => obtain ⟨xs, q1, q2⟩ := h; exact ⟨xs, q1, KR.adopt ht hx q2⟩
  | dT ds => obtain ⟨xs, q1, q2⟩ := h; exact ⟨xs, q1, KR.adopt ht hx q2⟩
theorem SO.adoptO {p : Addr} {u : L2.HO} {o : O} (s : SO C (zAdd Z p) ι H L) (hp : H p = some u) (hu : isOb u = true) (hn : p ∉ ι) (r : OR C (zAdd Z p) ι H o p) : SO C Z (ι ++ [p]) H (L ++ [o]) := by
  have ht : ∀ xs, H p ≠ some (.tup xs) := fun ys q => by rw [hp] at q; cases q; cases hu
  have hx : ∀ fs, H p ≠ some (.xd fs) := fun ys q => by rw [hp] at q; cases q; cases hu
  refine ⟨by simp [s.len], ?_, fun k o' e => ?_, fun a z => s.zh a (.inl z)⟩
  · rw [List.nodup_append]
    refine ⟨s.nd, by simp, fun a ha b hb e => ?_⟩
    have : b = p := by simpa using hb
    rw [this] at e
    exact hn (e ▸ ha)
  · by_cases hk : k < L.length
    · rw [List.getElem?_append_left hk] at e
      obtain ⟨a, q, r'⟩ := s.obj k o' e
      exact ⟨a, by rw [List.getElem?_append_left (by rw [s.len]; exact hk)]; exact q, r'.adopt ht hx⟩
    · rw [List.getElem?_append_right (by omega)] at e
      have hk' : k = L.length := by
        have := (List.getElem?_eq_some_iff.mp e).1
        simp at this; omega
      subst hk'
      simp at e
      subst e
      exact ⟨p, by rw [List.getElem?_append_right (by rw [s.len]; exact Nat.le_refl _)]; simp [s.len], r.adopt ht hx⟩
theorem ex_adopt {p : Addr} (x : Ex ι H ι' H') (hp : H p = none) : Ex ι H (ι' ++ [p]) H' :=
  ⟨fun k a e => by
    have := x.pre k a e
    rw [List.getElem?_append_left (List.getElem?_eq_some_iff.mp this).1]; exact this, fun a m => by
    rcases List.mem_append.mp m with m | m
    · exact x.new a m
    · have : a = p := by simpa using m
      exact .inr (this ▸ hp), x.old⟩
theorem rv_last {p : Addr} (s : ι.length = L.length) : RV C Z (ι ++ [p]) H (.obj L.length) (.ref p) := by
  unfold RV
  exact ⟨p, by rw [← s, List.getElem?_append_right (Nat.le_refl _)]; simp, rfl⟩
theorem s_dnewT {co : Bool} : L2.PE X (.Dict [] [] pos) (rE C W (evE cf (.dnew co .nil))) := by
  cases co with
  | true =>
    refine pe_imp L2.pe_dnewT fun σ H Q ⟨Z, ι, L, ρ, S, E, h⟩ p hp => ?_
    simp only [evE, evK, R.bind, if_true] at h
    exact h _ _ (ex_push hp) (S.push hp ⟨[], L2.upd_same, rfl⟩) _ (rv_last S.len)
  | false =>
    refine pe_imp L2.pe_dnewK fun σ H Q ⟨Z, ι, L, ρ, S, E, h⟩ p hp => ?_
    simp only [evE, evK, R.bind] at h
    exact h _ _ (ex_push hp) (S.push hp ⟨[], L2.upd_same, rfl⟩) _ (rv_last S.len)
def trsOf (C : Cfg) (W : L2.WX) (cf : Nat → List D → M D) : Kvs → List (L2.TE × L2.TE)
  | .nil => []
  | .cons k v r => (rE C W (evE cf k), rE C W (evE cf v)) :: trsOf C W cf r
theorem pairs_of (Q' : List (L2.V × L2.V) → L2.Hp → Prop) : ∀ (kvs : Kvs) {ι : List Addr} {H : L2.Hp} {L : Store}, SO C Z ι H L → ER C Z ι H ρ σ →
    Aft C Z W σ ι H (evK cf kvs ρ L) (fun ps L' ι' H' => ∀ qs, KR C Z ι' H' ps qs → Q' (qs.map fun kv => (L2.kV kv.1, kv.2)) H') → L2.tPairs (trsOf C W cf kvs) σ H Q'
  | .nil, ι, H, L, S, E, h => by
    simp only [evK] at h
    exact h.ok S [] rfl
  | .cons k v r, ι, H, L, S, E, h => by
    simp only [evK] at h
    refine seqG S E h fun x L1 ι1 H1 kv s1 e1 ex1 rx h1 => seqG s1 e1 h1 fun y L2 ι2 H2 w s2 e2 ex2 ry h2 => ?_
    cases q : keyOf x with
    | none => rw [q] at h2; exact False.elim h2
    | some key =>
      rw [q] at h2
      refine pairs_of (fun ps H3 => Q' ((kv, w) :: ps) H3) r s2 e2 (h2.bind.mono fun ps L3 ι3 H3 ex3 s3 k3 qs kr => ?_)
      have := k3.ok s3 ((key, w) :: qs) ⟨(key, w), qs, rfl, rfl, RV.mono ex3 _ _ ry, kr⟩
      rw [List.map_cons, ← keyOf_kV q (RV.mono ex2 _ _ rx)] at this
      exact this
theorem KR.merge : ∀ {ps : List (L2.Key × D)} {qs : List (L2.Key × L2.V)} {as : List (L2.Key × D)} {bs : List (L2.Key × L2.V)}, KR C Z ι H ps qs → KR C Z ι H as bs → KR C Z ι H (ps.foldl (fun acc p => putK acc p.1 p.2) as) (L2.mergeK bs qs)
  | [], qs, as, bs, h, k => by
    have : qs = [] := h
    subst this
    exact k
  | p :: ps, qs, as, bs, h, k => by
    obtain ⟨q, s, rfl, e, r, t⟩ := h
    have := KR.merge t (k.put p.1 r)
    rw [e] at this
    rw [List.foldl_cons, e]
    exact this
theorem s_dnew {kvs : Kvs} {keys : List (Option Expr)} {values : List Expr} (h : L2.PPs X pos keys values (trsOf C W cf kvs)) (hall : keys.all (·.isSome) = true) (hl : keys.length = values.length) (h0 : keys ≠ []) (h15 : keys.length ≤ 15) :
    L2.PE X (.Dict keys values pos) (rE C W (evE cf (.dnew false kvs))) := by
  refine pe_imp (L2.pe_disp h hall hl h0 h15) fun σ H Q ⟨Z, ι, L, ρ, S, E, h⟩ p hp => ?_
  simp only [evE] at h
  have z0 : ZOk Z H (zAdd Z p) := fun a z => z.elim .inl fun e => .inr (e ▸ hp)
  have S' : SO C (zAdd Z p) ι (L2.upd H p (.dK [])) L := S.add hp
  have E' : ER C (zAdd Z p) ι (L2.upd H p (.dK [])) ρ σ := (E.addz z0).mono (ex_upd hp)
  have pn := S.fresh hp
  have x0 : Ex ι H ι (L2.upd H p (.dK [])) := ex_upd hp
  refine pairs_of (Z := zAdd Z p) (W := W) _ kvs S' E' ?_
  cases e : evK cf kvs ρ L with
  | bad => rw [e] at h; exact h
  | exc c d L1 =>
    rw [e] at h
    intro v ι' H' dx x s rv hd
    exact h v ι' H' dx (x0.trans x) (s.weak zle) (RV.weak zle _ _ rv) hd
  | ok ps L1 =>
    rw [e] at h
    simp only [R.bind, Bool.false_eq_true, if_false] at h
    intro ι' H' x s qs kr
    have hp' := x.old p _ L2.upd_same pn
    have pn' := x.notin L2.upd_same pn
    split at h
    · rename_i h15'
      refine ⟨hp', qs, rfl, by rw [← kr.length]; exact h15', ?_⟩
      have s2 := s.adoptO (o := .dK []) hp' rfl pn' ⟨[], hp', rfl⟩
      have x2 : Ex ι H (ι' ++ [p]) H' := ex_adopt (x0.trans x) hp
      have ht : ∀ xs, H' p ≠ some (.tup xs) := fun ys q => by rw [hp'] at q; cases q
      have hx : ∀ fs, H' p ≠ some (.xd fs) := fun ys q => by rw [hp'] at q; cases q
      have ixp : (ι' ++ [p])[L1.length]? = some p := by rw [← s.len, List.getElem?_append_right (Nat.le_refl _)]; simp
      have xs3 : Ex (ι' ++ [p]) H' (ι' ++ [p]) (L2.upd H' p (.dK (L2.mergeK [] qs))) := ex_set (List.mem_of_getElem? ixp)
      have s3 := s2.set (o := .dK (ps.foldl (fun acc p => putK acc p.1 p.2) [])) (u := .dK (L2.mergeK [] qs)) ixp ⟨_, L2.upd_same, KR.mono xs3 (KR.merge (as := []) (bs := []) (KR.adopt ht hx kr) (show ([] : List (L2.Key × L2.V)) = [] from rfl))⟩
      have el : (L1 ++ [O.dK []]).set L1.length (.dK (ps.foldl (fun acc p => putK acc p.1 p.2) [])) = L1 ++ [.dK (ps.foldl (fun acc p => putK acc p.1 p.2) [])] := by
        rw [List.set_append_right _ _ (Nat.le_refl _)]
        simp
      rw [el] at s3
      exact h _ _ (x2.trans xs3) s3 _ (rv_last s.len)
    · exact False.elim h
theorem pps_nil' : L2.PPs X pos [] [] (trsOf C W cf .nil) := L2.pps_nil
theorem pps_cons' {k v : Expr} {ck cv : E} {r : Kvs} {ks : List (Option Expr)} {vs : List Expr} (hk : L2.PE X k (rE C W (evE cf ck))) (hv : L2.PE X v (rE C W (evE cf cv))) (hr : L2.PPs X pos ks vs (trsOf C W cf r)) :
    L2.PPs X pos (some k :: ks) (v :: vs) (trsOf C W cf (.cons ck cv r)) := L2.pps_cons hk hv hr
end
end
end EV
end

section
set_option autoImplicit false
/-! The evaluator's word about statements. -/
namespace EV
open PySem PySem.Spec PyProof.Rows

section
variable (C : Cfg) (Z : Addr → Prop) (W : L2.WX)
/-- behind a statement -/
def AftS (ι : List Addr) (H : L2.Hp) (r : SR) (D : L2.Ends) : Prop := match r with
  | .next ρ L' => ∀ σ' ι' H', Ex ι H ι' H' → SO C Z ι' H' L' → ER C Z ι' H' ρ σ' → D.nx σ' H'
  | .brk ρ L' => ∀ σ' ι' H', Ex ι H ι' H' → SO C Z ι' H' L' → ER C Z ι' H' ρ σ' → D.bk σ' H'
  | .cont ρ L' => ∀ σ' ι' H', Ex ι H ι' H' → SO C Z ι' H' L' → ER C Z ι' H' ρ σ' → D.ct σ' H'
  | .ret d L' => ∀ v ι' H', Ex ι H ι' H' → SO C Z ι' H' L' → RV C Z ι' H' d v → D.rt v H'
  | .exc c d ρ L' => ∀ v σ' ι' H' dx, Ex ι H ι' H' → SO C Z ι' H' L' → ER C Z ι' H' ρ σ' → RV C Z ι' H' d v → H' dx = some (.xd [(C.fld c, v)]) → W (.ref (C.cls c)) (some dx) σ' H'
  | .bad => False
end
def rS (C : Cfg) (W : L2.WX) (m : Env → Store → SR) : L2.TS := fun D σ H => ∃ Z ι L ρ, SO C Z ι H L ∧ ER C Z ι H ρ σ ∧ AftS C Z W ι H (m ρ L) D

section
variable {C : Cfg} {Z : Addr → Prop} {W : L2.WX} {σ : L2.St} {ι ι' : List Addr} {H H' : L2.Hp} {L : Store} {ρ : Env} {D : L2.Ends}
theorem AftS.ext {r : SR} (h : AftS C Z W ι H r D) (x : Ex ι H ι' H') : AftS C Z W ι' H' r D := by
  cases r with
  | next ρ L => exact fun σ' ι2 H2 y => h σ' ι2 H2 (x.trans y)
  | brk ρ L => exact fun σ' ι2 H2 y => h σ' ι2 H2 (x.trans y)
  | cont ρ L => exact fun σ' ι2 H2 y => h σ' ι2 H2 (x.trans y)
  | ret d L => exact fun v ι2 H2 y => h v ι2 H2 (x.trans y)
  | exc c d ρ L => exact fun v σ' ι2 H2 dx y => h v σ' ι2 H2 dx (x.trans y)
  | bad => exact h
theorem AftS.imp {r : SR} {D' : L2.Ends} (h : AftS C Z W ι H r D) (h1 : ∀ σ H, D.nx σ H → D'.nx σ H) (h2 : ∀ v H, D.rt v H → D'.rt v H) (h3 : ∀ σ H, D.bk σ H → D'.bk σ H) (h4 : ∀ σ H, D.ct σ H → D'.ct σ H) : AftS C Z W ι H r D' := by
  cases r with
  | next ρ L => exact fun σ' ι2 H2 y s e => h1 _ _ (h σ' ι2 H2 y s e)
  | brk ρ L => exact fun σ' ι2 H2 y s e => h3 _ _ (h σ' ι2 H2 y s e)
  | cont ρ L => exact fun σ' ι2 H2 y s e => h4 _ _ (h σ' ι2 H2 y s e)
  | ret d L => exact fun v ι2 H2 y s e => h2 _ _ (h v ι2 H2 y s e)
  | exc c d ρ L => exact h
  | bad => exact h
/-- first the expression m, then f -/
theorem thenG {α γ : Type} {rel : (Addr → Prop) → List Addr → L2.Hp → α → γ → Prop} {m : Env → M α} {f : α → Store → SR} {Q : γ → L2.Hp → Prop} (S : SO C Z ι H L) (E : ER C Z ι H ρ σ) (h : AftS C Z W ι H ((m ρ L).then ρ f) D)
    (k : ∀ x L1 ι1 H1 v, SO C Z ι1 H1 L1 → ER C Z ι1 H1 ρ σ → Ex ι H ι1 H1 → rel Z ι1 H1 x v → AftS C Z W ι1 H1 (f x L1) D → Q v H1) : rG C W m rel σ H Q := by
  refine ⟨Z, ι, L, ρ, S, E, ?_⟩
  cases e : m ρ L with
  | ok a L1 =>
    rw [e] at h
    exact fun ι1 H1 x s b r => k a L1 ι1 H1 b s (E.mono x) x r (h.ext x)
  | exc c d L1 =>
    rw [e] at h
    exact fun v ι1 H1 dx x s r hd => h v σ ι1 H1 dx x s (E.mono x) r hd
  | bad => rw [e] at h; exact h
theorem AftS.seq {r : SR} {f : Env → Store → SR} (h : AftS C Z W ι H (r.seq f) D) : AftS C Z W ι H r { D with nx := rS C W f D } := by
  cases r with
  | next ρ L => exact fun σ' ι' H' x s e => ⟨Z, ι', L, ρ, s, e, h.ext x⟩
  | brk ρ L => exact h
  | cont ρ L => exact h
  | ret d L => exact h
  | exc c d ρ L => exact h
  | bad => exact h
end
theorem ps_imp {X : L2.Cx} {st : Stmt} {t t' : L2.TS} (h : L2.PS X st t) (k : ∀ D σ H, t' D σ H → t D σ H) : L2.PS X st t' := ⟨fun pins s σ H D I w => h.run pins s σ H D I (k D σ H w)⟩
theorem pss_imp {X : L2.Cx} {st : List Stmt} {t t' : L2.TS} (h : L2.PSs X st t) (k : ∀ D σ H, t' D σ H → t D σ H) : L2.PSs X st t' := ⟨fun pins s σ H D I w => h.run pins s σ H D I (k D σ H w)⟩

section
variable {X : L2.Cx} {C : Cfg} {cf : Nat → List D → M D} {W : L2.WX} {pos : Pos}
/-! ### lists of statements -/
theorem z_nil : L2.PSs X [] (rS C W (evSs cf .nil)) := pss_imp L2.pss_nil fun D σ H ⟨Z, ι, L, ρ, S, E, h⟩ => by
  simp only [evSs] at h
  exact h σ ι H .refl S E
theorem z_cons {st : Stmt} {r : List Stmt} {c : EV.S} {cr : Ss} (h1 : L2.PS X st (rS C W (evS cf c))) (h2 : L2.PSs X r (rS C W (evSs cf cr))) : L2.PSs X (st :: r) (rS C W (evSs cf (.cons c cr))) := pss_imp (L2.pss_cons h1 h2) fun D σ H ⟨Z, ι, L, ρ, S, E, h⟩ => by
  simp only [evSs] at h
  exact ⟨Z, ι, L, ρ, S, E, h.seq⟩
/-- a docstring at the front -/
theorem z_doc {x : Str} {j : Nat} {p1 p2 : Pos} {r : List Stmt} {cr : Ss} (h2 : L2.PSs X r (rS C W (evSs cf cr))) : L2.PSs X (.Expr (.Constant (.str x) j p1) p2 :: r) (rS C W (evSs cf cr)) := pss_imp (L2.pss_cons L2.ps_doc h2) fun D σ H h => h

/-! ### stores -/
theorem z_set {i : Nat} {x : Str} {e : Expr} {ce : E} {p' : Pos} (hN : X.N.Nodup) (hi : X.N[i]? = some x) (hx : L2.Loc X.env.scope x) (hf : X.fn x = true ∨ X.env.scope.names.lookup x = some .local) (hs : swapsWith e (some (.Name x p')) pos.line X.env = pure false) (he : L2.PE X e (rE C W (evE cf ce))) :
    L2.PS X (.Assign [.Name x p'] e pos) (rS C W (evS cf (.set i ce))) := ps_imp (L2.ps_set hN hi hx he hs hf) fun D σ H ⟨Z, ι, L, ρ, S, E, h⟩ => by
  simp only [evS] at h
  refine thenG S E h fun x L1 ι1 H1 v s1 e1 ex1 rx h1 => h1 _ ι1 H1 .refl s1 (e1.set i rx)
/-- what ps_asg or f_setLc asks of name = value -/
theorem set_of {i : Nat} {ce : E} {D : L2.Ends} {σ : L2.St} {H : L2.Hp} (h : rS C W (evS cf (.set i ce)) D σ H) : L2.tAsg (rE C W (evE cf ce)) (L2.gName i) D σ H := by
  obtain ⟨Z, ι, L, ρ, S, E, h⟩ := h
  simp only [evS] at h
  exact thenG S E h fun x L1 ι1 H1 v s1 e1 ex1 rx h1 => h1 _ ι1 H1 .refl s1 (e1.set i rx)
theorem z_asg {tg e : Expr} {t : Tg} {ce : E} (he : L2.PE X e (rE C W (evE cf ce))) (hg : L2.PG X tg (rB C t)) (hs : swapsWithSole [tg] e pos.line X.env = pure false) (hw : swappedStores [tg] e X.env = pure none)
    (h1 : (assignEach [tg] X.env).map (·.2) = [assign tg X.env]) : L2.PS X (.Assign [tg] e pos) (rS C W (evS cf (.asg t ce))) := ps_imp (L2.ps_asg he hg hs hw h1) fun D σ H ⟨Z, ι, L, ρ, S, E, h⟩ => by
  simp only [evS] at h
  refine thenG S E h fun x L1 ι1 H1 v s1 e1 ex1 rx h1 => ?_
  split at h1
  · rename_i ρ' hb
    exact ⟨Z, ι1, L1, ρ, x, ρ', s1, e1, rx, hb, fun σ' E' _ => h1 σ' ι1 H1 .refl s1 E'⟩
  · exact False.elim h1
theorem ER.setAll {Z : Addr → Prop} {ι : List Addr} {H : L2.Hp} : ∀ {is : List Nat} {ds : List EV.D} {vs : List L2.V} {ρ : Env} {σ : L2.St}, ER C Z ι H ρ σ → RVs C Z ι H ds vs → ER C Z ι H (setAll is ds ρ) ((is.zip vs).foldl (fun σ p => σ.set p.1 (some p.2)) σ)
  | [], ds, vs, ρ, σ, h, r => by cases ds <;> exact h
  | i :: is, [], vs, ρ, σ, h, r => by
    unfold RVs at r
    subst r
    exact h
  | i :: is, d :: ds, vs, ρ, σ, h, r => by
    obtain ⟨v, w, rfl, r1, r2⟩ := r.uncons
    have := ER.setAll (is := is) (ds := ds) (vs := w) (h.set i r1) r2
    exact this
theorem z_par2 {i j : Nat} {x y : Str} {a b : Expr} {ces : Es} {px py pt pt2 : Pos} {kt k2 : Nat} (hc : X.calm = true) (hN : X.N.Nodup) (hi : X.N[i]? = some x) (hj : X.N[j]? = some y) (hij : i ≠ j)
    (hx : X.env.scope.names.lookup x = some .local) (hy : X.env.scope.names.lookup y = some .local) (ha : L2.PA X [a, b] (rA C W (evEs cf ces)))
    (hw : swappedStores [.Tuple [.Name x px, .Name y py] kt pt] (.Tuple [a, b] k2 pt2) X.env = pure (some [x, y])) :
    L2.PS X (.Assign [.Tuple [.Name x px, .Name y py] kt pt] (.Tuple [a, b] k2 pt2) pos) (rS C W (evS cf (.par [i, j] ces))) := ps_imp (L2.ps_par hc hN hi hj hij hx hy ha hw) fun D σ H ⟨Z, ι, L, ρ, S, E, h⟩ => by
  simp only [evS] at h
  refine thenG S E h fun xs L1 ι1 H1 vs s1 e1 ex1 rx h1 => ?_
  split at h1
  · rename_i hl
    have e2 : vs.length = 2 := by rw [← rx.length]; exact hl
    match vs, e2 with
    | [v, w], _ => exact ⟨v, w, rfl, h1 _ ι1 H1 .refl s1 (e1.setAll (is := [i, j]) rx)⟩
  · exact False.elim h1
theorem ps_par3 {i j k : Nat} {x y z : Str} {a b c : Expr} {ta : L2.TA} {px py pz pt pt2 : Pos} {kt k2 : Nat} (hc : X.calm = true) (hN : X.N.Nodup) (hi : X.N[i]? = some x) (hj : X.N[j]? = some y) (hk : X.N[k]? = some z) (hij : i ≠ j) (hik : i ≠ k) (hjk : j ≠ k)
    (hx : X.env.scope.names.lookup x = some .local) (hy : X.env.scope.names.lookup y = some .local) (hz : X.env.scope.names.lookup z = some .local) (ha : L2.PA X [a, b, c] ta)
    (hw : swappedStores [.Tuple [.Name x px, .Name y py, .Name z pz] kt pt] (.Tuple [a, b, c] k2 pt2) X.env = pure (some [x, y, z])) :
    L2.PS X (.Assign [.Tuple [.Name x px, .Name y py, .Name z pz] kt pt] (.Tuple [a, b, c] k2 pt2) pos) (fun D σ H => ta σ H fun vs H1 => ∃ u v w, vs = [u, v, w] ∧ D.nx (((σ.set i (some u)).set j (some v)).set k (some w)) H1) := by
  refine ⟨fun pins s σ H D I h => ?_⟩
  rw [exec_Assign_arm]
  refine wpAny_bind (wpAny_standAt ?_)
  rw [show swapsWithSole [.Tuple [.Name x px, .Name y py, .Name z pz] kt pt] (.Tuple [a, b, c] k2 pt2) pos.line X.env = pure false from rfl]
  refine wpAny_bind (wpAny_pure ?_)
  rw [if_neg (by decide)]
  refine wpAny_bind (Tuple_ (L2.thn (ha.run _ pins s σ H _ I h) fun us s1 ⟨vs, H1, I1, r1, q1⟩ => ?_))
  obtain ⟨u, v, w, e1, q1⟩ := q1
  subst e1
  obtain ⟨u1, u2, u3, rfl, ru, rv, rw'⟩ : ∃ u1 u2 u3, us = [u1, u2, u3] ∧ L2.RelV u u1 ∧ L2.RelV v u2 ∧ L2.RelV w u3 := by
    cases r1 with
    | cons p q => cases q with
      | cons p' q' => cases q' with
        | cons p2 q2 => cases q2; exact ⟨_, _, _, rfl, p, p', p2⟩
  refine wpAny_newObj_type ?_ (by show 3 ≤ sizeLine; decide)
  have I2 : L2.Inv X pins σ H1 { s1 with heap := s1.heap.push { cls := .type "tuple", data := .seq [u1, u2, u3].toArray } } := I1.kept (t' := s1.toks) fun b o e => Heap.get?_push_of_some _ e
  rw [hw]
  refine wpAny_bind (wpAny_pure ?_)
  show wpAny (model X.prog X.w) X.A (do rule "assign.swapped-stores"; let items ← unpackItems (.ref s1.heap.objs.size) 3 none; assignInOrder [fun v => bindName X.env z v, fun v => bindName X.env y v, fun v => bindName X.env x v] items.reverse; pure Flow.next) _ _ _
  refine wpAny_bind (wpAny_rule (wpAny_bind (unpackItems_tuple (items := #[u1, u2, u3]) (I.ok.hd hc) (IsTup.new s1.heap _) fun h' hx' => ?_)))
  have I3 := I2.kept (h' := h') (t' := s1.toks) fun b o e => hx' b o (Nat.ne_of_lt (Heap.lt_size e)) e
  show wpAny _ _ (assignInOrder [fun v => bindName X.env z v, fun v => bindName X.env y v, fun v => bindName X.env x v] [u3, u2, u1] >>= fun _ => pure Flow.next) _ _ _
  refine wpAny_bind (assignInOrder_cons (wpAny_bindName (L2.store_ok I3 hN hk (.inl hz) rw' (fun s2 I4 => ?_) (.inr hz))))
  refine assignInOrder_cons (wpAny_bindName (L2.store_ok I4 hN hj (.inl hy) rv (fun s3 I5 => ?_) (.inr hy)))
  refine assignInOrder_cons (wpAny_bindName (L2.store_ok I5 hN hi (.inl hx) ru (fun s3 I6 => assignInOrder_nil (wpAny_pure ?_)) (.inr hx)))
  have e : ((σ.set k (some w)).set j (some v)).set i (some u) = ((σ.set i (some u)).set j (some v)).set k (some w) := by
    rw [List.set_comm _ _ (Ne.symm hjk), List.set_comm _ _ (Ne.symm hik), List.set_comm _ _ (Ne.symm hij)]
  rw [e] at I6
  exact ⟨_, H1, I6, q1⟩
theorem z_par3 {i j k : Nat} {x y z : Str} {a b c : Expr} {ces : Es} {px py pz pt pt2 : Pos} {kt k2 : Nat} (hc : X.calm = true) (hN : X.N.Nodup) (hi : X.N[i]? = some x) (hj : X.N[j]? = some y) (hk : X.N[k]? = some z) (hij : i ≠ j) (hik : i ≠ k) (hjk : j ≠ k)
    (hx : X.env.scope.names.lookup x = some .local) (hy : X.env.scope.names.lookup y = some .local) (hz : X.env.scope.names.lookup z = some .local) (ha : L2.PA X [a, b, c] (rA C W (evEs cf ces)))
    (hw : swappedStores [.Tuple [.Name x px, .Name y py, .Name z pz] kt pt] (.Tuple [a, b, c] k2 pt2) X.env = pure (some [x, y, z])) :
    L2.PS X (.Assign [.Tuple [.Name x px, .Name y py, .Name z pz] kt pt] (.Tuple [a, b, c] k2 pt2) pos) (rS C W (evS cf (.par [i, j, k] ces))) := ps_imp (ps_par3 hc hN hi hj hk hij hik hjk hx hy hz ha hw) fun D σ H ⟨Z, ι, L, ρ, S, E, h⟩ => by
  simp only [evS] at h
  refine thenG S E h fun xs L1 ι1 H1 vs s1 e1 ex1 rx h1 => ?_
  split at h1
  · rename_i hl
    have e2 : vs.length = 3 := by rw [← rx.length]; exact hl
    match vs, e2 with
    | [u, v, w], _ => exact ⟨u, v, w, rfl, h1 _ ι1 H1 .refl s1 (e1.setAll (is := [i, j, k]) rx)⟩
  · exact False.elim h1
/-- o[i] = e of a list -/
theorem z_setIx {o i e : Expr} {co ci ce : E} {p' : Pos} (ho : L2.PE X o (rE C W (evE cf co))) (hi : L2.PE X i (rE C W (evE cf ci))) (he : L2.PE X e (rE C W (evE cf ce)))
    (ha : ∀ v, assign (.Subscript o i p') X.env v = (do
      let ov ← holding [v] (eval o X.env)
      let iv ← holding [v, ov] (eval i X.env)
      standAt p'
      holding [v, ov, iv] (setItem ov iv v)
      release [v, ov, iv] []))
    (hs : swapsWithSole [.Subscript o i p'] e pos.line X.env = pure false) (hw : swappedStores [.Subscript o i p'] e X.env = pure none) : L2.PS X (.Assign [.Subscript o i p'] e pos) (rS C W (evS cf (.setIx co ci ce))) :=
  ps_imp (L2.ps_asg he (L2.pg_sub ho hi L2.set_list ha) hs hw rfl) fun D σ H ⟨Z, ι, L, ρ, S, E, h⟩ => by
  simp only [evS] at h
  refine thenG S E h fun x L1 ι1 H1 v s1 e1 ex1 rx h1 => thenG s1 e1 h1 fun y L2 ι2 H2 w s2 e2 ex2 ry h2 => thenG s2 e2 h2 fun z L3 ι3 H3 u s3 e3 ex3 rz h3 => ?_
  split at h3
  · rename_i k n
    have ry3 := RV.mono ex3 _ _ ry
    unfold RV at ry3
    obtain ⟨a, ea, rfl⟩ := ry3
    cases q : L3[k]? with
    | none => rw [q] at h3; exact False.elim h3
    | some ob =>
      rw [q] at h3
      cases ob with
      | dK _ => exact False.elim h3
      | dT _ => exact False.elim h3
      | lst ds =>
        simp only at h3
        split at h3
        · rename_i j hj
          obtain ⟨xs, hq, rq⟩ := s3.at_ q ea
          have xx := ex_set (H := H3) (u := .lst (xs.set j v)) (List.mem_of_getElem? ea)
          have rx3 := RV.mono (ex2.trans ex3) _ _ rx
          exact ⟨a, xs, n, j, rfl, rv_unInt rz, hq, by rw [← rq.length]; exact hj, h3 _ ι3 _ xx (s3.set ea ⟨_, _root_.L2.upd_same, RVs.mono xx _ _ (rq.set j rx3)⟩) (e3.mono xx)⟩
        · exact False.elim h3
  · exact False.elim h3
/-- o[i] = e of a dict -/
theorem z_setK {o i e : Expr} {co ci ce : E} {p' : Pos} (hu : X.A.units + 65 < cLine) (ho : L2.PE X o (rE C W (evE cf co))) (hi : L2.PE X i (rE C W (evE cf ci))) (he : L2.PE X e (rE C W (evE cf ce)))
    (ha : ∀ v, assign (.Subscript o i p') X.env v = (do
      let ov ← holding [v] (eval o X.env)
      let iv ← holding [v, ov] (eval i X.env)
      standAt p'
      holding [v, ov, iv] (setItem ov iv v)
      release [v, ov, iv] []))
    (hs : swapsWithSole [.Subscript o i p'] e pos.line X.env = pure false) (hw : swappedStores [.Subscript o i p'] e X.env = pure none) : L2.PS X (.Assign [.Subscript o i p'] e pos) (rS C W (evS cf (.setK co ci ce))) :=
  ps_imp (L2.ps_asg he (L2.pg_sub ho hi (L2.set_dict (by omega)) ha) hs hw rfl) fun D σ H ⟨Z, ι, L, ρ, S, E, h⟩ => by
  simp only [evS] at h
  refine thenG S E h fun x L1 ι1 H1 v s1 e1 ex1 rx h1 => thenG s1 e1 h1 fun y L2 ι2 H2 w s2 e2 ex2 ry h2 => thenG s2 e2 h2 fun z L3 ι3 H3 u s3 e3 ex3 rz h3 => ?_
  have rx3 := RV.mono (ex2.trans ex3) _ _ rx
  split at h3
  · rename_i k
    have ry3 := RV.mono ex3 _ _ ry
    unfold RV at ry3
    obtain ⟨a, ea, rfl⟩ := ry3
    have am := List.mem_of_getElem? ea
    split at h3
    · rename_i zz _ _ kvs q
      cases e : keyOf zz with
      | none => rw [e] at h3; exact False.elim h3
      | some key =>
        rw [e] at h3
        simp only at h3
        split at h3
        · rename_i hl
          obtain ⟨kv, hq, rq⟩ := s3.at_ q ea
          have xx := ex_set (H := H3) (u := .dK (_root_.L2.putK kv key v)) am
          refine ⟨a, _, rfl, .inl ⟨kv, key, hq, keyOf_kV e rz, by rw [← rq.length, ← big_eq]; exact hl, rfl⟩, ?_⟩
          exact h3 _ ι3 _ xx (s3.set ea ⟨_, _root_.L2.upd_same, KR.mono xx (rq.put key rx3)⟩) (e3.mono xx)
        · exact False.elim h3
    · rename_i kvs ks q
      cases e : keysOf ks with
      | none => rw [e] at h3; exact False.elim h3
      | some key =>
        rw [e] at h3
        simp only at h3
        split at h3
        · rename_i hl
          obtain ⟨kv, hq, rq⟩ := s3.at_ q ea
          obtain ⟨b, ys, rfl, hb, nb, rs⟩ := rv_tupOf rz
          have ek := keysOf_kV e rs
          subst ek
          have xx := ex_set (H := H3) (u := .dT (_root_.L2.putK kv key v)) am
          refine ⟨a, _, rfl, .inr ⟨kv, key, b, hq, rfl, hb, by rw [← rq.length, ← big_eq]; exact hl, rfl⟩, ?_⟩
          exact h3 _ ι3 _ xx (s3.set ea ⟨_, _root_.L2.upd_same, KR.mono xx (rq.put key rx3)⟩) (e3.mono xx)
        · exact False.elim h3
    · exact False.elim h3
  · exact False.elim h3
end
end EV
end

section
set_option autoImplicit false
/-! The evaluator's word about statements: flow, loops. -/
namespace EV
open PySem PySem.Spec PyProof.Rows

section
variable {X : L2.Cx} {C : Cfg} {cf : Nat → List D → M D} {W : L2.WX} {pos : Pos}
theorem z_aug {i : Nat} {x : Str} {e : Expr} {ce : E} {o : Bin} {op : Operator} {p' : Pos} (ho : (o = .add ∧ op = .Add) ∨ (o = .sub ∧ op = .Sub)) (hN : X.N.Nodup) (hi : X.N[i]? = some x) (hx : L2.Loc X.env.scope x) (hf : X.fn x = true ∨ X.env.scope.names.lookup x = some .local) (he : L2.PE X e (rE C W (evE cf ce))) :
    L2.PS X (.AugAssign (.Name x p') op e pos) (rS C W (evS cf (.aug i o ce))) := by
  rcases ho with ⟨rfl, rfl⟩ | ⟨rfl, rfl⟩
  · refine ps_imp (L2.ps_aug hN hi hx he L2.iop_add hf) fun D σ H ⟨Z, ι, L, ρ, S, E, h⟩ => ?_
    simp only [evS] at h
    cases e : ρ[i]? with
    | none => rw [e] at h; exact False.elim h
    | some od => cases od with
      | none => rw [e] at h; exact False.elim h
      | some d =>
        rw [e] at h
        obtain ⟨v, hv, rv⟩ := E.get i d e
        refine ⟨v, hv, thenG S E h fun y L1 ι1 H1 w s1 e1 ex1 ry h1 => ?_⟩
        split at h1
        · exact ⟨_, _, rv_unInt rv, rv_unInt ry, h1 _ ι1 H1 .refl s1 (e1.set i rv_int)⟩
        · exact False.elim h1
  · refine ps_imp (L2.ps_aug hN hi hx he L2.iop_sub hf) fun D σ H ⟨Z, ι, L, ρ, S, E, h⟩ => ?_
    simp only [evS] at h
    cases e : ρ[i]? with
    | none => rw [e] at h; exact False.elim h
    | some od => cases od with
      | none => rw [e] at h; exact False.elim h
      | some d =>
        rw [e] at h
        obtain ⟨v, hv, rv⟩ := E.get i d e
        refine ⟨v, hv, thenG S E h fun y L1 ι1 H1 w s1 e1 ex1 ry h1 => ?_⟩
        split at h1
        · exact ⟨_, _, rv_unInt rv, rv_unInt ry, h1 _ ι1 H1 .refl s1 (e1.set i rv_int)⟩
        · exact False.elim h1
theorem z_ex {e : Expr} {ce : E} (hs : swapsWith e none pos.line X.env = pure false) (he : L2.PE X e (rE C W (evE cf ce))) : L2.PS X (.Expr e pos) (rS C W (evS cf (.ex ce))) := ps_imp (L2.ps_expr he hs) fun D σ H ⟨Z, ι, L, ρ, S, E, h⟩ => by
  simp only [evS] at h
  exact thenG S E h fun x L1 ι1 H1 v s1 e1 ex1 rx h1 => h1 _ ι1 H1 .refl s1 e1
theorem z_ret {e : Expr} {ce : E} (he : L2.PE X e (rE C W (evE cf ce))) : L2.PS X (.Return (some e) pos) (rS C W (evS cf (.ret ce))) := ps_imp (L2.ps_ret he) fun D σ H ⟨Z, ι, L, ρ, S, E, h⟩ => by
  simp only [evS] at h
  exact thenG S E h fun x L1 ι1 H1 v s1 e1 ex1 rx h1 => h1 v ι1 H1 .refl s1 rx
theorem z_retN : L2.PS X (.Return none pos) (rS C W (evS cf .retN)) := ps_imp L2.ps_retN fun D σ H ⟨Z, ι, L, ρ, S, E, h⟩ => by
  simp only [evS] at h
  exact h _ ι H .refl S rv_non
theorem z_pass : L2.PS X (.Pass pos) (rS C W (evS cf .pass)) := ps_imp L2.ps_pass fun D σ H ⟨Z, ι, L, ρ, S, E, h⟩ => by
  simp only [evS] at h
  exact h _ ι H .refl S E
theorem z_brk : L2.PS X (.Break pos) (rS C W (evS cf .brk)) := ps_imp L2.ps_break fun D σ H ⟨Z, ι, L, ρ, S, E, h⟩ => by
  simp only [evS] at h
  exact h _ ι H .refl S E
theorem z_cont : L2.PS X (.Continue pos) (rS C W (evS cf .cont)) := ps_imp L2.ps_continue fun D σ H ⟨Z, ι, L, ρ, S, E, h⟩ => by
  simp only [evS] at h
  exact h _ ι H .refl S E
theorem then_bool {ρ : Env} {L : Store} {m : Env → M D} {f : Bool → Store → SR} {r : SR} (h : ((m ρ L).then ρ fun x L1 => match x with
    | .bl true => f true L1
    | .bl false => f false L1
    | _ => .bad) = r) : ((boolM m ρ L).then ρ f) = r := by
  subst h
  unfold boolM
  cases m ρ L with
  | bad => rfl
  | exc c d L1 => rfl
  | ok d L1 => cases d with
    | bl b => cases b <;> rfl
    | _ => rfl
theorem z_ife {c : Expr} {a b : List Stmt} {cc : E} {ca cb : Ss} (hc : L2.PT X c (rT C W (evE cf cc))) (ha : L2.PSs X a (rS C W (evSs cf ca))) (hb : L2.PSs X b (rS C W (evSs cf cb))) : L2.PS X (.If c a b pos) (rS C W (evS cf (.ife cc ca cb))) := ps_imp (L2.ps_if hc ha hb) fun D σ H ⟨Z, ι, L, ρ, S, E, h⟩ => by
  simp only [evS] at h
  have h' : AftS C Z W ι H ((boolM (evE cf cc) ρ L).then ρ fun b L1 => if b = true then evSs cf ca ρ L1 else evSs cf cb ρ L1) D := by
    rw [then_bool rfl]
    exact h
  refine thenG S E h' fun x L1 ι1 H1 v s1 e1 ex1 rx h1 => ?_
  subst rx
  cases x with
  | true => exact ⟨Z, ι1, L1, ρ, s1, e1, h1⟩
  | false => exact ⟨Z, ι1, L1, ρ, s1, e1, h1⟩
/-! ### loops -/
theorem z_for {tg iter : Expr} {body : List Stmt} {ct : Tg} {ci : It} {cb : Ss} (hp : PassesOwn (model X.prog X.w) X.A X.env X.xe) (hc : X.calm = true) (hi : L2.PI X tg iter (rI C W (evI cf ci))) (hg : L2.PG X tg (rB C ct)) (hb : L2.PSs X body (rS C W (evSs cf cb)))
    (hs : ∀ x, foldedSetIterable iter X.env x = pure x) : L2.PS X (.For tg iter body [] pos) (rS C W (evS cf (.for_ ct ci cb))) := ps_imp (L2.ps_for hp hc hi hg hb hs) fun D σ H ⟨Z, ι, L, ρ, S, E, h⟩ => by
  simp only [evS] at h
  refine thenG S E h fun w L1 ι1 H1 J s1 e1 ex1 wk h1 => ?_
  unfold forW at h1
  generalize hbd : (fun (d : EV.D) (ρ : Env) (L : Store) => match bindT ct d ρ with
    | some ρ' => evSs cf cb ρ' L
    | none => SR.bad) = b at h1
  refine ⟨fun i m σ H => ∃ ι' L' ρ', Ex ι1 H1 ι' H ∧ SO C Z ι' H L' ∧ ER C Z ι' H ρ' σ ∧ AftS C Z W ι' H (forG b w m i ρ' L') D, ⟨fuelW w, ι1, L1, ρ, .refl, s1, e1, h1⟩, ?_⟩
  rintro i m σ' H' ⟨ι', L', ρ', ex, s', e', K⟩
  cases m with
  | zero => exact False.elim K
  | succ m =>
    unfold forG at K
    cases hi : items w L' with
    | none => rw [hi] at K; exact False.elim K
    | some ds =>
      rw [hi] at K
      simp only at K
      obtain ⟨wgo, wstop⟩ := wk Z i ι' H' L' ds (fun a z => .inl z) ex s' hi
      cases hd : ds[i]? with
      | none =>
        rw [hd] at K
        exact .inl ⟨wstop hd, K _ ι' H' .refl s' e'⟩
      | some d =>
        rw [hd] at K
        have K : AftS C Z W ι' H' (match b d ρ' L' with
          | .next ρ1 L1 => forG b w m (i + 1) ρ1 L1
          | .cont ρ1 L1 => forG b w m (i + 1) ρ1 L1
          | .brk ρ1 L1 => .next ρ1 L1
          | r => r) D := K
        obtain ⟨go, yl⟩ := wgo d hd
        refine .inr ⟨go, fun σ' H' => ∃ ι' L' ρ', Ex ι1 H1 ι' H' ∧ SO C Z ι' H' L' ∧ ER C Z ι' H' ρ' σ' ∧ AftS C Z W ι' H' (forG b w m (i + 1) ρ' L') D, fun σ' H' q => ⟨m, Nat.lt_succ_self m, q⟩, fun x H'' hy => ?_⟩
        obtain ⟨sm, rx⟩ := yl x H'' hy
        have s2 := s'.same sm
        have ex2 := ex_same (ι := ι') sm
        have K2 := K.ext ex2
        rw [← hbd] at K2
        simp only at K2
        cases hbt : bindT ct d ρ' with
        | none => rw [hbt] at K2; exact False.elim K2
        | some ρ2 =>
          rw [hbt] at K2
          simp only at K2
          rw [hbd] at K2
          refine ⟨Z, ι', L', ρ', d, ρ2, s2, e'.mono ex2, rx, hbt, fun σ2 E2 fr => ⟨Z, ι', L', ρ2, s2, E2, ?_⟩⟩
          cases hr : evSs cf cb ρ2 L' with
          | bad => rw [hr] at K2; exact K2
          | exc c d ρ L => rw [hr] at K2; exact K2
          | ret d L => rw [hr] at K2; exact K2
          | brk ρ3 L3 => rw [hr] at K2; exact fun σ3 ι3 H3 x s e => K2 σ3 ι3 H3 x s e
          | next ρ3 L3 => rw [hr] at K2; exact fun σ3 ι3 H3 x s e => ⟨ι3, L3, ρ3, (ex.trans ex2).trans x, s, e, K2.ext x⟩
          | cont ρ3 L3 => rw [hr] at K2; exact fun σ3 ι3 H3 x s e => ⟨ι3, L3, ρ3, (ex.trans ex2).trans x, s, e, K2.ext x⟩
theorem z_while {c : Expr} {body : List Stmt} {cc : E} {cb : Ss} (hp : PassesOwn (model X.prog X.w) X.A X.env X.xe) (hc : L2.PT X c (rT C W (evE cf cc))) (hb : L2.PSs X body (rS C W (evSs cf cb))) : L2.PS X (.While c body [] pos) (rS C W (evS cf (.while_ cc cb))) := ps_imp (L2.ps_while hp hc hb) fun D σ H ⟨Z, ι, L, ρ, S, E, h⟩ => by
  simp only [evS] at h
  have h' : AftS C Z W ι H (whileG (boolM (evE cf cc)) (fun ρ L => evSs cf cb ρ L) turns ρ L) D := h
  refine ⟨fun m σ' H' => ∃ ι' L' ρ', Ex ι H ι' H' ∧ SO C Z ι' H' L' ∧ ER C Z ι' H' ρ' σ' ∧ AftS C Z W ι' H' (whileG (boolM (evE cf cc)) (fun ρ L => evSs cf cb ρ L) m ρ' L') D, ⟨turns, ι, L, ρ, .refl, S, E, h'⟩, ?_⟩
  rintro m σ' H' ⟨ι', L', ρ', ex, s', e', K⟩
  cases m with
  | zero => exact False.elim K
  | succ m =>
    unfold whileG at K
    refine thenG s' e' K fun q L1 ι1 H1 v s1 e1 ex1 rx h1 => ?_
    subst rx
    cases q with
    | false =>
      simp only [Bool.false_eq_true, if_false] at h1 ⊢
      exact h1 _ ι1 H1 .refl s1 e1
    | true =>
      simp only [if_true] at h1 ⊢
      refine ⟨fun σ' H' => ∃ ι' L' ρ', Ex ι H ι' H' ∧ SO C Z ι' H' L' ∧ ER C Z ι' H' ρ' σ' ∧ AftS C Z W ι' H' (whileG (boolM (evE cf cc)) (fun ρ L => evSs cf cb ρ L) m ρ' L') D, fun σ' H' q => ⟨m, Nat.lt_succ_self m, q⟩, Z, ι1, L1, ρ', s1, e1, ?_⟩
      cases hr : evSs cf cb ρ' L1 with
      | bad => rw [hr] at h1; exact h1
      | exc c d ρ L => rw [hr] at h1; exact h1
      | ret d L => rw [hr] at h1; exact h1
      | brk ρ3 L3 => rw [hr] at h1; exact fun σ3 ι3 H3 x s e => h1 σ3 ι3 H3 x s e
      | next ρ3 L3 => rw [hr] at h1; exact fun σ3 ι3 H3 x s e => ⟨ι3, L3, ρ3, (ex.trans ex1).trans x, s, e, h1.ext x⟩
      | cont ρ3 L3 => rw [hr] at h1; exact fun σ3 ι3 H3 x s e => ⟨ι3, L3, ρ3, (ex.trans ex1).trans x, s, e, h1.ext x⟩
end
end EV
end

section
set_option autoImplicit false
/-! try with several clauses, named or not. -/
namespace EV
open PySem PySem.Spec PyProof.Rows L2

structure HSp where
  c : Value
  i : Option Nat
  ts : Addr → Value → Option Addr → TS
def clr (i : Option Nat) (σ : L2.St) : L2.St := match i with
  | none => σ
  | some j => σ.set j none
def put (i : Option Nat) (a : Addr) (σ : L2.St) : L2.St := match i with
  | none => σ
  | some j => σ.set j (some (.ref a))
/-- what the clauses wish of an exception of the body -/
def wHs (K : PySem.W.Frag) (Wout : WX) (D : Ends) : List HSp → WX
  | [] => Wout
  | h :: r => fun cls d σ H => ∃ b, PySem.W.exmOne K cls h.c = some b ∧
    (b = true → ∀ a, H a = none → h.ts a cls d { nx := fun σ' H' => D.nx (clr h.i σ') H', rt := D.rt, bk := fun σ' H' => D.bk (clr h.i σ') H', ct := fun σ' H' => D.ct (clr h.i σ') H' } (put h.i a σ) H) ∧ (b = false → wHs K Wout D r cls d σ H)
/-- a clause's name -/
def NmOk (X : Cx) (nm : Option Str) (i : Option Nat) : Prop := match nm, i with
  | none, none => True
  | some n, some j => X.N[j]? = some n ∧ X.env.kindOf n = some .local
  | _, _ => False
inductive HdsN (X : Cx) : List ExceptHandler → List HSp → Prop
  | nil : HdsN X [] []
  | cons {x : Str} {nm : Option Str} {h : HSp} {b₀ : Stmt} {suite : List Stmt} {np pos' : Pos} {hds : List ExceptHandler} {l : List HSp} (hn : NmOk X nm h.i) (hc : Names X x h.c)
      (hsu : ∀ (a : Addr) (oe : Obj) (cls : Value) (d : Option Addr) (pn : List (Addr × Obj)), Zc cls d oe → (∃ vs, oe.data = .fields vs) → PSs (X.suite a ((a, oe) :: pn)) (b₀ :: suite) (h.ts a cls d)) (r : HdsN X hds l) :
      HdsN X (.ExceptHandler (some (.Name x np)) nm (b₀ :: suite) pos' :: hds) (h :: l)
section
variable {X : Cx} {body : List Stmt} {h₀ : ExceptHandler} {hds : List ExceptHandler} {l : List HSp} {pos : Pos} {tb : WX → TS} {Wout : WX}
theorem ps_try_nm (hs : X.stack = X.env :: X.outer) (hf : X.env.frame = some X.env.locals) (hN : X.N.Nodup) (tk : L2.Takes X Wout)
    (hb : ∀ (W : WX) (pn : List (Addr × Obj)) (xe : Value → Shared → Prop), L2.Takes (X.tr pn xe) W → PassesOwn (model X.prog X.w) X.A X.env xe → PSs (X.tr pn xe) body (tb W))
    (hh : HdsN X (h₀ :: hds) l) : PS X (.Try body (h₀ :: hds) [] [] pos) (fun D σ H => tb (wHs X.K Wout D l) D σ H) := by
  refine ⟨fun pins s σ H D I h => ?_⟩
  have ok := I.ok
  have hfr : X.A.frames = some (X.env :: X.outer) := by rw [ok.frames, hs]
  refine wpAny_Try_except ?_
  refine wpAny_mono ((hb (wHs X.K Wout D l) (X.pn ++ pins) (fun e s₁ => wpAny (model X.prog X.w) X.A (noteFrame e X.env) (fun _ s₂ => wpAny (model X.prog X.w) X.A (setFlight e none) (fun _ s₃ =>
    wpAny (model X.prog X.w) X.A (handleBy e X.env (h₀ :: hds)) (SP X pins D) X.xe s₃) X.xe s₂) X.xe s₁) (fun u s' xx => ?_) PassesOwn.looking).run [] s σ H D (I.toTry _) h) (fun f s1 hsp => ?_) (fun e s1 he => he)
  · obtain ⟨a, B, sI, pins', σ', H', cls, d, rfl, J', nb, up, sky, na, os, ag, w⟩ := xx
    have J : Inv X pins σ' H' sI := J'.ofTry ok
    have sky' : Sky B (X.env :: X.outer) a (Zc cls d) X.env.locals s'.heap := by rw [← hs]; exact sky
    show wpAny (model X.prog X.w) X.A (noteFrame (.ref a) X.env) _ _ _
    refine Sky.land Zc.steady hfr hf sky' fun h3 fl3 up3 => ?_
    have J3 : Inv X pins σ' H' { s' with heap := h3 } := J.landed nb fl3.1 (up.trans up3) os ag
    obtain ⟨oe3, vs3, he3, hz3, hd3⟩ := fl3.there
    have notFr : ∀ {h : Heap} {o : Obj} {vs : Array Value}, h.FunFrames B (X.env :: X.outer) → h.get? a = some o → o.data = .fields vs → a ∉ frs (X.env :: X.outer) := fun {h o vs} ff e dd hm => by
      obtain ⟨_, o', e', hnf⟩ := ff.mem hm
      rw [e] at e'; cases e'
      exact hnf _ dd
    have nfr := notFr fl3.2.2.1 he3 hd3
    have nL : a ≠ X.env.locals := fun z => nfr (List.mem_filterMap.mpr ⟨X.env, List.mem_cons_self, by rw [hf, z]⟩)
    have nF : a ∉ X.fs := fun hm => by
      obtain ⟨e, he, q⟩ := List.mem_filterMap.mp hm
      exact nfr (List.mem_filterMap.mpr ⟨e, List.mem_cons_of_mem _ he, q⟩)
    have S3 := J3.suite he3 hd3 na nL nF
    have go : ∀ {hds' : List ExceptHandler} {l' : List HSp}, HdsN X hds' l' → wHs X.K Wout D l' cls d σ' H' →
        wpAny (model X.prog X.w) X.A (handleBy (.ref a) X.env hds') (SP X pins D) X.xe { s' with heap := h3 } := by
      intro hds' l' hk
      induction hk with
      | nil =>
        intro w
        refine wpAny_handleBy_nil ?_
        obtain ⟨k1, k2, k3, oe, vs, T, oT, ts', he, hz, hd, h1, hr⟩ := id fl3
        unfold PySem.passOn
        refine wpAny_bind (wpAny_field he hd h1 ?_)
        rw [if_neg (show ¬ ((Value.ref T == Value.none) = true) from by simp)]
        have fin : wpAny (model X.prog X.w) X.A (setFlight (.ref a) X.env.frame) (fun _ s4 => wpAny (model X.prog X.w) X.A (throw (.ref a) : Sem Flow) (SP X pins D) X.xe s4) X.xe { s' with heap := h3 } := by
          rw [hf]
          refine HandSPX.setFlight_upZ fl3 fun h4 hh4 up4 => wpAny_throw (tk _ _ ?_)
          exact ⟨a, B, sI, pins, σ', H', cls, d, rfl, J, nb, (up.trans up3).trans up4, .inr (.inr (by rw [hs]; exact hh4)), na, os, ag, w⟩
        first
          | exact wpAny_bind (wpAny_pure (wpAny_bind fin))
          | exact wpAny_bind fin
      | @cons x nm hsp b₀ suite np pos' hds2 l2 hn hc hsu r ih =>
        intro w
        obtain ⟨b, hb1, hyes, hno⟩ := w
        refine wpAny_handleBy_cons (codeAny_handlers_test ?_) (by intro q; cases q)
        have LT : PySem.W.Looks (model X.prog X.w) h3 (typeOf (.ref a)) cls := fun A Q E s k q => wpAny_typeOf_ref (k _ _ he3) (by rw [hz3.1]; exact q)
        have LM := PySem.W.exm_one (M := model X.prog X.w) (J3.kIn) LT hb1
        have test : ∀ {Q : Value → Shared → Prop} {E : Value → Shared → Prop}, Q hsp.c { s' with heap := h3 } → wpAny (model X.prog X.w) (X.A.mark (some (.ref a))) (eval (.Name x np) X.env) Q E { s' with heap := h3 } := fun {Q E} q => by
          obtain ⟨hg, hdbg, hm | ⟨hm, hv, hnn⟩⟩ := hc
          · exact ld_glob (X := X.suite a ((a, oe3) :: (X.pn ++ pins))) S3 hg hm q hdbg
          · exact ld_blt (X := X.suite a ((a, oe3) :: (X.pn ++ pins))) S3 hg hm hv q hnn hdbg
        refine test (LM.here ?_)
        cases b with
        | false =>
          show wpAny _ X.A (handleBy (.ref a) X.env hds2) _ _ _
          exact ih (hno rfl)
        | true =>
          obtain ⟨c, i, ts⟩ := hsp
          cases nm with
          | none =>
            cases i with
            | some j => exact hn.elim
            | none =>
              first
                | refine codeAny_handlers_suite ?_
                | skip
              refine HandSPX.lands_againZ fl3 fun h4 fl4 up4 => ?_
              have J4 : Inv X pins σ' H' { s' with heap := h4 } := J.landed nb fl4.1 ((up.trans up3).trans up4) os ag
              obtain ⟨oe4, vs4, he4, hz4, hd4⟩ := fl4.there
              have S4 := J4.suite he4 hd4 na nL nF
              refine wpAny_mono ((hsu a oe4 cls d (X.pn ++ pins) hz4 ⟨_, hd4⟩).run [] _ _ H' _ S4 (hyes rfl a na)) (fun f s6 hsp => ?_) (fun _ _ z => False.elim z)
              cases f with
              | next => obtain ⟨σ6, H6, S6, q6⟩ := hsp; exact ⟨_, _, S6.unsuite ok, q6⟩
              | brk => obtain ⟨σ6, H6, S6, q6⟩ := hsp; exact ⟨_, _, S6.unsuite ok, q6⟩
              | cont => obtain ⟨σ6, H6, S6, q6⟩ := hsp; exact ⟨_, _, S6.unsuite ok, q6⟩
              | ret u => obtain ⟨v6, σ6, H6, S6, r6, q6⟩ := hsp; exact ⟨_, _, _, S6.unsuite ok, r6, q6⟩
          | some n =>
            cases i with
            | none => exact hn.elim
            | some j =>
              obtain ⟨hi, hln⟩ := hn
              have hloc : Loc X.env.scope n := .inl hln
              refine codeAny_handlers_suite_as ?_
              refine HandSPX.lands_againZ fl3 fun h4 fl4 up4 => ?_
              have J4 : Inv X pins σ' H' { s' with heap := h4 } := J.landed nb fl4.1 ((up.trans up3).trans up4) os ag
              obtain ⟨oe4, vs4, he4, hz4, hd4⟩ := fl4.there
              have S4 := J4.suite he4 hd4 na nL nF
              refine store_ok (X := X.suite a ((a, oe4) :: (X.pn ++ pins))) (v := .ref a) S4 hN hi hloc rfl (fun s5 S5 => ?_) (.inr hln)
              refine wpAny_mono ((hsu a oe4 cls d (X.pn ++ pins) hz4 ⟨_, hd4⟩).run [] s5 _ H' _ S5 (hyes rfl a na)) (fun f s6 hsp => ?_) (fun _ _ z => False.elim z)
              have end_ : ∀ {σ6 : L2.St} {H6 : Hp} {Q : Shared → Prop}, Inv (X.suite a ((a, oe4) :: (X.pn ++ pins))) [] σ6 H6 s6 → (∀ s7, Inv X pins (σ6.set j none) H6 s7 → Q s7) →
                  wpAny (model X.prog X.w) X.A (do bindName X.env n .none; unbindBehindTheSuite X.env n pos') (fun _ s7 => Q s7) X.xe s6 := fun {σ6 H6 Q} S6 hq => gone_ok (S6.unsuite ok) hN hi hln hq
              cases f with
              | next => obtain ⟨σ6, H6, S6, q6⟩ := hsp; exact end_ S6 fun s7 J7 => ⟨_, _, J7, q6⟩
              | brk => obtain ⟨σ6, H6, S6, q6⟩ := hsp; exact end_ S6 fun s7 J7 => ⟨_, _, J7, q6⟩
              | cont => obtain ⟨σ6, H6, S6, q6⟩ := hsp; exact end_ S6 fun s7 J7 => ⟨_, _, J7, q6⟩
              | ret u => obtain ⟨v6, σ6, H6, S6, r6, q6⟩ := hsp; exact end_ S6 fun s7 J7 => ⟨_, _, _, J7, r6, q6⟩
    exact go hh w
  · cases f with
    | next => obtain ⟨σ', H', J', q⟩ := hsp; exact wpAny_execs_nil ⟨σ', H', J'.ofTry ok, q⟩
    | brk => obtain ⟨σ', H', J', q⟩ := hsp; exact ⟨σ', H', J'.ofTry ok, q⟩
    | cont => obtain ⟨σ', H', J', q⟩ := hsp; exact ⟨σ', H', J'.ofTry ok, q⟩
    | ret u => obtain ⟨v, σ', H', J', r, q⟩ := hsp; exact ⟨v, σ', H', J'.ofTry ok, r, q⟩
end
end EV
end

section
set_option autoImplicit false
/-! The evaluator's word about raise and try. -/
namespace EV
open PySem PySem.Spec PyProof.Rows

/-- within a suite: the exception at a, of the class cls, its dict d -/
def cfgX (C : Cfg) (a : Addr) (cls : Value) (d : Option Addr) : Cfg := { C with EX := fun a' c dx => a' = a ∧ cls = .ref (C.cls c) ∧ d = some dx }
section
variable {C : Cfg} {Z : Addr → Prop} {ι : List Addr} {H : L2.Hp} {a : Addr} {cls : Value} {d0 : Option Addr} (h0 : ∀ a c dx, ¬ C.EX a c dx)
include h0
mutual
theorem RV.cfg : ∀ (d : D) (v : L2.V), RV C Z ι H d v → RV (cfgX C a cls d0) Z ι H d v
  | .non, _, r => by simpa [RV] using r
  | .bl _, _, r => by simpa [RV] using r
  | .int _, _, r => by simpa [RV] using r
  | .str _, _, r => by simpa [RV] using r
  | .fn _, _, r => by simpa [RV, cfgX] using r
  | .obj _, _, r => by simpa [RV] using r
  | .tup ds, v, r => by
    unfold RV at r ⊢
    obtain ⟨b, xs, e, t, n, q⟩ := r
    exact ⟨b, xs, e, t, n, RVs.cfg ds xs q⟩
  | .ktup ds, v, r => by
    unfold RV at r ⊢
    obtain ⟨b, xs, e, t, q⟩ := r
    exact ⟨b, xs, e, t, RVs.cfg ds xs q⟩
  | .lst ds, v, r => by
    unfold RV at r ⊢
    obtain ⟨b, xs, e, t, z, n, q⟩ := r
    exact ⟨b, xs, e, t, z, n, RVs.cfg ds xs q⟩
  | .exn c d, v, r => by
    unfold RV at r
    obtain ⟨b, dx, y, e, q, hd, n, r⟩ := r
    exact absurd q (h0 _ _ _)
theorem RVs.cfg : ∀ (ds : List D) (vs : List L2.V), RVs C Z ι H ds vs → RVs (cfgX C a cls d0) Z ι H ds vs
  | [], _, r => by simpa [RVs] using r
  | d :: ds, vs, r => by
    obtain ⟨v, w, rfl, r1, r2⟩ := r.uncons
    exact .cons (RV.cfg d v r1) (RVs.cfg ds w r2)
end
theorem KR.cfg {κ : Type} : ∀ {kvs : List (κ × D)} {kv : List (κ × L2.V)}, KR C Z ι H kvs kv → KR (cfgX C a cls d0) Z ι H kvs kv
  | [], _, r => r
  | q :: r, kv, x => by
    obtain ⟨q, s, e, k, h1, h2⟩ := x
    exact ⟨q, s, e, k, RV.cfg h0 _ _ h1, KR.cfg h2⟩
theorem SO.cfg {L : Store} (s : SO C Z ι H L) : SO (cfgX C a cls d0) Z ι H L :=
  ⟨s.len, s.nd, fun k o e => by
    obtain ⟨b, q, r⟩ := s.obj k o e
    refine ⟨b, q, ?_⟩
    cases o with
    | lst ds => obtain ⟨ys, q1, q2⟩ := r; exact ⟨ys, q1, RVs.cfg h0 _ _ q2⟩
    | dK ds => obtain ⟨ys, q1, q2⟩ := r; exact ⟨ys, q1, KR.cfg h0 q2⟩
    | dT ds => obtain ⟨ys, q1, q2⟩ := r; exact ⟨ys, q1, KR.cfg h0 q2⟩, s.zh⟩
theorem ER.cfg {ρ : Env} {σ : L2.St} (h : ER C Z ι H ρ σ) : ER (cfgX C a cls d0) Z ι H ρ σ :=
  ⟨h.len, fun i d e => let ⟨v, q, r⟩ := h.get i d e; ⟨v, q, RV.cfg h0 _ _ r⟩⟩
end
section
variable {C : Cfg} {Z : Addr → Prop} {ι : List Addr} {H : L2.Hp} {a : Addr} {cls : Value} {d0 : Option Addr}
mutual
theorem RV.uncfg : ∀ (d : D) (v : L2.V), d.pure = true → RV (cfgX C a cls d0) Z ι H d v → RV C Z ι H d v
  | .non, _, _, r => by simpa [RV] using r
  | .bl _, _, _, r => by simpa [RV] using r
  | .int _, _, _, r => by simpa [RV] using r
  | .str _, _, _, r => by simpa [RV] using r
  | .fn _, _, _, r => by simpa [RV, cfgX] using r
  | .obj _, _, p, r => by simp [D.pure] at p
  | .exn _ _, _, p, r => by simp [D.pure] at p
  | .tup ds, v, p, r => by
    unfold RV at r ⊢
    obtain ⟨b, xs, e, t, n, q⟩ := r
    exact ⟨b, xs, e, t, n, RVs.uncfg ds xs (by simpa [D.pure] using p) q⟩
  | .ktup ds, v, p, r => by
    unfold RV at r ⊢
    obtain ⟨b, xs, e, t, q⟩ := r
    exact ⟨b, xs, e, t, RVs.uncfg ds xs (by simpa [D.pure] using p) q⟩
  | .lst ds, v, p, r => by
    unfold RV at r ⊢
    obtain ⟨b, xs, e, t, z, n, q⟩ := r
    exact ⟨b, xs, e, t, z, n, RVs.uncfg ds xs (by simpa [D.pure] using p) q⟩
theorem RVs.uncfg : ∀ (ds : List D) (vs : List L2.V), purAll ds = true → RVs (cfgX C a cls d0) Z ι H ds vs → RVs C Z ι H ds vs
  | [], _, _, r => by simpa [RVs] using r
  | d :: ds, vs, p, r => by
    obtain ⟨v, w, rfl, r1, r2⟩ := r.uncons
    have p' : d.pure = true ∧ purAll ds = true := by simpa [purAll] using p
    exact .cons (RV.uncfg d v p'.1 r1) (RVs.uncfg ds w p'.2 r2)
end
theorem KR.uncfg {κ : Type} : ∀ {kvs : List (κ × D)} {kv : List (κ × L2.V)}, purAll (kvs.map (·.2)) = true → KR (cfgX C a cls d0) Z ι H kvs kv → KR C Z ι H kvs kv
  | [], _, _, r => r
  | q :: r, kv, p, x => by
    obtain ⟨q2, s, e, k, h1, h2⟩ := x
    have p' : q.2.pure = true ∧ purAll (r.map (·.2)) = true := by simpa [purAll] using p
    exact ⟨q2, s, e, k, RV.uncfg _ _ p'.1 h1, KR.uncfg p'.2 h2⟩
theorem SO.uncfg {L : Store} (s : SO (cfgX C a cls d0) Z ι H L) (p : storeP L = true) : SO C Z ι H L :=
  ⟨s.len, s.nd, fun k o e => by
    obtain ⟨b, q, r⟩ := s.obj k o e
    have po : o.pure = true := List.all_eq_true.mp p o (List.mem_of_getElem? e)
    refine ⟨b, q, ?_⟩
    cases o with
    | lst ds => obtain ⟨ys, q1, q2⟩ := r; exact ⟨ys, q1, RVs.uncfg _ _ po q2⟩
    | dK ds => obtain ⟨ys, q1, q2⟩ := r; exact ⟨ys, q1, KR.uncfg po q2⟩
    | dT ds => obtain ⟨ys, q1, q2⟩ := r; exact ⟨ys, q1, KR.uncfg po q2⟩, s.zh⟩
theorem ex_uncfg {ι' : List Addr} {H' : L2.Hp} (x : Ex ι H ι' H') : Ex ι H ι' H' := x
end

section
variable {X : L2.Cx} {C : Cfg} {cf : Nat → List D → M D} {W : L2.WX} {pos : Pos}
abbrev Wno : L2.WX := fun _ _ _ _ => False
/-- e.f in a suite -/
theorem s_xfld {i c : Nat} {x n : Str} {p : Pos} {a : Addr} {oe : Obj} {cls : Value} {d : Option Addr} {pn : List (Addr × Obj)} (T : L2.XfC X.K (C.cls c)) (hno : PySem.W.findIn X.K (.ref (C.cls c)) n = some none) (hn : n = C.fld c) (hz : L2.Zc cls d oe) (hf : ∃ vs, oe.data = .fields vs)
    (hN : X.N[i]? = some x) (hv : L2.Vis X.env.scope x) (hd : (x == ("__debug__" : Str)) = false) (hcd : (x == ("__classdict__" : Str)) = false) :
    L2.PE (X.suite a ((a, oe) :: pn)) (.Attribute (.Name x p) n pos) (rE (cfgX C a cls d) W (evE cf (.xfld i c))) := by
  subst hn
  refine pe_imp (L2.pe_xf T hno hz hf (L2.pe_var (X := X.suite a ((a, oe) :: pn)) (i := i) hN hv hd hcd) rfl) fun σ H Q ⟨Z, ι, L, ρ, S, E, h⟩ => ?_
  simp only [evE] at h
  split at h
  · rename_i c' d1 e
    split at h
    · rename_i hc
      subst hc
      obtain ⟨v, ev, r⟩ := E.get _ _ e
      unfold RV at r
      obtain ⟨b, dx, y, rfl, ⟨eb, e1, e2⟩, hdx, n, r⟩ := r
      subst eb
      exact ⟨_, ev, rfl, e1, dx, _, y, e2, hdx, by simp [cfgX], h.ok S y r⟩
    · exact False.elim h
  · exact False.elim h

/-- the clauses -/
inductive HR (X : L2.Cx) (C : Cfg) (cf : Nat → List D → M D) (n : Nat) : Hs → List ExceptHandler → List HSp → Prop
  | nil : HR X C cf n .nil [] []
  | plain {x : Str} {c : Nat} {cs : Ss} {b₀ : Stmt} {suite : List Stmt} {np pos' : Pos} {r : Hs} {hds : List ExceptHandler} {l : List HSp} (hc : L2.Names X x (.ref (C.cls c))) (hcn : c < n)
      (hsu : ∀ (a : Addr) (oe : Obj) (pn : List (Addr × Obj)), L2.PSs (X.suite a ((a, oe) :: pn)) (b₀ :: suite) (rS C Wno (evSs cf cs))) (hr : HR X C cf n r hds l) :
      HR X C cf n (.cons n c none cs r) (.ExceptHandler (some (.Name x np)) none (b₀ :: suite) pos' :: hds) (⟨.ref (C.cls c), none, fun _ _ _ => rS C Wno (evSs cf cs)⟩ :: l)
  | named {x nm : Str} {c j : Nat} {ce : E} {e : Expr} {np pos' rp : Pos} {r : Hs} {hds : List ExceptHandler} {l : List HSp} (hc : L2.Names X x (.ref (C.cls c))) (hcn : c < n) (hj : X.N[j]? = some nm) (hjl : X.env.kindOf nm = some .local)
      (hsu : ∀ (a : Addr) (oe : Obj) (cls : Value) (d : Option Addr) (pn : List (Addr × Obj)), L2.Zc cls d oe → (∃ vs, oe.data = .fields vs) → L2.PE (X.suite a ((a, oe) :: pn)) e (rE (cfgX C a cls d) Wno (evE cf ce))) (hr : HR X C cf n r hds l) :
      HR X C cf n (.cons n c (some j) (.cons (.ret ce) .nil) r) (.ExceptHandler (some (.Name x np)) (some nm) [.Return (some e) rp] pos' :: hds)
        (⟨.ref (C.cls c), some j, fun a cls d D σ H => rE (cfgX C a cls d) Wno (evE cf ce) σ H D.rt⟩ :: l)
theorem HR.hds {n : Nat} {hs : Hs} {hds : List ExceptHandler} {l : List HSp} (h : HR X C cf n hs hds l) : HdsN X hds l := by
  induction h with
  | nil => exact .nil
  | plain hc hcn hsu hr ih => exact .cons (by trivial) hc (fun a oe cls d pn _ _ => hsu a oe pn) ih
  | named hc hcn hj hjl hsu hr ih => exact .cons ⟨hj, hjl⟩ hc (fun a oe cls d pn hz hf => pss_imp (L2.pss_one (L2.ps_ret (hsu a oe cls d pn hz hf))) fun D σ H h => h) ih
theorem hs_of {n : Nat} {hs : Hs} {hds : List ExceptHandler} {l : List HSp} (h : HR X C cf n hs hds l) (h0 : ∀ a c dx, ¬ C.EX a c dx) (hex : ∀ c c', c < n → c' < n → PySem.W.exmOne X.K (.ref (C.cls c)) (.ref (C.cls c')) = some (decide (c = c')))
    {Z : Addr → Prop} {ι : List Addr} {H : L2.Hp} {L : Store} {ρ : Env} {σ : L2.St} {D : L2.Ends} {c : Nat} {d : EV.D} {dx : Addr} {v : L2.V} (S : SO C Z ι H L) (E : ER C Z ι H ρ σ) (r : RV C Z ι H d v) (hd : H dx = some (.xd [(C.fld c, v)])) :
    AftS C Z W ι H (evHs cf hs c d ρ L) D → wHs X.K W D l (.ref (C.cls c)) (some dx) σ H := by
  induction h with
  | nil =>
    intro h
    simp only [evHs] at h
    exact h v σ ι H dx .refl S E r hd
  | @plain x c' cs b₀ suite np pos' rr hds l hc hcn hsu hr ih =>
    intro h
    simp only [evHs] at h
    split at h
    · rename_i hlt
      refine ⟨_, hex c c' hlt hcn, fun hb a ha => ?_, fun hb => ?_⟩
      · have e : c = c' := of_decide_eq_true hb
        rw [if_pos e] at h
        refine ⟨Z, ι, L, ρ, S, E, ?_⟩
        cases q : evSs cf cs ρ L with
        | bad => rw [q] at h; exact h
        | exc _ _ _ _ => rw [q] at h; exact False.elim h
        | next ρ L => rw [q] at h; exact h
        | ret _ L => rw [q] at h; exact h
        | brk ρ L => rw [q] at h; exact h
        | cont ρ L => rw [q] at h; exact h
      · have e : ¬ c = c' := of_decide_eq_false hb
        rw [if_neg e] at h
        exact ih h
    · exact False.elim h
  | @named x nm c' j ce e np pos' rp rr hds l hc hcn hj hjl hsu hr ih =>
    intro h
    simp only [evHs] at h
    split at h
    · rename_i hlt
      refine ⟨_, hex c c' hlt hcn, fun hb a ha => ?_, fun hb => ?_⟩
      · have e : c = c' := of_decide_eq_true hb
        rw [if_pos e] at h
        have rx : RV (cfgX C a (.ref (C.cls c)) (some dx)) Z ι H (.exn c d) (.ref a) := by
          unfold RV
          refine ⟨a, dx, v, rfl, ⟨rfl, rfl, rfl⟩, hd, fun m => ?_, RV.cfg h0 _ _ r⟩
          obtain ⟨u, e1, k1⟩ := S.kind m
          rw [hd] at e1; cases e1; cases k1
        refine ⟨Z, ι, L, ρ.set j (some (.exn c d)), S.cfg h0, (E.cfg h0).set j rx, ?_⟩
        simp only [evSs, evS] at h
        cases q : evE cf ce (ρ.set j (some (.exn c d))) L with
        | bad => rw [q] at h; exact h
        | exc _ _ _ => rw [q] at h; exact False.elim h
        | ok x L1 =>
          rw [q] at h
          simp only [R.then, SR.seq] at h
          split at h
          · rename_i hp
            rw [Bool.and_eq_true] at hp
            intro ι' H' x' s' v' rv'
            exact h v' ι' H' x' (s'.uncfg hp.2) (RV.uncfg _ _ hp.1 rv')
          · exact False.elim h
      · have e : ¬ c = c' := of_decide_eq_false hb
        rw [if_neg e] at h
        exact ih h
    · exact False.elim h
theorem z_try {n : Nat} {body : List Stmt} {h₀ : ExceptHandler} {hds : List ExceptHandler} {l : List HSp} {cb : Ss} {hs : Hs} (hst : X.stack = X.env :: X.outer) (hf : X.env.frame = some X.env.locals) (hN : X.N.Nodup) (tk : L2.Takes X W)
    (hb : ∀ (W : L2.WX) (pn : List (Addr × Obj)) (xe : Value → Shared → Prop), L2.Takes (X.tr pn xe) W → PassesOwn (model X.prog X.w) X.A X.env xe → L2.PSs (X.tr pn xe) body (rS C W (evSs cf cb)))
    (hh : HR X C cf n hs (h₀ :: hds) l) (h0 : ∀ a c dx, ¬ C.EX a c dx) (hex : ∀ c c', c < n → c' < n → PySem.W.exmOne X.K (.ref (C.cls c)) (.ref (C.cls c')) = some (decide (c = c'))) :
    L2.PS X (.Try body (h₀ :: hds) [] [] pos) (rS C W (evS cf (.try_ cb hs))) := ps_imp (ps_try_nm hst hf hN tk hb hh.hds) fun D σ H ⟨Z, ι, L, ρ, S, E, h⟩ => by
  refine ⟨Z, ι, L, ρ, S, E, ?_⟩
  simp only [evS] at h
  cases q : evSs cf cb ρ L with
  | bad => rw [q] at h; exact h
  | next ρ L => rw [q] at h; exact h
  | ret _ L => rw [q] at h; exact h
  | brk ρ L => rw [q] at h; exact h
  | cont ρ L => rw [q] at h; exact h
  | exc c d ρ1 L1 =>
    rw [q] at h
    exact fun v σ' ι' H' dx x s e r hd => hs_of hh h0 hex s e r hd (h.ext x)

end
end EV
end

section
set_option autoImplicit false
/-! raise C(e), C an own class over an own class over ValueError, its __init__ as in the text. -/
namespace EV
open PySem PySem.Spec PyProof.Rows

/-- what the written part says of the own class at B whose __init__ is ValueError's -/
structure OwnB (K : PySem.W.Frag) (B : Addr) : Prop where
  rd : PySem.W.readsIn K B (.type "type") = true
  at_ : PySem.W.findCls K (.ref B) (.type "type") "__init__" = some (.val (.builtin "ValueError.__init__"))
  ga : PySem.W.specialIn K (.ref B) "__getattribute__" = some (some (.builtin "type.__getattribute__"))
theorem mcall_plain {o : Expr} {m : Str} {apos pos : Pos} {args : List Expr} {env : PySem.Env} (hb : attributeBase o m env (eval o env) = eval o env) (hform : methodCallForm (args.length + ([] : List Keyword).length) (backTo pos (starEach args env)) (backToKw pos (keywordEach [] env)) = true) (hline : (apos.endLine == pos.line) = true) :
    eval (.Call (.Attribute o m apos) args [] pos) env = (do
      let ov ← eval o env
      standAt apos.atName
      let (f, first) ← holding [ov] (getMethod ov m (do return (← importBound o env).getD true))
      callWith pos f first (backTo pos (starEach args env)) (backToKw pos (keywordEach [] env))) := by
  refine L2.mcall_of hb fun ov => ?_
  unfold methodCall calleeOf methodCallPos
  rw [hform, hline]
  simp only [if_true, Bool.not_true, Bool.false_or, pure_bind]
section
variable {X : L2.Cx} {e : Expr} {es : List Expr} {ta : L2.TA} {b : Str} {B : Addr} {p1 p2 pos : Pos}
theorem pe_oinit {pl : Sem Bool} (T : OwnB X.K B) (hg : L2.Gl X b) (hm : X.mg b = some (.ref B)) (hdb : (b == ("__debug__" : Str)) = false) (ha : L2.PA X (e :: es) ta)
    (hc : eval (.Call (.Attribute (.Name b p1) "__init__" p2) (e :: es) [] pos) X.env = (do
      let ov ← eval (.Name b p1) X.env
      standAt p2.atName
      let (f, first) ← holding [ov] (getMethod ov "__init__" pl)
      callWith pos f first (backTo pos (starEach (e :: es) X.env)) (backToKw pos (keywordEach [] X.env))))
    (he : starEach (e :: es) X.env = (false, eval e X.env) :: starEach es X.env) (hpl : (backTo pos (starEach es X.env)).any (·.1) = false) :
    L2.PE X (.Call (.Attribute (.Name b p1) "__init__" p2) (e :: es) [] pos) (L2.tVeI X.K ta) := by
  refine ⟨fun pins s σ H Q I h => ?_⟩
  refine PySem.W.methodCall_KW (L2.ld_glob I hg hm ?_ hdb) hc
  refine PySem.W.method_cls I.kIn T.ga (PySem.W.cls_value I.kIn T.rd T.at_ (by decide +kernel) ?_)
  show wpAny _ _ (callWith pos (Value.builtin "ValueError.__init__") [] (backTo pos (starEach (e :: es) X.env)) []) _ _ _
  refine PyProof.Rows.callWith_method1 (L2.thn (ha.run pos pins _ σ H _ (I.tok _) h) fun us s1 ⟨vs, H1, I1, r1, a, C, ws, ev, hl, T, ea, q⟩ => ?_) he hpl
  subst ev
  cases r1 with
  | @cons _ u0 _ ur ra rw' =>
    obtain rfl : u0 = Value.ref a := ra
    have hlen : ur.length ≤ sizeLine := by
      rw [← Paired.length rw', sizeLine_eq]
      omega
    exact L2.oinit_ok T I1 ea hlen fun s' J => ⟨.non, H1, J, rfl, q⟩
end
/-- what a class's __init__ does -/
def spI (C : Addr) (f : Str) : L2.Sp := fun vs H Q _ => ∃ a y, vs = [.ref a, y] ∧ H a = some (L2.exo a C none) ∧ ∀ dx, H dx = none → dx ≠ a → Q .non (L2.upd (L2.upd H dx (L2.exd dx [(f, y)])) a (L2.exo a C (some dx)))
theorem ok_init {P : Program} {w : World} {K : PySem.W.Frag} {mg : Str → Option Value} {base : Heap} {nm qual : Str} {params : Arguments} {scope : Scope} {dvs : List L2.V} {kws : List (Str × L2.V)} {f : Addr} {fd : FuncData} {b s v g msg : Str} {C B : Addr} {p1 p2 p3 p4 p5 p6 p7 p8 p9 p10 : Pos} {j : Nat} (hline : (p2.endLine == p5.line) = true)
    (F : L2.FunD K nm qual params [.Expr (.Call (.Attribute (.Name b p1) "__init__" p2) [.Name s p3, .Constant (.str msg) j p4] [] p5) p6, .Assign [.Attribute (.Name s p7) g p8] (.Name v p9) p10] scope dvs kws f fd)
    (S : L2.FnScope [s, v] [s, v] scope) (T : OwnB K B) (hm : mg b = some (.ref B)) (TC : L2.OexC K C) (hno : PySem.W.findIn K (.ref C) g = some none) (hgb : scope.names.lookup b = some .globalImplicit)
    (hs : scope.names.lookup s = some .local) (hv : scope.names.lookup v = some .local) (hd : (b == ("__debug__" : Str)) = false ∧ (b != ("super" : Str)) = true ∧ (s == ("__debug__" : Str)) = false ∧ (s == ("__classdict__" : Str)) = false ∧ (v == ("__debug__" : Str)) = false ∧ (v == ("__classdict__" : Str)) = false) :
    L2.FnOk P w K mg base (L2.CX P w) 1 f fd [s, v] (spI C g) := by
  refine F.ok S (fun vs H Q E h => ?_) (fun cdv A outer st H vs Q E hr h => ⟨L2.tSeq (L2.tDrop (L2.tVeI K (L2.tCons (L2.tVar 0) (L2.tCons (L2.tC (.str msg)) L2.tNil)))) (L2.tOst K g (L2.tVar 0) (L2.tVar 1)), ?_, ?_⟩)
  · obtain ⟨a, y, rfl, _⟩ := h
    rfl
  · refine L2.pss_cons (L2.ps_expr (pe_oinit T hgb hm hd.1 (L2.pa_cons (L2.pe_var (i := 0) rfl (.inl hs) hd.2.2.1 hd.2.2.2.1) (L2.pa_cons L2.pe_str L2.pa_nil rfl) rfl) (mcall_plain rfl rfl hline) rfl rfl)) (L2.pss_one (L2.ps_ost (L2.pe_var (i := 0) rfl (.inl hs) hd.2.2.1 hd.2.2.2.1) (L2.pe_var (i := 1) rfl (.inl hv) hd.2.2.2.2.1 hd.2.2.2.2.2)))
  · obtain ⟨a, y, rfl, ha, q⟩ := h
    refine ⟨_, rfl, a, C, [.str msg], rfl, (by show 1 ≤ 1000; decide), TC, ha, ?_⟩
    exact ⟨_, rfl, _, rfl, a, C, rfl, TC, hno, .inl ⟨ha, fun dx n ne => q dx n ne⟩⟩

/-- the class with the number c may be raised by the name x -/
structure Rai (X : L2.Cx) (C : Cfg) (c : Nat) (x : Str) : Prop where
  mg : X.mg x = some (.ref (C.cls c))
  oex : L2.OexC X.K (C.cls c)
  ex : ∃ (k : Nat) (fI : Addr) (fd : FuncData) (ps : List Str), PySem.W.findIn X.K (.ref (C.cls c)) "__init__" = some (some (.ref fI)) ∧ PySem.W.typeIn X.K (.ref fI) = some (.type "function") ∧
    L2.FnOk X.prog X.w X.K X.mg X.base (L2.CX X.prog X.w) k fI fd ps (spI (C.cls c) (C.fld c)) ∧ L2.Room (k + 1) X.A ∧ L2.Binds X.K fd ps []
section
variable {X : L2.Cx} {C : Cfg} {cf : Nat → List D → M D} {W : L2.WX} {pos : Pos} {c : Nat} {x : Str} {e : Expr} {ce : E} {p cp : Pos}
theorem z_raise (r : Rai X C c x) (hc : X.calm = true) (tk : L2.Takes X W) (hg : L2.Gl X x) (hdb : (x == ("__debug__" : Str)) = false) (ha : L2.PE X e (rE C W (evE cf ce))) (he : starEach [e] X.env = (false, eval e X.env) :: starEach [] X.env) :
    L2.PS X (.Raise (some (.Call (.Name x p) [e] [] cp)) none pos) (rS C W (evS cf (.raise c ce))) := by
  obtain ⟨k, fI, fd, ps, iC, tI, F1, hr, hb⟩ := r.ex
  refine ps_imp (L2.ps_raise hc tk (L2.pmk_oex (dvs := []) (ds := []) r.oex iC tI F1 hr hb .nil (fun _ _ _ _ _ _ _ h => ?_) hg r.mg (L2.pa_cons ha L2.pa_nil he) hdb he rfl)) fun D σ H ⟨Z, ι, L, ρ, S, E, h⟩ => ?_
  · obtain ⟨_, _, _, _, _, _, _, _, _, _, _, _, z⟩ := h
    exact z.elim
  · simp only [evS] at h
    refine thenG S E h fun d L1 ι1 H1 v s1 e1 ex1 rx h1 => ⟨by show 1 ≤ 1000; decide, fun a ha => ⟨a, v, rfl, L2.upd_same, fun dx hdx hne => ⟨rfl, dx, [(C.fld c, v)], L2.upd_same, ?_, ?_, ?_⟩⟩⟩
    · rw [L2.upd_ne hne, L2.upd_same]
    · rw [L2.upd_ne hne] at hdx
      exact hdx
    · have hdx' : H1 dx = none := by rw [L2.upd_ne hne] at hdx; exact hdx
      have eH : L2.upd (L2.del (L2.upd (L2.upd (L2.upd H1 a (L2.exo a (C.cls c) none)) dx (L2.exd dx [(C.fld c, v)])) a (L2.exo a (C.cls c) (some dx))) a) dx (.xd [(C.fld c, v)]) = L2.upd H1 dx (.xd [(C.fld c, v)]) := by
        funext b
        by_cases hb : b = dx
        · rw [hb, L2.upd_same, L2.upd_same]
        · rw [L2.upd_ne hb, L2.upd_ne hb]
          by_cases hba : b = a
          · rw [hba, L2.del_same, ha]
          · rw [L2.del_ne hba, L2.upd_ne hba, L2.upd_ne hb, L2.upd_ne hba]
      rw [eH]
      exact h1 v σ ι1 _ dx (ex_upd hdx') (s1.upd hdx') (e1.mono (ex_upd hdx')) (RV.mono (ex_upd hdx') _ _ rx) L2.upd_same
end
end EV
end

section
set_option autoImplicit false
/-! Does a def's text say what the evaluator's syntax says? -/
namespace EV
open PySem PySem.Spec PyProof.Rows

/-- the names of a text: its defs, its constants, its exceptions, exceptions' fields -/
structure Tb where
  fn : List Str
  gl : List (Str × D)
  ex : List Str
  fl : List Str

mutual
def D.same : D → D → Bool
  | .non, .non => true
  | .bl a, .bl b => a == b
  | .int i, .int j => decide (i = j)
  | .str a, .str b => decide (a = b)
  | .ktup xs, .ktup ys => sameAll xs ys
  | _, _ => false
def sameAll : List D → List D → Bool
  | [], [] => true
  | x :: xs, y :: ys => x.same y && sameAll xs ys
  | _, _ => false
end
mutual
theorem same_eq : ∀ (x y : D), x.same y = true → x = y
  | .non, y, h => by cases y <;> simp [D.same] at h; rfl
  | .bl a, y, h => by cases y <;> simp [D.same] at h; rw [h]
  | .int a, y, h => by cases y <;> simp [D.same] at h; rw [h]
  | .str a, y, h => by cases y <;> simp [D.same] at h; rw [h]
  | .ktup xs, y, h => by
    cases y <;> simp [D.same] at h
    rw [same_eqs _ _ h]
  | .tup xs, y, h => by cases y <;> simp [D.same] at h
  | .lst xs, y, h => by cases y <;> simp [D.same] at h
  | .obj xs, y, h => by cases y <;> simp [D.same] at h
  | .fn xs, y, h => by cases y <;> simp [D.same] at h
  | .exn _ _, y, h => by cases y <;> simp [D.same] at h
theorem same_eqs : ∀ (x y : List D), sameAll x y = true → x = y
  | [], y, h => by cases y <;> simp [sameAll] at h; rfl
  | x :: xs, y, h => by
    cases y with
    | nil => simp [sameAll] at h
    | cons y ys =>
      simp [sameAll] at h
      rw [same_eq _ _ h.1, same_eqs _ _ h.2]
end

/-! ### names -/
def nmB (x : Str) : Bool := (x == ("__debug__" : Str)) == false && (x == ("__classdict__" : Str)) == false
def visB (sc : Scope) (x : Str) : Bool := match sc.names.lookup x with
  | some .local => true
  | some .cell => true
  | some .free => true
  | _ => false
def locB (sc : Scope) (x : Str) : Bool := match sc.names.lookup x with
  | some .local => true
  | _ => false
def gloB (sc : Scope) (x : Str) : Bool := match sc.names.lookup x with
  | some .globalImplicit => true
  | _ => false
def locCB (sc : Scope) (blk : Bool) (x : Str) : Bool := match sc.names.lookup x with
  | some .local => true
  | some .cell => !blk
  | _ => false
theorem visB_ok {sc : Scope} {x : Str} (h : visB sc x = true) : L2.Vis sc x := by
  unfold visB at h
  unfold L2.Vis
  split at h
  · exact .inl (by assumption)
  · exact .inr (.inl (by assumption))
  · exact .inr (.inr (by assumption))
  · cases h
theorem locB_ok {sc : Scope} {x : Str} (h : locB sc x = true) : sc.names.lookup x = some .local := by
  unfold locB at h
  split at h
  · assumption
  · cases h
theorem gloB_ok {sc : Scope} {x : Str} (h : gloB sc x = true) : sc.names.lookup x = some .globalImplicit := by
  unfold gloB at h
  split at h
  · assumption
  · cases h
theorem locCB_ok {sc : Scope} {blk : Bool} {x : Str} (h : locCB sc blk x = true) : L2.Loc sc x ∧ (blk = true → sc.names.lookup x = some .local) := by
  unfold locCB at h
  split at h
  · exact ⟨.inl (by assumption), fun _ => by assumption⟩
  · refine ⟨.inr (by assumption), fun e => ?_⟩
    rw [e] at h; cases h
  · cases h
theorem nmB_ok {x : Str} (h : nmB x = true) : (x == ("__debug__" : Str)) = false ∧ (x == ("__classdict__" : Str)) = false := by
  unfold nmB at h
  rw [Bool.and_eq_true] at h
  exact ⟨by simpa using h.1, by simpa using h.2⟩

/-! ### forms of expressions -/
def unstar : Expr → Bool
  | .Starred _ _ => false
  | _ => true
theorem star_of {e : Expr} {es : List Expr} {env : PySem.Env} (h : unstar e = true) : starEach (e :: es) env = (false, eval e env) :: starEach es env := by
  cases e <;> first | rfl | cases h
theorem star_any {env : PySem.Env} {pos : Pos} : ∀ {es : List Expr}, es.all unstar = true → (backTo pos (starEach es env)).any (·.1) = false := by
  intro es
  have key : ∀ {es : List Expr}, es.all unstar = true → ∃ l : List (Sem Value), starEach es env = l.map fun t => (false, t) := by
    intro es
    induction es with
    | nil => intro _; exact ⟨[], rfl⟩
    | cons e es ih =>
      intro h
      rw [List.all_cons, Bool.and_eq_true] at h
      obtain ⟨l, hl⟩ := ih h.2
      exact ⟨eval e env :: l, by rw [star_of h.1, hl]; rfl⟩
  intro h
  obtain ⟨l, hl⟩ := key h
  rw [hl]
  have : ∀ (l : List (Sem Value)), (backTo pos (l.map fun t => (false, t))).any (·.1) = false := by
    intro l
    unfold backTo
    simp
  exact this l
theorem star_all {env : PySem.Env} {pos : Pos} {es : List Expr} (h : es.all unstar = true) : (backTo pos (starEach es env)).all (fun x => !x.1) = true := by
  have := star_any (env := env) (pos := pos) h
  rw [List.any_eq_false] at this
  rw [List.all_eq_true]
  intro x hx
  have := this x hx
  simpa using this
def unslice : Expr → Bool
  | .Slice _ _ _ _ => false
  | _ => true
theorem plainIx_of {b : Expr} (h : unslice b = true) : L2.PlainIx b := by
  intro o i
  cases b <;> first | rfl | cases h
theorem noSl_of {b : Expr} (h : unslice b = true) : L2.NoSl b := by
  intro o i
  cases b <;> first | rfl | cases h
/-- a receiver that is no call without arguments -/
def uncall : Expr → Bool
  | .Call _ _ _ _ => false
  | _ => true
theorem base_of {o : Expr} {x : Str} {env : PySem.Env} (h : uncall o = true) : attributeBase o x env (eval o env) = eval o env := by
  cases o <;> first | rfl | cases h
def uncomp : Expr → Bool
  | .ListComp _ _ _ _ => false
  | .SetComp _ _ _ _ => false
  | .DictComp _ _ _ _ _ => false
  | _ => true
theorem swaps_of {e : Expr} {t : Option Expr} {l : Nat} {env : PySem.Env} (h : uncomp e = true) : swapsWith e t l env = pure false := by
  cases e <;> first | rfl | cases h
def unset : Expr → Bool
  | .Set _ _ _ => false
  | _ => true
theorem folded_of {e : Expr} {env : PySem.Env} (h : unset e = true) : ∀ x, foldedSetIterable e env x = pure x := by
  intro x
  cases e <;> first | rfl | cases h
def untup : Expr → Bool
  | .Tuple _ _ _ => false
  | _ => true
theorem swapped_of {ts : List Expr} {e : Expr} {env : PySem.Env} (h : untup e = true) : swappedStores ts e env = pure none := by
  cases e <;> first | (cases ts with
    | nil => rfl
    | cons t r => cases r with
      | nil => cases t <;> rfl
      | cons _ _ => cases t <;> rfl) | cases h
def unif : Expr → Bool
  | .IfExp _ _ _ _ => false
  | _ => true
/-- tested by its value -/
def plainT : Expr → Bool
  | .UnaryOp .Not _ _ => false
  | .BoolOp _ _ _ => false
  | .IfExp _ _ _ _ => false
  | .Compare _ _ _ _ => false
  | _ => true
theorem plainT_of {e : Expr} {env : PySem.Env} (h : plainT e = true) : ∀ whole, isTrue e env whole = (do let v ← whole; standAt e.pos; holding [v] (truthy v)) := by
  intro whole
  cases e <;> first | rfl | cases h | skip
  rename_i op _ _
  cases op <;> first | rfl | cases h
def argsB (es : List Expr) : Bool := es.all unstar && decide (es.length < 30)
theorem few_of {env : PySem.Env} {pos : Pos} {es : List Expr} (h : argsB es = true) : ((backTo pos (starEach es env)).all (fun x => !x.1) && (backToKw pos (keywordEach [] env)).all (fun x => x.1.isSome)
      && decide (es.length + ([] : List Keyword).length + (if ([] : List Keyword).isEmpty then 0 else 1) < 30)) = true := by
  unfold argsB at h
  rw [Bool.and_eq_true] at h
  rw [star_all h.1]
  have : decide (es.length + ([] : List Keyword).length + (if ([] : List Keyword).isEmpty then 0 else 1) < 30) = true := by
    have := of_decide_eq_true h.2
    exact decide_eq_true (by simpa using this)
  rw [this]
  rfl
end EV
end

section
set_option autoImplicit false
namespace EV
open PySem PySem.Spec PyProof.Rows

section
variable (T : Tb) (N : List Str)
mutual
def ckTg (sc : Scope) (blk : Bool) : Tg → Expr → Bool
  | .name i, e => match e with
    | .Name x _ => decide (N[i]? = some x) && locCB sc blk x
    | _ => false
  | .tup ts, e => match e with
    | .Tuple es _ _ => es.all unstar && (lenTs ts == es.length) && ckTgs sc blk ts es
    | _ => false
def ckTgs (sc : Scope) (blk : Bool) : Tgs → List Expr → Bool
  | .nil, es => es.isEmpty
  | .cons t r, es => match es with
    | e :: es => ckTg sc blk t e && ckTgs sc blk r es
    | [] => false
end
/-- own names with their places -/
def ownOf (own : List Nat) : List (Str × Nat) := own.map fun i => (N.getD i default, i)
theorem ownOf_map (own : List Nat) : (ownOf N own).map (·.2) = own := by
  unfold ownOf
  rw [List.map_map]
  exact List.map_id own
def subB (a b : List Nat) : Bool := a.all fun i => b.contains i
mutual
def ckE (sc : Scope) (blk : Bool) : E → Expr → Bool
  | .slot i, e => match e with
    | .Name x _ => decide (N[i]? = some x) && visB sc x && nmB x
    | _ => false
  | .cst d, e => match e with
    | .Constant c _ _ => cstV d c
    | _ => false
  | .glob d, e => match e with
    | .Name x _ => gloB sc x && nmB x && (match T.gl.lookup x with
      | some d' => D.same d' d
      | none => false)
    | _ => false
  | .fnv f, e => match e with
    | .Name x _ => gloB sc x && nmB x && decide (T.fn[f]? = some x)
    | _ => false
  | .bin o a b, e => match e with
    | .BinOp l op r _ => decide (op = opB o) && ckE sc blk a l && ckE sc blk b r
    | _ => false
  | .neg a, e => match e with
    | .UnaryOp .USub x _ => ckE sc blk a x
    | _ => false
  | .not a, e => match e with
    | .UnaryOp .Not x _ => unif x && ckE sc blk a x
    | _ => false
  | .cmp o a b, e => match e with
    | .Compare l [op] [r] _ => decide (op = opC o) && !behindInMarks op r && ckE sc blk a l && ckE sc blk b r
    | _ => false
  | .chain o1 o2 a b c, e => match e with
    | .Compare l [p1, p2] [m, r] _ => decide (p1 = opC o1) && decide (p2 = opC o2) && !lastMarks [p1, p2] [m, r] && ckE sc blk a l && ckE sc blk b m && ckE sc blk c r
    | _ => false
  | .isN a, e => match e with
    | .Compare l [.Is] [.Constant .none _ _] _ => ckE sc blk a l
    | _ => false
  | .notN a, e => match e with
    | .Compare l [.IsNot] [.Constant .none _ _] _ => ckE sc blk a l
    | _ => false
  | .and a b, e => match e with
    | .BoolOp .And (x :: y :: rest) pos => unif x && ckE sc blk a x && (match rest with
      | [] => unif y && ckE sc blk b y
      | z :: zs => ckE sc blk b (.BoolOp .And (y :: z :: zs) pos))
    | _ => false
  | .or a b, e => match e with
    | .BoolOp .Or (x :: y :: rest) pos => unif x && ckE sc blk a x && (match rest with
      | [] => unif y && ckE sc blk b y
      | z :: zs => ckE sc blk b (.BoolOp .Or (y :: z :: zs) pos))
    | _ => false
  | .ife t a b, e => match e with
    | .IfExp c x y _ => unif c && ckE sc blk t c && ckE sc blk a x && ckE sc blk b y
    | _ => false
  | .tup es, e => match e with
    | .Tuple l _ _ => ckEs sc blk es l
    | _ => false
  | .frz f, e => ckF sc blk f e
  | .mut f, e => ckF sc blk f e
  | .call f es, e => match e with
    | .Call (.Name x _) args [] _ => gloB sc x && nmB x && decide (T.fn[f]? = some x) && ckEs sc blk es args
    | _ => false
  | .callk f es, e => match e with
    | .Call (.Name x _) args [] _ => gloB sc x && nmB x && decide (T.fn[f]? = some x) && ckEs sc blk es args
    | _ => false
  | .callv i n es, e => match e with
    | .Call (.Name x _) args [] _ => decide (N[i]? = some x) && visB sc x && nmB x && decide (n = T.fn.length) && ckEs sc blk es args
    | _ => false
  | .bi b es, e => match e with
    | .Call (.Name x _) (a :: r) [] _ => decide (x = biNm b) && gloB sc x && ckEs sc blk es (a :: r)
    | _ => false
  | .meth m o es, e => match e with
    | .Call (.Attribute oe x apos) (a :: r) [] pos => decide (x = meNm m) && uncall oe && argsB (a :: r) && (apos.endLine == pos.line) && ckE sc blk o oe && ckEs sc blk es (a :: r) && (match m, r with
      | .append, [] => true
      | .append, _ => false
      | _, _ => true)
    | _ => false
  | .ix a b, e => match e with
    | .Subscript l i _ => unslice i && ckE sc blk a l && ckE sc blk b i
    | _ => false
  | .dget a b, e => match e with
    | .Subscript l i _ => unslice i && ckE sc blk a l && ckE sc blk b i
    | _ => false
  | .sl a lo hi, e => match e with
    | .Subscript l (.Slice lo' hi' none _) _ => ckE sc blk a l && ckO sc blk lo lo' && ckO sc blk hi hi'
    | _ => false
  | .isi a t, e => match e with
    | .Call (.Name f _) [x, .Name y _] [] _ => decide (f = ("isinstance" : Str)) && gloB sc f && decide (y = tyNm t) && gloB sc y && unstar x && ckE sc blk a x
    | _ => false
  | .dnew kt kvs, e => match e with
    | .Dict keys vals _ => (match keys with
      | [] => vals.isEmpty && (match kvs with
        | .nil => true
        | _ => false)
      | k :: ks => !kt && (k :: ks).all (·.isSome) && ((k :: ks).length == vals.length) && decide ((k :: ks).length ≤ 15) && ckK sc blk kvs (k :: ks) vals)
    | _ => false
  | .xfld _ _, _ => false
  | .tupr a, e => match e with
    | .Call (.Name f _) [.Call (.Name g _) [x] [] _] [] _ => decide (f = ("tuple" : Str)) && gloB sc f && decide (g = ("range" : Str)) && gloB sc g && unstar x && ckE sc blk a x
    | _ => false
def ckEs (sc : Scope) (blk : Bool) : Es → List Expr → Bool
  | .nil, l => l.isEmpty
  | .cons c r, l => match l with
    | e :: es => unstar e && ckE sc blk c e && ckEs sc blk r es
    | [] => false
def ckO (sc : Scope) (blk : Bool) : Oe → Option Expr → Bool
  | .none, o => o.isNone
  | .some c, o => match o with
    | some e => ckE sc blk c e
    | none => false
def ckK (sc : Scope) (blk : Bool) : Kvs → List (Option Expr) → List Expr → Bool
  | .nil, ks, vs => ks.isEmpty && vs.isEmpty
  | .cons ck cv r, ks, vs => match ks, vs with
    | some k :: ks, v :: vs => ckE sc blk ck k && ckE sc blk cv v && ckK sc blk r ks vs
    | _, _ => false
def ckF (sc : Scope) (blk : Bool) : F → Expr → Bool
  | .disp es, e => match e with
    | .List l _ => ckEs sc blk es l
    | _ => false
  | .lc n elt tg it t own, e => match e with
    | .ListComp ee gs scope _ => (match gs with
      | [⟨tge, ite, ifs, a⟩] => (a == 0) && (n == blk) && L2.blkC N sc scope (ownOf N own) && subB (tgIx tg) own && unset ite && ckI sc blk it tge ite && ckTg N (L2.relS scope sc) true tg tge && ckT (L2.relS scope sc) true t ifs && ckE (L2.relS scope sc) true elt ee
      | _ => false)
    | _ => false
  | .sl a lo hi, e => match e with
    | .Subscript l (.Slice lo' hi' none _) _ => ckE sc blk a l && ckO sc blk lo lo' && ckO sc blk hi hi'
    | _ => false
  | .rev _, _ => false
  | .cat a b, e => match e with
    | .BinOp l .Add r _ => ckE sc blk a l && ckE sc blk b r
    | _ => false
  | .lis a, e => match e with
    | .Call (.Name f _) [x] [] _ => decide (f = ("list" : Str)) && gloB sc f && unstar x && ckE sc blk a x
    | _ => false
def ckT (sc : Scope) (blk : Bool) : Oe → List Expr → Bool
  | .none, l => l.isEmpty
  | .some c, l => match l with
    | [e] => unif e && ckE sc blk c e
    | _ => false
def ckI (sc : Scope) (blk : Bool) : It → Expr → Expr → Bool
  | .val c, _, e => ckE sc blk c e
  | .range1 a, _, e => match e with
    | .Call (.Name f _) [x] [] _ => decide (f = ("range" : Str)) && gloB sc f && unstar x && ckE sc blk a x
    | _ => false
  | .range2 a b, _, e => match e with
    | .Call (.Name f _) [x, y] [] _ => decide (f = ("range" : Str)) && gloB sc f && unstar x && unstar y && ckE sc blk a x && ckE sc blk b y
    | _ => false
  | .enum a, tg, e => match tg, e with
    | .Tuple _ _ _, .Call (.Name f _) [x] [] _ => decide (f = ("enumerate" : Str)) && gloB sc f && unstar x && ckE sc blk a x
    | _, _ => false
  | .zip a b, tg, e => match tg, e with
    | .Tuple _ _ _, .Call (.Name f _) [x, y] [] _ => decide (f = ("zip" : Str)) && gloB sc f && unstar x && unstar y && ckE sc blk a x && ckE sc blk b y
    | _, _ => false
end

/-! ### statements -/
/-- name = [..] goes the other way -/
def swB (sc : Scope) (x : Str) (px : Pos) : Expr → Bool
  | .ListComp _ _ scope pos => locB sc x && (px.line == pos.line) && !(scope.names.any fun (n, k) => n == x && (k == .local || k == .cell))
  | _ => false
def parNm (sc : Scope) (line : Nat) : List Nat → List Expr → Bool
  | [], [] => true
  | i :: is, .Name x p :: r => decide (N[i]? = some x) && locB sc x && (p.line == line) && parNm sc line is r
  | _, _ => false
/-- the targets that are plain local names of one line -/
def locNms (sc : Scope) (ts : List Expr) : List Str := ts.filterMap fun
  | .Name x p => if locB sc x && p.line == (ts.head?.map (·.pos.line)).getD 0 then some x else none
  | _ => none
/-- a suite's expressions -/
def ckX (sc : Scope) : E → Expr → Bool
  | .slot i, e => ckE T N sc false (.slot i) e
  | .cst d, e => ckE T N sc false (.cst d) e
  | .glob d, e => ckE T N sc false (.glob d) e
  | .xfld i c, e => match e with
    | .Attribute (.Name x _) f _ => decide (N[i]? = some x) && visB sc x && nmB x && decide (T.fl[c]? = some f) && decide (c < T.ex.length)
    | _ => false
  | _, _ => false
def ckXs (sc : Scope) : Es → List Expr → Bool
  | .nil, l => l.isEmpty
  | .cons c r, l => match l with
    | e :: es => unstar e && ckX T N sc c e && ckXs sc r es
    | [] => false
def ckXt (sc : Scope) (c : E) (e : Expr) : Bool := match c, e with
  | .tup es, .Tuple l _ _ => ckXs T N sc es l
  | c, e => ckX T N sc c e
/-- an unnamed clause's suite -/
def ckU (sc : Scope) (s : Ss) (l : List Stmt) : Bool := match s, l with
  | .cons (.ret c) .nil, [.Return (some e) _] => ckXt T N sc c e
  | .cons .pass .nil, [.Pass _] => true
  | .cons .cont .nil, [.Continue _] => true
  | .cons (.set i c) .nil, [.Assign [.Name x _] e _] => decide (N[i]? = some x) && locCB sc false x && uncomp e && ckXt T N sc c e
  | _, _ => false
def ckH (sc : Scope) : Hs → List ExceptHandler → Bool
  | .nil, l => l.isEmpty
  | .cons n c i s r, l => match l with
    | .ExceptHandler (some (.Name x _)) nm body _ :: hds => decide (n = T.ex.length) && decide (c < n) && decide (T.ex[c]? = some x) && gloB sc x && nmB x && ckH sc r hds && (match i, nm with
      | none, none => (match body with
        | b :: bs => ckU T N sc s (b :: bs)
        | [] => false)
      | some j, some y => decide (N[j]? = some y) && locB sc y && (match s, body with
        | .cons (.ret ce) .nil, [.Return (some e) _] => ckXt T N sc ce e
        | _, _ => false)
      | _, _ => false)
    | _ => false
mutual
def ckS (sc : Scope) : S → Stmt → Bool
  | .set i c, st => match st with
    | .Assign [.Name x px] e pos => decide (N[i]? = some x) && locCB sc false x && (uncomp e || (match e with
      | .ListComp _ _ _ _ => true
      | _ => false)) && ckE T N sc false c e
    | _ => false
  | .par is es, st => match st with
    | .Assign [.Tuple ts _ _] (.Tuple vs _ _) _ => (ts.length == is.length) && (vs.length == is.length) && (is.length == 2 || is.length == 3) && parNm N sc ((ts.head?.map (·.pos.line)).getD 0) is ts && decide is.Nodup && !vs.all (foldedForSure 8) && !vs.all (constantsAlone 8) && ckEs T N sc false es vs
    | _ => false
  | .asg t c, st => match st with
    | .Assign [.Tuple ts k p] e _ => ckTg N sc false t (.Tuple ts k p) && uncomp e && ckE T N sc false c e && (untup e || (match e with
      | .Tuple vs _ _ => vs.all (foldedForSure 8) || ((locNms sc ts).length != ts.length)
      | _ => false))
    | _ => false
  | .setIx o i c, st => match st with
    | .Assign [.Subscript oe ie _] e _ => unslice ie && ckE T N sc false o oe && ckE T N sc false i ie && ckE T N sc false c e
    | _ => false
  | .setK o i c, st => match st with
    | .Assign [.Subscript oe ie _] e _ => unslice ie && ckE T N sc false o oe && ckE T N sc false i ie && ckE T N sc false c e
    | _ => false
  | .aug i o c, st => match st with
    | .AugAssign (.Name x _) op e _ => decide (N[i]? = some x) && locCB sc false x && ckE T N sc false c e && (match o, op with
      | .add, .Add => true
      | .sub, .Sub => true
      | _, _ => false)
    | _ => false
  | .ex c, st => match st with
    | .Expr e _ => uncomp e && ckE T N sc false c e
    | _ => false
  | .ife t a b, st => match st with
    | .If c x y _ => unif c && ckE T N sc false t c && ckSs sc a x && ckSs sc b y
    | _ => false
  | .for_ t it b, st => match st with
    | .For tg ie body [] _ => unset ie && ckTg N sc false t tg && ckI T N sc false it tg ie && ckSs sc b body
    | _ => false
  | .while_ t b, st => match st with
    | .While c body [] _ => unif c && ckE T N sc false t c && ckSs sc b body
    | _ => false
  | .ret c, st => match st with
    | .Return (some e) _ => ckE T N sc false c e
    | _ => false
  | .retN, st => match st with
    | .Return none _ => true
    | _ => false
  | .raise c a, st => match st with
    | .Raise (some (.Call (.Name x _) [e] [] _)) none _ => decide (T.ex[c]? = some x) && gloB sc x && nmB x && unstar e && ckE T N sc false a e
    | _ => false
  | .try_ b hs, st => match st with
    | .Try body (h :: hds) [] [] _ => ckSs sc b body && ckH T N sc hs (h :: hds)
    | _ => false
  | .pass, st => match st with
    | .Pass _ => true
    | _ => false
  | .brk, st => match st with
    | .Break _ => true
    | _ => false
  | .cont, st => match st with
    | .Continue _ => true
    | _ => false
def ckSs (sc : Scope) : Ss → List Stmt → Bool
  | .nil, l => l.isEmpty
  | .cons c r, l => match l with
    | s :: ss => ckS sc c s && ckSs sc r ss
    | [] => false
end
/-- a body, its docstring left out -/
def ckB (sc : Scope) (c : Ss) (body : List Stmt) : Bool := match body with
  | .Expr (.Constant (.str _) _ _) _ :: r => ckSs T N sc c r
  | b => ckSs T N sc c b
end
end EV
end

section
set_option autoImplicit false
/-! The checker's yes: the text says what the evaluator says. -/
namespace EV
open PySem PySem.Spec PyProof.Rows

def blts : List Str := ["len", "tuple", "all", "any", "sum", "str", "int", "bool", "list", "isinstance", "range", "enumerate", "zip"]
structure CtxE (C : Cfg) (T : Tb) (cf : Nat → List D → M D) (N : List Str) (sc : Scope) (blk : Bool) (X : L2.Cx) : Prop where
  K : X.K = C.K
  calm : X.calm = true
  hu : X.A.units + 65 < cLine
  nN : X.N = N
  nd : N.Nodup
  scp : X.env.scope = sc
  kind : sc.kind = .function
  gl : ∀ x d, T.gl.lookup x = some d → ∃ u v, X.mg x = some u ∧ L2.RelV v u ∧ ∀ Z ι H, RV C Z ι H d v
  bl : ∀ x ∈ blts, X.mg x = none
  fn : ∀ f x, T.fn[f]? = some x → X.mg x = some (.ref (C.adr f)) ∧ Cal X C cf f
  fnT : blk = false → ∀ x, X.fn x = true
structure Own (X : L2.Cx) (W : L2.WX) : Prop where
  stk : X.stack = X.env :: X.outer
  fr : X.env.frame = some X.env.locals
  tk : L2.Takes X W
  po : PassesOwn (model X.prog X.w) X.A X.env X.xe
section
variable {C : Cfg} {T : Tb} {cf : Nat → List D → M D} {N : List Str} {sc : Scope} {blk : Bool} {X : L2.Cx} {W : L2.WX}
theorem CtxE.blkc (c : CtxE C T cf N sc blk X) {scope : Scope} {own : List (Str × Nat)} (ok : L2.BlkOk N sc scope own) (s : Shared) (H : L2.Hp) (C' : Addr) (cl : List (Str × Addr)) (fp : List Addr) (xe : Value → Shared → Prop) :
    CtxE C T cf N (L2.relS scope sc) true (blkX X s H scope (compEnvC scope cl C' X.env) fp xe) where
  K := c.K
  calm := c.calm
  hu := c.hu
  nN := c.nN
  nd := c.nd
  scp := by rw [← c.scp]; rfl
  kind := ok.kind
  gl := c.gl
  bl := c.bl
  fn := fun f x h => ⟨(c.fn f x h).1, ⟨(c.fn f x h).2.ex, (c.fn f x h).2.keep⟩⟩
  fnT := fun h => nomatch h
theorem CtxE.trc (c : CtxE C T cf N sc blk X) (pn : List (Addr × Obj)) (xe : Value → Shared → Prop) : CtxE C T cf N sc blk (X.tr pn xe) where
  K := c.K
  calm := c.calm
  hu := c.hu
  nN := c.nN
  nd := c.nd
  scp := c.scp
  kind := c.kind
  gl := c.gl
  bl := c.bl
  fn := fun f x h => ⟨(c.fn f x h).1, ⟨(c.fn f x h).2.ex, (c.fn f x h).2.keep⟩⟩
  fnT := c.fnT
theorem CtxE.vis (c : CtxE C T cf N sc blk X) {x : Str} (h : visB sc x = true) : L2.Vis X.env.scope x := by rw [c.scp]; exact visB_ok h
theorem CtxE.glo (c : CtxE C T cf N sc blk X) {x : Str} (h : gloB sc x = true) : L2.Gl X x := by
  show X.env.scope.names.lookup x = _
  rw [c.scp]; exact gloB_ok h
theorem CtxE.ix (c : CtxE C T cf N sc blk X) {x : Str} {i : Nat} (h : decide (N[i]? = some x) = true) : X.N[i]? = some x := by rw [c.nN]; exact of_decide_eq_true h
theorem CtxE.ndX (c : CtxE C T cf N sc blk X) : X.N.Nodup := by rw [c.nN]; exact c.nd
theorem CtxE.loc (c : CtxE C T cf N sc blk X) {x : Str} (h : locCB sc blk x = true) : L2.Loc X.env.scope x ∧ (X.fn x = true ∨ X.env.scope.names.lookup x = some .local) := by
  obtain ⟨h1, h2⟩ := locCB_ok h
  refine ⟨by rw [c.scp]; exact h1, ?_⟩
  cases blk with
  | false => exact .inl (c.fnT rfl x)
  | true => exact .inr (by rw [c.scp]; exact h2 rfl)
end

section
variable {C : Cfg} {T : Tb} {cf : Nat → List D → M D} {N : List Str}
theorem assign_un {e : Expr} {es : List Expr} {env : PySem.Env} (h : unstar e = true) : assignEach (e :: es) env = (false, assign e env) :: assignEach es env := by
  cases e <;> first | rfl | cases h
theorem assign_len {env : PySem.Env} : ∀ (es : List Expr), (assignEach es env).length = es.length
  | [] => rfl
  | e :: es => by
    have : ∃ b t, assignEach (e :: es) env = (b, t) :: assignEach es env := by cases e <;> exact ⟨_, _, rfl⟩
    obtain ⟨b, t, h⟩ := this
    rw [h, List.length_cons, assign_len es, List.length_cons]
theorem assign_nostar {env : PySem.Env} : ∀ {es : List Expr}, es.all unstar = true → (assignEach es env).findIdx? (·.1) = none
  | [], _ => rfl
  | e :: es, h => by
    rw [List.all_cons, Bool.and_eq_true] at h
    rw [assign_un h.1, List.findIdx?_cons]
    simp [assign_nostar h.2]
mutual
theorem sndTg : ∀ (t : Tg) {X : L2.Cx} {sc : Scope} {blk : Bool} {e : Expr}, CtxE C T cf N sc blk X → ckTg N sc blk t e = true → L2.PG X e (rB C t)
  | .name i, X, sc, blk, e, c, h => by
    unfold ckTg at h
    split at h
    · rw [Bool.and_eq_true] at h
      obtain ⟨h1, h2⟩ := c.loc h.2
      exact g_name c.ndX (c.ix h.1) h1 h2
    · cases h
  | .tup ts, X, sc, blk, e, c, h => by
    unfold ckTg at h
    split at h
    · rename_i es k p
      simp only [Bool.and_eq_true] at h
      obtain ⟨⟨h1, h2⟩, h3⟩ := h
      exact g_tup c.K c.calm (sndTgs ts c h1 h3) (by rw [assign_len]; exact (beq_iff_eq.mp h2).symm) (assign_nostar h1)
    · cases h
theorem sndTgs : ∀ (t : Tgs) {X : L2.Cx} {sc : Scope} {blk : Bool} {es : List Expr}, CtxE C T cf N sc blk X → es.all unstar = true → ckTgs N sc blk t es = true → L2.PGs X es (rBs C t)
  | .nil, X, sc, blk, es, c, _, h => by
    unfold ckTgs at h
    cases es with
    | nil => exact gs_nil
    | cons _ _ => cases h
  | .cons t r, X, sc, blk, es, c, hu, h => by
    unfold ckTgs at h
    cases es with
    | nil => cases h
    | cons e es =>
      simp only [Bool.and_eq_true] at h
      rw [List.all_cons, Bool.and_eq_true] at hu
      exact gs_cons (by rw [assign_un hu.1]; rfl) (sndTg t c h.1) (sndTgs r c hu.2 h.2)
end
theorem subB_ok {a b : List Nat} (h : subB a b = true) : ∀ i ∈ a, i ∈ b := fun i hi => by
  have := List.all_eq_true.mp h i hi
  simpa using this
theorem pw_of {X : L2.Cx} {op : BoolOp} {x : Expr} {xs : List Expr} {pos : Pos} {t : L2.TT} (h : L2.PT X (.BoolOp op (x :: xs) pos) t) : L2.PW X (.BoolOp op (x :: xs) pos) t := ⟨fun whole pins s σ H Q I w => h.run pins s σ H Q I w⟩
theorem ckEs_un {sc : Scope} {blk : Bool} : ∀ {c : Es} {es : List Expr}, ckEs T N sc blk c es = true → es.all unstar = true := by
  intro c es
  induction es generalizing c with
  | nil => intro _; rfl
  | cons e es ih =>
    intro h
    cases c with
    | nil => unfold ckEs at h; cases h
    | cons c r =>
      unfold ckEs at h
      simp only [Bool.and_eq_true] at h
      rw [List.all_cons, h.1.1, ih h.2]
      rfl
end
end EV
end

section
set_option autoImplicit false
namespace EV
open PySem PySem.Spec PyProof.Rows
section
variable {C : Cfg} {T : Tb} {cf : Nat → List D → M D} {N : List Str}
theorem pePT {X : L2.Cx} {W : L2.WX} {e : Expr} {m : Env → M D} (h : L2.PE X e (rE C W m)) (hp : plainT e = true) : L2.PE X e (rE C W m) ∧ (unif e = true → L2.PT X e (rT C W m)) := ⟨h, fun _ => st_val h (plainT_of hp)⟩
theorem CtxE.free {sc : Scope} {blk : Bool} {X : L2.Cx} (c : CtxE C T cf N sc blk X) {x : Str} (h : blts.contains x = true) : X.mg x = none := c.bl x (by simpa using h)
theorem biNm_blt (b : Bi) : blts.contains (biNm b) = true := by cases b <;> decide +kernel
theorem tyNm_blt (t : Ty) : blts.contains (tyNm t) = true := by cases t <;> decide +kernel
theorem opB_dec {b : Bool} (h : (!b) = true) : b = false := by cases b <;> simp_all
set_option maxHeartbeats 4000000 in
mutual
theorem sndE : ∀ (t : E) {X : L2.Cx} {W : L2.WX} {sc : Scope} {blk : Bool} {e : Expr}, CtxE C T cf N sc blk X → Takes2 X W → (blk = false → Own X W) → ckE T N sc blk t e = true → L2.PE X e (rE C W (evE cf t)) ∧ (unif e = true → L2.PT X e (rT C W (evE cf t)))
  | .slot i, X, W, sc, blk, e, c, tk, ow, h => by
    unfold ckE at h
    split at h
    · simp only [Bool.and_eq_true] at h
      obtain ⟨⟨h1, h2⟩, h3⟩ := h
      exact pePT (s_slot (c.ix h1) (c.vis h2) (nmB_ok h3).1 (nmB_ok h3).2) rfl
    · cases h
  | .cst d, X, W, sc, blk, e, c, tk, ow, h => by
    unfold ckE at h
    split at h
    · exact pePT (s_cst h) rfl
    · cases h
  | .glob d, X, W, sc, blk, e, c, tk, ow, h => by
    unfold ckE at h
    split at h
    · simp only [Bool.and_eq_true] at h
      obtain ⟨⟨h1, h2⟩, h3⟩ := h
      split at h3
      · rename_i d' hd
        obtain ⟨u, v, m, r, rv⟩ := c.gl _ _ hd
        rw [same_eq _ _ h3] at rv
        exact pePT (s_glob (c.glo h1) m r (nmB_ok h2).1 rv) rfl
      · cases h3
    · cases h
  | .fnv f, X, W, sc, blk, e, c, tk, ow, h => by
    unfold ckE at h
    split at h
    · simp only [Bool.and_eq_true] at h
      obtain ⟨⟨h1, h2⟩, h3⟩ := h
      exact pePT (s_fnv (c.glo h1) (c.fn _ _ (of_decide_eq_true h3)).1 (nmB_ok h2).1) rfl
    · cases h
  | .bin o a b, X, W, sc, blk, e, c, tk, ow, h => by
    unfold ckE at h
    split at h
    · simp only [Bool.and_eq_true] at h
      obtain ⟨⟨h1, h2⟩, h3⟩ := h
      exact pePT (s_bin c.K (of_decide_eq_true h1) (sndE a c tk ow h2).1 (sndE b c tk ow h3).1) rfl
    · cases h
  | .neg a, X, W, sc, blk, e, c, tk, ow, h => by
    unfold ckE at h
    split at h
    · exact pePT (s_neg (sndE a c tk ow h).1) rfl
    · cases h
  | .not a, X, W, sc, blk, e, c, tk, ow, h => by
    unfold ckE at h
    split at h
    · simp only [Bool.and_eq_true] at h
      have := sndE a c tk ow h.2
      exact ⟨s_not this.1, fun _ => st_not (this.2 h.1)⟩
    · cases h
  | .cmp o a b, X, W, sc, blk, e, c, tk, ow, h => by
    unfold ckE at h
    split at h
    · simp only [Bool.and_eq_true] at h
      obtain ⟨⟨⟨h1, h2⟩, h3⟩, h4⟩ := h
      have ha := (sndE a c tk ow h3).1
      have hb := (sndE b c tk ow h4).1
      exact ⟨s_cmp c.K c.hu (of_decide_eq_true h1) (opB_dec h2) ha hb, fun _ => st_cmp c.K c.hu (of_decide_eq_true h1) (opB_dec h2) ha hb⟩
    · cases h
  | .chain o1 o2 a b d, X, W, sc, blk, e, c, tk, ow, h => by
    unfold ckE at h
    split at h
    · simp only [Bool.and_eq_true] at h
      obtain ⟨⟨⟨⟨⟨h1, h2⟩, h3⟩, h4⟩, h5⟩, h6⟩ := h
      have ha := (sndE a c tk ow h4).1
      have hb := (sndE b c tk ow h5).1
      have hd := (sndE d c tk ow h6).1
      exact ⟨s_chain c.K c.hu (of_decide_eq_true h1) (of_decide_eq_true h2) (opB_dec h3) ha hb hd, fun _ => st_chain c.K c.hu (of_decide_eq_true h1) (of_decide_eq_true h2) (opB_dec h3) ha hb hd⟩
    · cases h
  | .isN a, X, W, sc, blk, e, c, tk, ow, h => by
    unfold ckE at h
    split at h
    · have := (sndE a c tk ow h).1
      exact ⟨s_isN this, fun _ => st_isN this⟩
    · cases h
  | .notN a, X, W, sc, blk, e, c, tk, ow, h => by
    unfold ckE at h
    split at h
    · have := (sndE a c tk ow h).1
      exact ⟨s_notN this, fun _ => st_notN this⟩
    · cases h
  | .and a b, X, W, sc, blk, e, c, tk, ow, h => by
    unfold ckE at h
    split at h
    · rename_i x y rest pos
      simp only [Bool.and_eq_true] at h
      obtain ⟨⟨h1, h2⟩, h3⟩ := h
      have ha := sndE a c tk ow h2
      split at h3
      · simp only [Bool.and_eq_true] at h3
        have hb := sndE b c tk ow h3.2
        exact ⟨s_and ha.1 (s_one hb.1), fun _ => (sw_and (ha.2 h1) (sw_and1 (hb.2 h3.1))).pt⟩
      · have hb := sndE b c tk ow h3
        exact ⟨s_and ha.1 hb.1, fun _ => (sw_and (ha.2 h1) (pw_of (hb.2 rfl))).pt⟩
    · cases h
  | .or a b, X, W, sc, blk, e, c, tk, ow, h => by
    unfold ckE at h
    split at h
    · rename_i x y rest pos
      simp only [Bool.and_eq_true] at h
      obtain ⟨⟨h1, h2⟩, h3⟩ := h
      have ha := sndE a c tk ow h2
      split at h3
      · simp only [Bool.and_eq_true] at h3
        have hb := sndE b c tk ow h3.2
        exact ⟨s_or ha.1 (s_one hb.1), fun _ => (sw_or (ha.2 h1) (sw_or1 (hb.2 h3.1))).pt⟩
      · have hb := sndE b c tk ow h3
        exact ⟨s_or ha.1 hb.1, fun _ => (sw_or (ha.2 h1) (pw_of (hb.2 rfl))).pt⟩
    · cases h
  | .ife t a b, X, W, sc, blk, e, c, tk, ow, h => by
    unfold ckE at h
    split at h
    · simp only [Bool.and_eq_true] at h
      obtain ⟨⟨⟨h1, h2⟩, h3⟩, h4⟩ := h
      exact ⟨s_ife ((sndE t c tk ow h2).2 h1) (sndE a c tk ow h3).1 (sndE b c tk ow h4).1, fun q => by cases q⟩
    · cases h
  | .tup es, X, W, sc, blk, e, c, tk, ow, h => by
    unfold ckE at h
    split at h
    · exact pePT (s_tup (sndEs es c tk ow h)) rfl
    · cases h
  | .frz f, X, W, sc, blk, e, c, tk, ow, h => by
    unfold ckE at h
    have := sndF f c tk ow h
    exact pePT (s_frz this.1) this.2
  | .mut f, X, W, sc, blk, e, c, tk, ow, h => by
    unfold ckE at h
    have := sndF f c tk ow h
    exact pePT (s_mut this.1) this.2
  | .call f es, X, W, sc, blk, e, c, tk, ow, h => by
    unfold ckE at h
    split at h
    · rename_i x p args pos
      simp only [Bool.and_eq_true] at h
      obtain ⟨⟨⟨h1, h2⟩, h3⟩, h4⟩ := h
      obtain ⟨m, cal⟩ := c.fn _ _ (of_decide_eq_true h3)
      have ha := sndEs es c tk ow h4
      have hu := ckEs_un h4
      cases args with
      | nil =>
        have e0 : es = .nil := by
          cases es with
          | nil => rfl
          | cons _ _ => unfold ckEs at h4; cases h4
        subst e0
        exact pePT (s_call0 cal tk (c.glo h1) m (nmB_ok h2).1) rfl
      | cons a r =>
        rw [List.all_cons, Bool.and_eq_true] at hu
        exact pePT (s_call cal tk (c.glo h1) m (nmB_ok h2).1 ha (star_of hu.1) (star_any hu.2)) rfl
    · cases h
  | .callk f es, X, W, sc, blk, e, c, tk, ow, h => by
    unfold ckE at h
    split at h
    · rename_i x p args pos
      simp only [Bool.and_eq_true] at h
      obtain ⟨⟨⟨h1, h2⟩, h3⟩, h4⟩ := h
      obtain ⟨m, cal⟩ := c.fn _ _ (of_decide_eq_true h3)
      have ha := sndEs es c tk ow h4
      have hu := ckEs_un h4
      cases args with
      | nil =>
        have e0 : es = .nil := by
          cases es with
          | nil => rfl
          | cons _ _ => unfold ckEs at h4; cases h4
        subst e0
        exact pePT (s_callk0 cal tk (c.glo h1) m (nmB_ok h2).1) rfl
      | cons a r =>
        rw [List.all_cons, Bool.and_eq_true] at hu
        exact pePT (s_callk cal tk (c.glo h1) m (nmB_ok h2).1 ha (star_of hu.1) (star_any hu.2)) rfl
    · cases h
  | .callv i n es, X, W, sc, blk, e, c, tk, ow, h => by
    unfold ckE at h
    split at h
    · rename_i x p args pos
      simp only [Bool.and_eq_true] at h
      obtain ⟨⟨⟨⟨h1, h2⟩, h3⟩, hn⟩, h4⟩ := h
      have cal : ∀ f, f < n → Cal X C cf f := fun f hf => by
        rw [of_decide_eq_true hn] at hf
        exact (c.fn f _ (List.getElem?_eq_getElem hf)).2
      have ha := sndEs es c tk ow h4
      have hu := ckEs_un h4
      cases args with
      | nil =>
        have e0 : es = .nil := by
          cases es with
          | nil => rfl
          | cons _ _ => unfold ckEs at h4; cases h4
        subst e0
        exact pePT (s_callv0 cal tk (c.ix h1) (c.vis h2) (nmB_ok h3).1 (nmB_ok h3).2) rfl
      | cons a r =>
        rw [List.all_cons, Bool.and_eq_true] at hu
        exact pePT (s_callv cal tk (c.ix h1) (c.vis h2) (nmB_ok h3).1 (nmB_ok h3).2 ha (star_of hu.1) (star_any hu.2)) rfl
    · cases h
  | .bi b es, X, W, sc, blk, e, c, tk, ow, h => by
    unfold ckE at h
    split at h
    · rename_i x p a r pos
      simp only [Bool.and_eq_true] at h
      obtain ⟨⟨h1, h2⟩, h3⟩ := h
      have hx := of_decide_eq_true h1
      have hu := ckEs_un h3
      rw [List.all_cons, Bool.and_eq_true] at hu
      exact pePT (s_bi hx c.K c.calm (c.glo h2) (c.free (by rw [hx]; exact biNm_blt b)) (sndEs es c tk ow h3) (star_of hu.1) (star_any hu.2)) rfl
    · cases h
  | .meth m o es, X, W, sc, blk, e, c, tk, ow, h => by
    unfold ckE at h
    split at h
    · rename_i oe x apos a r pos
      simp only [Bool.and_eq_true] at h
      obtain ⟨⟨⟨⟨⟨⟨h1, h2⟩, h3⟩, h4⟩, h5⟩, h6⟩, h7⟩ := h
      have hx := of_decide_eq_true h1
      have hu := ckEs_un h6
      rw [List.all_cons, Bool.and_eq_true] at hu
      have ho := (sndE o c tk ow h5).1
      have ha := sndEs es c tk ow h6
      split at h7
      · exact pePT (s_append hx c.K ho ha (base_of h2) (few_of h3) h4 (star_of hu.1)) rfl
      · cases h7
      · rename_i hm0 hm
        by_cases hm' : m = .append
        · subst hm'
          first
            | exact absurd rfl hm
            | exact absurd rfl hm0
            | exact (hm0 rfl).elim
        · exact pePT (s_meth hx hm' c.K ho ha (base_of h2) (few_of h3) h4 (star_of hu.1) (star_any hu.2)) rfl
    · cases h
  | .ix a b, X, W, sc, blk, e, c, tk, ow, h => by
    unfold ckE at h
    split at h
    · simp only [Bool.and_eq_true] at h
      obtain ⟨⟨h1, h2⟩, h3⟩ := h
      exact pePT (s_ix c.K (plainIx_of h1) (sndE a c tk ow h2).1 (sndE b c tk ow h3).1) rfl
    · cases h
  | .dget a b, X, W, sc, blk, e, c, tk, ow, h => by
    unfold ckE at h
    split at h
    · simp only [Bool.and_eq_true] at h
      obtain ⟨⟨h1, h2⟩, h3⟩ := h
      exact pePT (s_dget c.hu (noSl_of h1) (sndE a c tk ow h2).1 (sndE b c tk ow h3).1) rfl
    · cases h
  | .sl a lo hi, X, W, sc, blk, e, c, tk, ow, h => by
    unfold ckE at h
    split at h
    · simp only [Bool.and_eq_true] at h
      obtain ⟨⟨h1, h2⟩, h3⟩ := h
      exact pePT (s_sl c.K (sndE a c tk ow h1).1 (sndO lo c tk ow h2) (sndO hi c tk ow h3)) rfl
    · cases h
  | .isi a t, X, W, sc, blk, e, c, tk, ow, h => by
    unfold ckE at h
    split at h
    · simp only [Bool.and_eq_true] at h
      obtain ⟨⟨⟨⟨⟨h1, h2⟩, h3⟩, h4⟩, h5⟩, h6⟩ := h
      have hf := of_decide_eq_true h1
      have hy := of_decide_eq_true h3
      subst hf
      exact pePT (s_isi hy c.K (c.glo h2) (c.free (by decide +kernel)) (c.glo h4) (c.free (by rw [hy]; exact tyNm_blt t)) (sndE a c tk ow h6).1 (star_of h5)) rfl
    · cases h
  | .dnew kt kvs, X, W, sc, blk, e, c, tk, ow, h => by
    unfold ckE at h
    split at h
    · rename_i keys vals pos
      cases keys with
      | nil =>
        simp only [Bool.and_eq_true] at h
        obtain ⟨h1, h2⟩ := h
        cases vals with
        | cons _ _ => cases h1
        | nil =>
          cases kvs with
          | cons _ _ _ => cases h2
          | nil => exact pePT s_dnewT rfl
      | cons k ks =>
        simp only [Bool.and_eq_true] at h
        obtain ⟨⟨⟨⟨h1, h2⟩, h3⟩, h4⟩, h5⟩ := h
        have hk : kt = false := opB_dec h1
        subst hk
        exact pePT (s_dnew (sndK kvs c tk ow h5) h2 (beq_iff_eq.mp h3) (by simp) (of_decide_eq_true h4)) rfl
    · cases h
  | .xfld _ _, X, W, sc, blk, e, c, tk, ow, h => by
    unfold ckE at h
    cases h
  | .tupr a, X, W, sc, blk, e, c, tk, ow, h => by
    unfold ckE at h
    split at h
    · simp only [Bool.and_eq_true] at h
      obtain ⟨⟨⟨⟨⟨h1, h2⟩, h3⟩, h4⟩, h5⟩, h6⟩ := h
      have hf := of_decide_eq_true h1
      have hy := of_decide_eq_true h3
      subst hf hy
      exact pePT (s_tupr c.calm (c.glo h2) (c.free (by decide +kernel)) (c.glo h4) (c.free (by decide +kernel)) (sndE a c tk ow h6).1 (star_of h5)) rfl
    · cases h
theorem sndEs : ∀ (t : Es) {X : L2.Cx} {W : L2.WX} {sc : Scope} {blk : Bool} {es : List Expr}, CtxE C T cf N sc blk X → Takes2 X W → (blk = false → Own X W) → ckEs T N sc blk t es = true → L2.PA X es (rA C W (evEs cf t))
  | .nil, X, W, sc, blk, es, c, tk, ow, h => by
    unfold ckEs at h
    cases es with
    | nil => exact s_nil
    | cons _ _ => cases h
  | .cons t r, X, W, sc, blk, es, c, tk, ow, h => by
    unfold ckEs at h
    cases es with
    | nil => cases h
    | cons e es =>
      simp only [Bool.and_eq_true] at h
      exact s_cons (star_of h.1.1) (sndE t c tk ow h.1.2).1 (sndEs r c tk ow h.2)
theorem sndO : ∀ (t : Oe) {X : L2.Cx} {W : L2.WX} {sc : Scope} {blk : Bool} {o : Option Expr}, CtxE C T cf N sc blk X → Takes2 X W → (blk = false → Own X W) → ckO T N sc blk t o = true → L2.PO X o (rO C W (evO cf t))
  | .none, X, W, sc, blk, o, c, tk, ow, h => by
    unfold ckO at h
    cases o with
    | none => exact s_onone
    | some _ => cases h
  | .some t, X, W, sc, blk, o, c, tk, ow, h => by
    unfold ckO at h
    cases o with
    | none => cases h
    | some e => exact s_osome (sndE t c tk ow h).1
theorem sndK : ∀ (t : Kvs) {X : L2.Cx} {W : L2.WX} {sc : Scope} {blk : Bool} {ks : List (Option Expr)} {vs : List Expr} {pos : Pos}, CtxE C T cf N sc blk X → Takes2 X W → (blk = false → Own X W) → ckK T N sc blk t ks vs = true → L2.PPs X pos ks vs (trsOf C W cf t)
  | .nil, X, W, sc, blk, ks, vs, pos, c, tk, ow, h => by
    unfold ckK at h
    cases ks with
    | cons _ _ => cases h
    | nil => cases vs with
      | cons _ _ => cases h
      | nil => exact pps_nil'
  | .cons a b r, X, W, sc, blk, ks, vs, pos, c, tk, ow, h => by
    unfold ckK at h
    split at h
    · simp only [Bool.and_eq_true] at h
      exact pps_cons' (sndE a c tk ow h.1.1).1 (sndE b c tk ow h.1.2).1 (sndK r c tk ow h.2)
    · cases h
theorem sndF : ∀ (t : F) {X : L2.Cx} {W : L2.WX} {sc : Scope} {blk : Bool} {e : Expr}, CtxE C T cf N sc blk X → Takes2 X W → (blk = false → Own X W) → ckF T N sc blk t e = true → L2.PE X e (rF C W (evF cf t)) ∧ plainT e = true
  | .disp es, X, W, sc, blk, e, c, tk, ow, h => by
    unfold ckF at h
    split at h
    · exact ⟨f_disp (sndEs es c tk ow h), rfl⟩
    · cases h
  | .lc n elt tg it t own, X, W, sc, blk, e, c, tk, ow, h => by
    unfold ckF at h
    split at h
    · rename_i ee gs scope pos
      split at h
      · rename_i tge ite ifs a
        simp only [Bool.and_eq_true] at h
        obtain ⟨⟨⟨⟨⟨⟨⟨⟨h0, h1⟩, h2⟩, h3⟩, h4⟩, h5⟩, h6⟩, h7⟩, h8⟩ := h
        have e0 : a = 0 := beq_iff_eq.mp h0
        have e1 : n = blk := beq_iff_eq.mp h1
        subst e0 e1
        have ok0 : L2.BlkOk N sc scope (ownOf N own) := L2.blkOk_by h2
        have ok : L2.BlkOk X.N X.env.scope scope (ownOf N own) := by rw [c.nN, c.scp]; exact ok0
        have hown : ∀ i ∈ tgIx tg, i ∈ (ownOf N own).map (·.2) := by rw [ownOf_map]; exact subB_ok h3
        have hg : ∀ (s : Shared) (H : L2.Hp) (C' : Addr) (cl : List (Str × Addr)) (fp : List Addr) (xe : Value → Shared → Prop), L2.PG (blkX X s H scope (compEnvC scope cl C' X.env) fp xe) tge (rB C tg) := fun s H C' cl fp xe => sndTg tg (c.blkc ok0 s H C' cl fp xe) h6
        have ht : ∀ (s : Shared) (H : L2.Hp) (C' : Addr) (cl : List (Str × Addr)) (fp : List Addr) (xe : Value → Shared → Prop) (W' : L2.WX), Takes2 (blkX X s H scope (compEnvC scope cl C' X.env) fp xe) W' → L2.PTs (blkX X s H scope (compEnvC scope cl C' X.env) fp xe) ifs (rTo C W' (evT cf t)) :=
          fun s H C' cl fp xe W' tk' => sndT t (c.blkc ok0 s H C' cl fp xe) tk' (fun z => nomatch z) h7
        have he : ∀ (s : Shared) (H : L2.Hp) (C' : Addr) (cl : List (Str × Addr)) (fp : List Addr) (xe : Value → Shared → Prop) (W' : L2.WX), Takes2 (blkX X s H scope (compEnvC scope cl C' X.env) fp xe) W' → L2.PE (blkX X s H scope (compEnvC scope cl C' X.env) fp xe) ee (rE C W' (evE cf elt)) :=
          fun s H C' cl fp xe W' tk' => (sndE elt (c.blkc ok0 s H C' cl fp xe) tk' (fun z => nomatch z) h8).1
        have hi := sndI it (tg := tge) c tk ow h5
        refine ⟨?_, rfl⟩
        cases n with
        | true =>
          have := f_lcn (pos := pos) c.calm c.ndX hown hi ok hg ht he (folded_of h4)
          rw [ownOf_map] at this
          exact this
        | false =>
          obtain ⟨o1, o2, o3, _⟩ := ow rfl
          have := f_lc (pos := pos) o1 o2 o3 c.calm c.ndX hown hi ok hg ht he (folded_of h4)
          rw [ownOf_map] at this
          exact this
      · cases h
    · cases h
  | .sl a lo hi, X, W, sc, blk, e, c, tk, ow, h => by
    unfold ckF at h
    split at h
    · simp only [Bool.and_eq_true] at h
      obtain ⟨⟨h1, h2⟩, h3⟩ := h
      exact ⟨f_sl (sndE a c tk ow h1).1 (sndO lo c tk ow h2) (sndO hi c tk ow h3), rfl⟩
    · cases h
  | .rev _, X, W, sc, blk, e, c, tk, ow, h => by
    unfold ckF at h
    cases h
  | .cat a b, X, W, sc, blk, e, c, tk, ow, h => by
    unfold ckF at h
    split at h
    · simp only [Bool.and_eq_true] at h
      exact ⟨f_cat (sndE a c tk ow h.1).1 (sndE b c tk ow h.2).1, rfl⟩
    · cases h
  | .lis a, X, W, sc, blk, e, c, tk, ow, h => by
    unfold ckF at h
    split at h
    · simp only [Bool.and_eq_true] at h
      obtain ⟨⟨⟨h1, h2⟩, h3⟩, h4⟩ := h
      have hf := of_decide_eq_true h1
      exact ⟨f_lis hf c.K (c.glo h2) (c.free (by rw [hf]; decide +kernel)) (sndE a c tk ow h4).1 (star_of h3), rfl⟩
    · cases h
theorem sndT : ∀ (t : Oe) {X : L2.Cx} {W : L2.WX} {sc : Scope} {blk : Bool} {l : List Expr}, CtxE C T cf N sc blk X → Takes2 X W → (blk = false → Own X W) → ckT T N sc blk t l = true → L2.PTs X l (rTo C W (evT cf t))
  | .none, X, W, sc, blk, l, c, tk, ow, h => by
    unfold ckT at h
    cases l with
    | nil => exact ts_nil
    | cons _ _ => cases h
  | .some t, X, W, sc, blk, l, c, tk, ow, h => by
    unfold ckT at h
    split at h
    · simp only [Bool.and_eq_true] at h
      exact ts_one ((sndE t c tk ow h.2).2 h.1)
    · cases h
theorem sndI : ∀ (t : It) {X : L2.Cx} {W : L2.WX} {sc : Scope} {blk : Bool} {tg e : Expr}, CtxE C T cf N sc blk X → Takes2 X W → (blk = false → Own X W) → ckI T N sc blk t tg e = true → L2.PI X tg e (rI C W (evI cf t))
  | .val t, X, W, sc, blk, tg, e, c, tk, ow, h => by
    unfold ckI at h
    exact i_val c.K (sndE t c tk ow h).1
  | .range1 a, X, W, sc, blk, tg, e, c, tk, ow, h => by
    unfold ckI at h
    split at h
    · simp only [Bool.and_eq_true] at h
      obtain ⟨⟨⟨h1, h2⟩, h3⟩, h4⟩ := h
      have hf := of_decide_eq_true h1
      subst hf
      exact i_range1 (c.glo h2) (c.free (by decide +kernel)) (star_of h3) (sndE a c tk ow h4).1
    · cases h
  | .range2 a b, X, W, sc, blk, tg, e, c, tk, ow, h => by
    unfold ckI at h
    split at h
    · simp only [Bool.and_eq_true] at h
      obtain ⟨⟨⟨⟨⟨h1, h2⟩, h3⟩, h4⟩, h5⟩, h6⟩ := h
      have hf := of_decide_eq_true h1
      subst hf
      exact i_range2 (c.glo h2) (c.free (by decide +kernel)) (star_of h3) (star_of h4) (sndE a c tk ow h5).1 (sndE b c tk ow h6).1
    · cases h
  | .enum a, X, W, sc, blk, tg, e, c, tk, ow, h => by
    unfold ckI at h
    split at h
    · simp only [Bool.and_eq_true] at h
      obtain ⟨⟨⟨h1, h2⟩, h3⟩, h4⟩ := h
      have hf := of_decide_eq_true h1
      subst hf
      exact i_enum c.K (c.glo h2) (c.free (by decide +kernel)) (star_of h3) (sndE a c tk ow h4).1
    · cases h
  | .zip a b, X, W, sc, blk, tg, e, c, tk, ow, h => by
    unfold ckI at h
    split at h
    · simp only [Bool.and_eq_true] at h
      obtain ⟨⟨⟨⟨⟨h1, h2⟩, h3⟩, h4⟩, h5⟩, h6⟩ := h
      have hf := of_decide_eq_true h1
      subst hf
      exact i_zip c.K (c.glo h2) (c.free (by decide +kernel)) (star_of h3) (star_of h4) (sndE a c tk ow h5).1 (sndE b c tk ow h6).1
    · cases h
end
end
end EV
end

section
set_option autoImplicit false
namespace EV
open PySem PySem.Spec PyProof.Rows

structure Exs (C : Cfg) (T : Tb) (X : L2.Cx) : Prop where
  rai : ∀ c x, T.ex[c]? = some x → Rai X C c x
  h0 : ∀ a c dx, ¬ C.EX a c dx
  hex : ∀ c c', c < T.ex.length → c' < T.ex.length → PySem.W.exmOne X.K (.ref (C.cls c)) (.ref (C.cls c')) = some (decide (c = c'))
  fl : ∀ c f, T.fl[c]? = some f → c < T.ex.length → C.fld c = f ∧ L2.XfC X.K (C.cls c) ∧ PySem.W.findIn X.K (.ref (C.cls c)) f = some none
theorem Exs.trc {C : Cfg} {T : Tb} {X : L2.Cx} (e : Exs C T X) (pn : List (Addr × Obj)) (xe : Value → Shared → Prop) : Exs C T (X.tr pn xe) :=
  ⟨fun c x h => ⟨(e.rai c x h).mg, (e.rai c x h).oex, (e.rai c x h).ex⟩, e.h0, e.hex, e.fl⟩
section
variable {C : Cfg} {T : Tb} {cf : Nat → List D → M D} {N : List Str}
/-! ### suites -/
section
variable {X Y : L2.Cx} {C' : Cfg} {W : L2.WX} {sc : Scope}
theorem sndX (c : CtxE C T cf N sc false X) (hN : Y.N = X.N) (he : Y.env = X.env) (hm : Y.mg = X.mg) (gl' : ∀ x d, T.gl.lookup x = some d → ∃ u v, X.mg x = some u ∧ L2.RelV v u ∧ ∀ Z ι H, RV C' Z ι H d v)
    (xf : ∀ (i c : Nat) (x f : Str) (p p' : Pos), X.N[i]? = some x → visB sc x = true → nmB x = true → T.fl[c]? = some f → c < T.ex.length → L2.PE Y (.Attribute (.Name x p) f p') (rE C' W (evE cf (.xfld i c)))) :
    ∀ {t : E} {e : Expr}, ckX T N sc t e = true → L2.PE Y e (rE C' W (evE cf t)) := by
  intro t e h
  have vis : ∀ {x : Str}, visB sc x = true → L2.Vis Y.env.scope x := fun {x} h => by rw [he]; exact c.vis h
  cases t <;> simp only [ckX] at h <;> try cases h
  · unfold ckE at h
    split at h
    · simp only [Bool.and_eq_true] at h
      obtain ⟨⟨h1, h2⟩, h3⟩ := h
      exact s_slot (by rw [hN]; exact c.ix h1) (vis h2) (nmB_ok h3).1 (nmB_ok h3).2
    · cases h
  · unfold ckE at h
    split at h
    · exact s_cst h
    · cases h
  · unfold ckE at h
    split at h
    · simp only [Bool.and_eq_true] at h
      obtain ⟨⟨h1, h2⟩, h3⟩ := h
      split at h3
      · rename_i d' hd
        obtain ⟨u, v, m, r, rv⟩ := gl' _ _ hd
        rw [same_eq _ _ h3] at rv
        have hg : ∀ {x : Str}, gloB sc x = true → L2.Gl Y x := fun {x} h => by
          show Y.env.scope.names.lookup x = _
          rw [he]
          exact c.glo h
        exact s_glob (hg h1) (by rw [hm]; exact m) r (nmB_ok h2).1 rv
      · cases h3
    · cases h
  · rename_i i cc
    split at h
    · simp only [Bool.and_eq_true] at h
      obtain ⟨⟨⟨⟨h1, h2⟩, h3⟩, h4⟩, h5⟩ := h
      exact xf i cc _ _ _ _ (c.ix h1) h2 h3 (of_decide_eq_true h4) (of_decide_eq_true h5)
    · cases h
theorem sndXs (hx : ∀ {t : E} {e : Expr}, ckX T N sc t e = true → L2.PE Y e (rE C' W (evE cf t))) : ∀ {es : Es} {l : List Expr}, ckXs T N sc es l = true → L2.PA Y l (rA C' W (evEs cf es)) := by
  intro es l
  induction l generalizing es with
  | nil =>
    intro h
    cases es with
    | nil => exact s_nil
    | cons _ _ => unfold ckXs at h; cases h
  | cons e l ih =>
    intro h
    cases es with
    | nil => unfold ckXs at h; cases h
    | cons t r =>
      unfold ckXs at h
      simp only [Bool.and_eq_true] at h
      exact s_cons (star_of h.1.1) (hx h.1.2) (ih h.2)
theorem sndXt (hx : ∀ {t : E} {e : Expr}, ckX T N sc t e = true → L2.PE Y e (rE C' W (evE cf t))) {t : E} {e : Expr} (h : ckXt T N sc t e = true) : L2.PE Y e (rE C' W (evE cf t)) := by
  unfold ckXt at h
  split at h
  · exact s_tup (sndXs hx h)
  · exact hx h
end
section
variable {X : L2.Cx} {W : L2.WX} {sc : Scope}
theorem xf_no (h0 : ∀ a c dx, ¬ C.EX a c dx) {Y : L2.Cx} {i c : Nat} {e : Expr} : L2.PE Y e (rE C W (evE cf (.xfld i c))) := ⟨fun pins s σ H Q I ⟨Z, ι, L, ρ, S, E, h⟩ => by
  exfalso
  simp only [evE] at h
  split at h
  · rename_i c' d1 e
    obtain ⟨v, ev, r⟩ := E.get _ _ e
    unfold RV at r
    obtain ⟨b, dx, y, _, q, _⟩ := r
    exact h0 _ _ _ q
  · exact h⟩
theorem sndU (c : CtxE C T cf N sc false X) (ex : Exs C T X) {s : Ss} {l : List Stmt} (h : ckU T N sc s l = true) (a : Addr) (oe : Obj) (pn : List (Addr × Obj)) : L2.PSs (X.suite a ((a, oe) :: pn)) l (rS C Wno (evSs cf s)) := by
  have hx : ∀ {t : E} {e : Expr}, ckX T N sc t e = true → L2.PE (X.suite a ((a, oe) :: pn)) e (rE C Wno (evE cf t)) := fun {t e} h => sndX (Y := X.suite a ((a, oe) :: pn)) c rfl rfl rfl c.gl (fun _ _ _ _ _ _ _ _ _ _ _ => xf_no ex.h0) h
  unfold ckU at h
  split at h
  · exact z_cons (z_ret (sndXt hx h)) z_nil
  · exact z_cons z_pass z_nil
  · exact z_cons z_cont z_nil
  · simp only [Bool.and_eq_true] at h
    obtain ⟨⟨⟨h1, h2⟩, h3⟩, h4⟩ := h
    obtain ⟨k1, k2⟩ := c.loc h2
    exact z_cons (z_set (X := X.suite a ((a, oe) :: pn)) c.ndX (c.ix h1) k1 k2 (swaps_of h3) (sndXt hx h4)) z_nil
  · cases h
theorem sndH (c : CtxE C T cf N sc false X) (ex : Exs C T X) : ∀ (hs : Hs) {hds : List ExceptHandler}, ckH T N sc hs hds = true → ∃ l, HR X C cf T.ex.length hs hds l
  | .nil, hds, h => by
    cases hds with
    | nil => exact ⟨[], .nil⟩
    | cons _ _ => unfold ckH at h; cases h
  | .cons n cc i s r, hds, h => by
    unfold ckH at h
    split at h
    · rename_i x p nm body pos hds
      simp only [Bool.and_eq_true] at h
      obtain ⟨⟨⟨⟨⟨⟨h1, h2⟩, h3⟩, h4⟩, h5⟩, h6⟩, h7⟩ := h
      obtain ⟨l, hl⟩ := sndH c ex r h6
      have en : n = T.ex.length := of_decide_eq_true h1
      have hc := of_decide_eq_true h2
      have hx := of_decide_eq_true h3
      subst en
      have nms : L2.Names X x (.ref (C.cls cc)) := ⟨c.glo h4, (nmB_ok h5).1, .inl (ex.rai cc x hx).mg⟩
      split at h7
      · split at h7
        · rename_i b bs
          exact ⟨_, .plain nms hc (fun a oe pn => sndU c ex h7 a oe pn) hl⟩
        · cases h7
      · rename_i j y
        simp only [Bool.and_eq_true] at h7
        obtain ⟨⟨k1, k2⟩, k3⟩ := h7
        split at k3
        · rename_i ce e rp
          refine ⟨_, .named nms hc (c.ix k1) (by show X.env.scope.names.lookup y = _; rw [c.scp]; exact locB_ok k2) (fun a oe cls d pn hz hf => ?_) hl⟩
          refine sndXt (fun {t e} h => sndX (Y := X.suite a ((a, oe) :: pn)) c rfl rfl rfl (fun x d hd => ?_) (fun i' c' x' f' p1 p2 q1 q2 q3 q4 q5 => ?_) h) k3
          · obtain ⟨u, v, m, r, rv⟩ := c.gl x d hd
            exact ⟨u, v, m, r, fun Z ι H => RV.cfg ex.h0 _ _ (rv Z ι H)⟩
          · obtain ⟨f1, f2, f3⟩ := ex.fl c' f' q4 q5
            exact s_xfld f2 f3 f1.symm hz hf q1 (c.vis q2) (nmB_ok q3).1 (nmB_ok q3).2
        · cases k3
      · cases h7
    · cases h
end
end
end EV
end

section
set_option autoImplicit false
namespace EV
open PySem PySem.Spec PyProof.Rows

section
variable {sc : Scope} {env : PySem.Env}
theorem blockF (hs : env.scope = sc) (hk : sc.kind = .function) : env.blockKind = .function := by
  unfold Env.blockKind
  rw [hs, hk]
  rfl
theorem locB_eq (hs : env.scope = sc) (x : Str) : (env.kindOf x == some .local) = locB sc x := by
  show (env.scope.names.lookup x == some .local) = _
  rw [hs]
  unfold locB
  cases sc.names.lookup x with
  | none => rfl
  | some k => cases k <;> rfl
theorem sw_eq (hs : env.scope = sc) (hk : sc.kind = .function) {elt : Expr} {gs : List Comprehension} {scope : Scope} {lp px : Pos} {x : Str} {l : Nat} :
    swapsWith (.ListComp elt gs scope lp) (some (.Name x px)) l env = pure (swB sc x px (.ListComp elt gs scope lp)) := by
  unfold swapsWith swB
  simp only [blockF hs hk, locB_eq hs, Expr.pos]
  simp
theorem swapped_consts {ts vs : List Expr} {k k2 : Nat} {p p2 : Pos} (h : vs.all (foldedForSure 8) = true) : swappedStores [.Tuple ts k p] (.Tuple vs k2 p2) env = pure none := by
  unfold swappedStores
  simp only [h, if_true]
  split
  · rfl
  · split
    · rfl
    · split
      · rfl
      · rfl
theorem swapped_cell (hs : env.scope = sc) {ts vs : List Expr} {k k2 : Nat} {p p2 : Pos} (h : ((locNms sc ts).length != ts.length) = true) : swappedStores [.Tuple ts k p] (.Tuple vs k2 p2) env = pure none := by
  unfold locNms at h
  unfold swappedStores
  simp only [locB_eq hs]
  split
  · rfl
  · split
    · rfl
    · refine if_pos ?_
      rw [Bool.or_eq_true]
      exact .inl h
theorem swap2 (hs : env.scope = sc) (hk : sc.kind = .function) {x y : Str} {px py pt pt2 : Pos} {a b : Expr} {kt k2 : Nat} (hx : locB sc x = true) (hy : locB sc y = true) (ly : (py.line == px.line) = true) (ne : x ≠ y) (ua : unstar a = true) (ub : unstar b = true)
    (hf : [a, b].all (foldedForSure 8) = false) (hc : [a, b].all (constantsAlone 8) = false) : swappedStores [.Tuple [.Name x px, .Name y py] kt pt] (.Tuple [a, b] k2 pt2) env = pure (some [x, y]) := by
  have lx : (px.line == px.line) = true := beq_self_eq_true _
  have nd : [x, y].eraseDups.length = 2 := by
    have : (y == x) = false := by simpa using Ne.symm ne
    simp [List.eraseDups_cons, this]
  unfold swappedStores
  simp only [blockF hs hk, hf, hc, List.any_cons, List.any_nil, List.head?_cons, Option.map_some, Option.getD_some, Expr.pos, List.filterMap_cons, List.filterMap_nil, locB_eq hs, hx, hy, lx, ly, Bool.and_true, if_true, List.length_cons, List.length_nil, nd]
  simp
  intro h
  rcases h with h | h
  · cases a <;> first | exact Bool.noConfusion (show false = true from h) | exact Bool.noConfusion (show false = true from ua)
  · cases b <;> first | exact Bool.noConfusion (show false = true from h) | exact Bool.noConfusion (show false = true from ub)
theorem swap3 (hs : env.scope = sc) (hk : sc.kind = .function) {x y z : Str} {px py pz pt pt2 : Pos} {a b c : Expr} {kt k2 : Nat} (hx : locB sc x = true) (hy : locB sc y = true) (hz : locB sc z = true) (ly : (py.line == px.line) = true) (lz : (pz.line == px.line) = true) (ne : x ≠ y) (ne2 : x ≠ z) (ne3 : y ≠ z)
    (ua : unstar a = true) (ub : unstar b = true) (uc : unstar c = true)
    (hf : [a, b, c].all (foldedForSure 8) = false) (hc : [a, b, c].all (constantsAlone 8) = false) : swappedStores [.Tuple [.Name x px, .Name y py, .Name z pz] kt pt] (.Tuple [a, b, c] k2 pt2) env = pure (some [x, y, z]) := by
  have lx : (px.line == px.line) = true := beq_self_eq_true _
  have nd : [x, y, z].eraseDups.length = 3 := by
    have h1 : (y == x) = false := by simpa using Ne.symm ne
    have h2 : (z == x) = false := by simpa using Ne.symm ne2
    have h3 : (z == y) = false := by simpa using Ne.symm ne3
    simp [List.eraseDups_cons, h1, h2, h3]
  unfold swappedStores
  simp only [blockF hs hk, hf, hc, List.any_cons, List.any_nil, List.head?_cons, Option.map_some, Option.getD_some, Expr.pos, List.filterMap_cons, List.filterMap_nil, locB_eq hs, hx, hy, hz, lx, ly, lz, Bool.and_true, if_true, List.length_cons, List.length_nil, nd]
  simp
  intro h
  rcases h with h | h | h
  · cases a <;> first | exact Bool.noConfusion (show false = true from h) | exact Bool.noConfusion (show false = true from ua)
  · cases b <;> first | exact Bool.noConfusion (show false = true from h) | exact Bool.noConfusion (show false = true from ub)
  · cases c <;> first | exact Bool.noConfusion (show false = true from h) | exact Bool.noConfusion (show false = true from uc)
theorem sole_sub {o i e : Expr} {p : Pos} {l : Nat} : swapsWithSole [.Subscript o i p] e l env = pure false := by cases e <;> rfl
theorem sole_tup {ts : List Expr} {k : Nat} {e : Expr} {p : Pos} {l : Nat} : swapsWithSole [.Tuple ts k p] e l env = pure false := by cases e <;> rfl
theorem stores_sub {o i e : Expr} {p : Pos} : swappedStores [.Subscript o i p] e env = pure none := by cases e <;> rfl
theorem asg_sub {o i : Expr} {p : Pos} (h : unslice i = true) : ∀ v, assign (.Subscript o i p) env v = (do
      let ov ← holding [v] (eval o env)
      let iv ← holding [v, ov] (eval i env)
      standAt p
      holding [v, ov, iv] (setItem ov iv v)
      release [v, ov, iv] []) := by
  intro v
  cases i <;> first | rfl | cases h
end
end EV
end

section
set_option autoImplicit false
namespace EV
open PySem PySem.Spec PyProof.Rows
section
variable {C : Cfg} {T : Tb} {cf : Nat → List D → M D} {N : List Str}
/-- name = [..] the other way -/
theorem sndLc {X : L2.Cx} {W : L2.WX} {sc : Scope} {i : Nat} {x : Str} {px pos : Pos} {e : Expr} {f : F} {t : L2.TE} (c : CtxE C T cf N sc false X) (ow : Own X W) (hi : X.N[i]? = some x) (h : ckF T N sc false f e = true) (hsw : swB sc x px e = true)
    (k : ∀ σ H Q, t σ H Q → rF C W (evF cf f) σ H Q) : L2.PS X (.Assign [.Name x px] e pos) (L2.tAsg t (L2.gName i)) := by
  have tk := Takes2.of ow.tk
  cases e <;> simp only [swB] at hsw <;> try cases hsw
  rename_i ee gs scope lp
  have hsw0 := hsw
  simp only [Bool.and_eq_true] at hsw
  cases f <;> simp only [ckF] at h <;> try cases h
  rename_i n elt tg it tt own
  split at h
  · rename_i tge ite ifs a
    simp only [Bool.and_eq_true] at h
    obtain ⟨⟨⟨⟨⟨⟨⟨⟨h0, h1⟩, h2⟩, h3⟩, h4⟩, h5⟩, h6⟩, h7⟩, h8⟩ := h
    have e0 : a = 0 := beq_iff_eq.mp h0
    have e1 : n = false := beq_iff_eq.mp h1
    subst e0 e1
    have ok0 : L2.BlkOk N sc scope (ownOf N own) := L2.blkOk_by h2
    have ok : L2.BlkOk X.N X.env.scope scope (ownOf N own) := by rw [c.nN, c.scp]; exact ok0
    have hown : ∀ i ∈ tgIx tg, i ∈ (ownOf N own).map (·.2) := by rw [ownOf_map]; exact subB_ok h3
    have hs : swapsWith (.ListComp ee [⟨tge, ite, ifs, 0⟩] scope lp) (some (.Name x px)) pos.line X.env = pure true := by
      rw [sw_eq c.scp c.kind]
      exact congrArg pure (show swB sc x px (.ListComp ee [⟨tge, ite, ifs, 0⟩] scope lp) = true from hsw0)
    refine f_setLc (celt := elt) (ctg := tg) (cit := it) (ct := tt) (own := ownOf N own) ow.stk ow.fr ow.tk c.calm c.ndX hi (by rw [c.scp]; exact locB_ok hsw.1.1) hs hown (sndI it c tk (fun _ => ow) h5) ok
      (fun s H C' cl fp xe => sndTg tg (c.blkc ok0 s H C' cl fp xe) h6) (fun s H C' cl fp xe W' tk' => sndT tt (c.blkc ok0 s H C' cl fp xe) tk' (fun z => nomatch z) h7)
      (fun s H C' cl fp xe W' tk' => (sndE elt (c.blkc ok0 s H C' cl fp xe) tk' (fun z => nomatch z) h8).1) (folded_of h4) (by rw [ownOf_map]; exact k)
  · cases h
theorem parNm_ix {X : L2.Cx} {sc : Scope} (c : CtxE C T cf N sc false X) {l i : Nat} {is : List Nat} {e : Expr} {r : List Expr} (h : parNm N sc l (i :: is) (e :: r) = true) : ∃ x p, e = .Name x p ∧ X.N[i]? = some x ∧ locB sc x = true ∧ (p.line == l) = true ∧ parNm N sc l is r = true := by
  unfold parNm at h
  split at h
  · rename_i z1 z2
    cases z1
  · rename_i i' is' x p r' z1 z2
    cases z1; cases z2
    simp only [Bool.and_eq_true] at h
    exact ⟨x, p, rfl, c.ix h.1.1.1, h.1.1.2, h.1.2, h.2⟩
  · cases h
theorem ne_of_ix {X : L2.Cx} (nd : X.N.Nodup) {i j : Nat} {x y : Str} (hi : X.N[i]? = some x) (hj : X.N[j]? = some y) (hij : i ≠ j) : x ≠ y := fun e => hij (L2.nodup_ix nd hi (e ▸ hj))
set_option maxHeartbeats 4000000 in
mutual
theorem sndS : ∀ (t : S) {X : L2.Cx} {W : L2.WX} {sc : Scope} {st : Stmt}, CtxE C T cf N sc false X → Exs C T X → Own X W → ckS T N sc t st = true → L2.PS X st (rS C W (evS cf t))
  | .set i t, X, W, sc, st, c, ex, ow, h => by
    have tk := Takes2.of ow.tk
    unfold ckS at h
    split at h
    · rename_i x px e pos
      simp only [Bool.and_eq_true] at h
      obtain ⟨⟨⟨h1, h2⟩, h3⟩, h4⟩ := h
      obtain ⟨k1, k2⟩ := c.loc h2
      have he := (sndE t c tk (fun _ => ow) h4).1
      cases hu : uncomp e with
      | true => exact z_set c.ndX (c.ix h1) k1 k2 (swaps_of hu) he
      | false =>
        rw [hu, Bool.false_or] at h3
        split at h3
        · rename_i ee gs scope lp
          cases hw : swB sc x px (.ListComp ee gs scope lp) with
          | false => exact z_set c.ndX (c.ix h1) k1 k2 (by rw [sw_eq c.scp c.kind, hw]) he
          | true =>
            cases t <;> simp only [ckE] at h4 <;> try cases h4
            · rename_i f
              exact ps_imp (sndLc c ow (c.ix h1) h4 hw fun σ H Q h => frz_of h) fun D σ H h => set_of h
            · rename_i f
              exact ps_imp (sndLc c ow (c.ix h1) h4 hw fun σ H Q h => mut_of h) fun D σ H h => set_of h
        · cases h3
    · cases h
  | .par is es, X, W, sc, st, c, ex, ow, h => by
    have tk := Takes2.of ow.tk
    unfold ckS at h
    split at h
    · rename_i ts kt pt vs k2 pt2 pos
      simp only [Bool.and_eq_true] at h
      obtain ⟨⟨⟨⟨⟨⟨⟨h1, h2⟩, h3⟩, h4⟩, h5⟩, h6⟩, h7⟩, h8⟩ := h
      have ha := sndEs es c tk (fun _ => ow) h8
      have hu := ckEs_un h8
      have nd : is.Nodup := of_decide_eq_true h5
      have l1 : ts.length = is.length := beq_iff_eq.mp h1
      have l2 : vs.length = is.length := beq_iff_eq.mp h2
      have hf := opB_dec h6
      have hc := opB_dec h7
      match is, ts, vs, l1, l2, h3 with
      | [i, j], [t1, t2], [a, b], _, _, _ =>
        obtain ⟨x, px, rfl, i1, lx, q1, h4⟩ := parNm_ix c h4
        obtain ⟨y, py, rfl, i2, ly, q2, _⟩ := parNm_ix c h4
        have hij : i ≠ j := by
          intro e; subst e; simp at nd
        simp only [List.all_cons, List.all_nil, Bool.and_true, Bool.and_eq_true] at hu
        exact z_par2 c.calm c.ndX i1 i2 hij (by rw [c.scp]; exact locB_ok lx) (by rw [c.scp]; exact locB_ok ly) ha (swap2 c.scp c.kind lx ly (by simpa [Expr.pos] using q2) (ne_of_ix c.ndX i1 i2 hij) hu.1 hu.2 hf hc)
      | [i, j, k], [t1, t2, t3], [a, b, d], _, _, _ =>
        obtain ⟨x, px, rfl, i1, lx, q1, h4⟩ := parNm_ix c h4
        obtain ⟨y, py, rfl, i2, ly, q2, h4⟩ := parNm_ix c h4
        obtain ⟨z, pz, rfl, i3, lz, q3, _⟩ := parNm_ix c h4
        have hij : i ≠ j := by
          intro e; subst e; simp at nd
        have hik : i ≠ k := by
          intro e; subst e; simp at nd
        have hjk : j ≠ k := by
          intro e; subst e; simp at nd
        simp only [List.all_cons, List.all_nil, Bool.and_true, Bool.and_eq_true] at hu
        exact z_par3 c.calm c.ndX i1 i2 i3 hij hik hjk (by rw [c.scp]; exact locB_ok lx) (by rw [c.scp]; exact locB_ok ly) (by rw [c.scp]; exact locB_ok lz) ha
          (swap3 c.scp c.kind lx ly lz (by simpa [Expr.pos] using q2) (by simpa [Expr.pos] using q3) (ne_of_ix c.ndX i1 i2 hij) (ne_of_ix c.ndX i1 i3 hik) (ne_of_ix c.ndX i2 i3 hjk) hu.1 hu.2.1 hu.2.2 hf hc)
      | [], _, _, _, _, h3 => cases h3
      | [_], _, _, _, _, h3 => cases h3
      | _ :: _ :: _ :: _ :: _, _, _, _, _, h3 => simp at h3
    · cases h
  | .asg t e, X, W, sc, st, c, ex, ow, h => by
    have tk := Takes2.of ow.tk
    unfold ckS at h
    split at h
    · rename_i ts k p v pos
      simp only [Bool.and_eq_true] at h
      obtain ⟨⟨⟨h1, h2⟩, h3⟩, h4⟩ := h
      have hw : swappedStores [.Tuple ts k p] v X.env = pure none := by
        cases hu : untup v with
        | true => exact swapped_of hu
        | false =>
          rw [hu, Bool.false_or] at h4
          split at h4
          · rw [Bool.or_eq_true] at h4
            rcases h4 with h4 | h4
            · exact swapped_consts h4
            · exact swapped_cell c.scp h4
          · cases h4
      exact z_asg (sndE e c tk (fun _ => ow) h3).1 (sndTg t c h1) sole_tup hw rfl
    · cases h
  | .setIx o i e, X, W, sc, st, c, ex, ow, h => by
    have tk := Takes2.of ow.tk
    unfold ckS at h
    split at h
    · simp only [Bool.and_eq_true] at h
      obtain ⟨⟨⟨h1, h2⟩, h3⟩, h4⟩ := h
      exact z_setIx (sndE o c tk (fun _ => ow) h2).1 (sndE i c tk (fun _ => ow) h3).1 (sndE e c tk (fun _ => ow) h4).1 (asg_sub h1) sole_sub stores_sub
    · cases h
  | .setK o i e, X, W, sc, st, c, ex, ow, h => by
    have tk := Takes2.of ow.tk
    unfold ckS at h
    split at h
    · simp only [Bool.and_eq_true] at h
      obtain ⟨⟨⟨h1, h2⟩, h3⟩, h4⟩ := h
      exact z_setK c.hu (sndE o c tk (fun _ => ow) h2).1 (sndE i c tk (fun _ => ow) h3).1 (sndE e c tk (fun _ => ow) h4).1 (asg_sub h1) sole_sub stores_sub
    · cases h
  | .aug i o e, X, W, sc, st, c, ex, ow, h => by
    have tk := Takes2.of ow.tk
    unfold ckS at h
    split at h
    · rename_i x px op v pos
      simp only [Bool.and_eq_true] at h
      obtain ⟨⟨⟨h1, h2⟩, h3⟩, h4⟩ := h
      obtain ⟨k1, k2⟩ := c.loc h2
      refine z_aug ?_ c.ndX (c.ix h1) k1 k2 (sndE e c tk (fun _ => ow) h3).1
      split at h4
      · exact .inl ⟨rfl, rfl⟩
      · exact .inr ⟨rfl, rfl⟩
      · cases h4
    · cases h
  | .ex e, X, W, sc, st, c, ex, ow, h => by
    have tk := Takes2.of ow.tk
    unfold ckS at h
    split at h
    · simp only [Bool.and_eq_true] at h
      exact z_ex (swaps_of h.1) (sndE e c tk (fun _ => ow) h.2).1
    · cases h
  | .ife t a b, X, W, sc, st, c, ex, ow, h => by
    have tk := Takes2.of ow.tk
    unfold ckS at h
    split at h
    · simp only [Bool.and_eq_true] at h
      obtain ⟨⟨⟨h1, h2⟩, h3⟩, h4⟩ := h
      exact z_ife ((sndE t c tk (fun _ => ow) h2).2 h1) (sndSs a c ex ow h3) (sndSs b c ex ow h4)
    · cases h
  | .for_ t it b, X, W, sc, st, c, ex, ow, h => by
    have tk := Takes2.of ow.tk
    unfold ckS at h
    split at h
    · simp only [Bool.and_eq_true] at h
      obtain ⟨⟨⟨h1, h2⟩, h3⟩, h4⟩ := h
      exact z_for ow.po c.calm (sndI it c tk (fun _ => ow) h3) (sndTg t c h2) (sndSs b c ex ow h4) (folded_of h1)
    · cases h
  | .while_ t b, X, W, sc, st, c, ex, ow, h => by
    have tk := Takes2.of ow.tk
    unfold ckS at h
    split at h
    · simp only [Bool.and_eq_true] at h
      obtain ⟨⟨h1, h2⟩, h3⟩ := h
      exact z_while ow.po ((sndE t c tk (fun _ => ow) h2).2 h1) (sndSs b c ex ow h3)
    · cases h
  | .ret e, X, W, sc, st, c, ex, ow, h => by
    have tk := Takes2.of ow.tk
    unfold ckS at h
    split at h
    · exact z_ret (sndE e c tk (fun _ => ow) h).1
    · cases h
  | .retN, X, W, sc, st, c, ex, ow, h => by
    unfold ckS at h
    split at h
    · exact z_retN
    · cases h
  | .raise cc e, X, W, sc, st, c, ex, ow, h => by
    have tk := Takes2.of ow.tk
    unfold ckS at h
    split at h
    · simp only [Bool.and_eq_true] at h
      obtain ⟨⟨⟨⟨h1, h2⟩, h3⟩, h4⟩, h5⟩ := h
      exact z_raise (ex.rai _ _ (of_decide_eq_true h1)) c.calm ow.tk (c.glo h2) (nmB_ok h3).1 (sndE e c tk (fun _ => ow) h5).1 (star_of h4)
    · cases h
  | .try_ b hs, X, W, sc, st, c, ex, ow, h => by
    unfold ckS at h
    split at h
    · simp only [Bool.and_eq_true] at h
      obtain ⟨l, hl⟩ := sndH c ex hs h.2
      exact z_try ow.stk ow.fr c.ndX ow.tk (fun W' pn xe tk' po => sndSs b (c.trc pn xe) (ex.trc pn xe) ⟨ow.stk, ow.fr, tk', po⟩ h.1) hl ex.h0 ex.hex
    · cases h
  | .pass, X, W, sc, st, c, ex, ow, h => by
    unfold ckS at h
    split at h
    · exact z_pass
    · cases h
  | .brk, X, W, sc, st, c, ex, ow, h => by
    unfold ckS at h
    split at h
    · exact z_brk
    · cases h
  | .cont, X, W, sc, st, c, ex, ow, h => by
    unfold ckS at h
    split at h
    · exact z_cont
    · cases h
theorem sndSs : ∀ (t : Ss) {X : L2.Cx} {W : L2.WX} {sc : Scope} {l : List Stmt}, CtxE C T cf N sc false X → Exs C T X → Own X W → ckSs T N sc t l = true → L2.PSs X l (rS C W (evSs cf t))
  | .nil, X, W, sc, l, c, ex, ow, h => by
    unfold ckSs at h
    cases l with
    | nil => exact z_nil
    | cons _ _ => cases h
  | .cons t r, X, W, sc, l, c, ex, ow, h => by
    unfold ckSs at h
    cases l with
    | nil => cases h
    | cons s ss =>
      simp only [Bool.and_eq_true] at h
      exact z_cons (sndS t c ex ow h.1) (sndSs r c ex ow h.2)
end
theorem sndB {t : Ss} {X : L2.Cx} {W : L2.WX} {sc : Scope} {l : List Stmt} (c : CtxE C T cf N sc false X) (ex : Exs C T X) (ow : Own X W) (h : ckB T N sc t l = true) : L2.PSs X l (rS C W (evSs cf t)) := by
  unfold ckB at h
  split at h
  · exact z_doc (sndSs t c ex ow h)
  · exact sndSs t c ex ow h
end
end EV
end

section
set_option autoImplicit false
/-! All defs of a text keep the evaluator's promise. -/
namespace EV
open PySem PySem.Spec PyProof.Rows

/-- a def of the text beside its core -/
structure DfOk (K : PySem.W.Frag) (T : Tb) (a : Addr) (F : Fd) (fd : FuncData) (ps : List Str) : Prop where
  ex : ∃ (N : List Str) (name qual : Str) (params : Arguments) (body : List Stmt) (scope : Scope), L2.FunD K name qual params body scope [] [] a fd ∧ L2.FnScope N ps scope ∧ F.nl = N.length ∧ F.np = ps.length ∧ ckB T N scope F.body body = true
  binds : L2.Binds K fd ps []
/-- what the head tells -/
structure World0 (P : Program) (w : World) (K : PySem.W.Frag) (mg : Str → Option Value) (base : Heap) (C : Cfg) (T : Tb) (fs : List Fd) : Prop where
  kk : K = C.K
  gl : ∀ x d, T.gl.lookup x = some d → ∃ u v, mg x = some u ∧ L2.RelV v u ∧ ∀ Z ι H, RV C Z ι H d v
  bl : ∀ x ∈ blts, mg x = none
  fn : ∀ f x, T.fn[f]? = some x → mg x = some (.ref (C.adr f)) ∧ PySem.W.keepIn K (.ref (C.adr f)) = true ∧ ∃ F fd ps, fs[f]? = some F ∧ DfOk K T (C.adr f) F fd ps
  h0 : ∀ a c dx, ¬ C.EX a c dx
  hex : ∀ c c', c < T.ex.length → c' < T.ex.length → PySem.W.exmOne K (.ref (C.cls c)) (.ref (C.cls c')) = some (decide (c = c'))
  fl : ∀ c f, T.fl[c]? = some f → c < T.ex.length → C.fld c = f ∧ L2.XfC K (C.cls c) ∧ PySem.W.findIn K (.ref (C.cls c)) f = some none
  rai : ∀ c x, T.ex[c]? = some x → mg x = some (.ref (C.cls c)) ∧ L2.OexC K (C.cls c) ∧ ∃ (fI : Addr) (fd : FuncData) (ps : List Str), PySem.W.findIn K (.ref (C.cls c)) "__init__" = some (some (.ref fI)) ∧ PySem.W.typeIn K (.ref fI) = some (.type "function") ∧
    L2.FnOk P w K mg base (L2.CX P w) 1 fI fd ps (spI (C.cls c) (C.fld c)) ∧ L2.Binds K fd ps []
section
variable {P : Program} {w : World} {K : PySem.W.Frag} {mg : Str → Option Value} {base : Heap} {C : Cfg} {T : Tb} {fs : List Fd}
theorem er_start {Z : Addr → Prop} {ι : List Addr} {H : L2.Hp} {ds : List D} {vs : List L2.V} {N : List Str} {nl : Nat} (h : nl = N.length) (r : RVs C Z ι H ds vs) : ER C Z ι H (startD nl ds) (L2.start N vs) := by
  have hl := r.length
  refine ⟨?_, fun i d e => ?_⟩
  · unfold startD L2.start
    simp only [List.length_append, List.length_map, List.length_replicate]
    rw [h, hl]
  · unfold startD at e
    by_cases hi : i < ds.length
    · rw [List.getElem?_append_left (by simpa using hi), List.getElem?_map] at e
      cases q : ds[i]? with
      | none => rw [q] at e; cases e
      | some d' =>
        rw [q] at e
        cases e
        obtain ⟨v, hv, rv⟩ := r.get q
        refine ⟨v, ?_, rv⟩
        unfold L2.start
        rw [List.getElem?_append_left (by simp; omega), List.getElem?_map, hv]
        rfl
    · rw [List.getElem?_append_right (by simpa using Nat.le_of_not_lt hi), List.getElem?_replicate] at e
      split at e <;> cases e
theorem all_ok (A : World0 P w K mg base C T fs) : ∀ (n f : Nat) (F : Fd) (fd : FuncData) (ps : List Str), fs[f]? = some F → DfOk K T (C.adr f) F fd ps → L2.FnOk P w K mg base (L2.CX P w) (n + 2) (C.adr f) fd ps (spF C (evFn fs n) f)
  | 0, f, F, fd, ps, hF, dd => ⟨fun vs H Q E ⟨Z, ι, L, ds, S, r, h⟩ => h.elim, fun _ _ _ _ _ _ _ _ _ _ _ _ _ ⟨Z, ι, L, ds, S, r, h⟩ => h.elim⟩
  | n + 1, f, F, fd, ps, hF, dd => by
    obtain ⟨N, name, qual, params, body, scope, FD, SC, hnl, hnp, hck⟩ := dd.ex
    refine FD.ok SC (fun vs H Q E h => ?_) (fun cdv A0 outer s H vs Q E hr h => ⟨rS C (fun cls d _ H' => E cls d H') (evSs (evFn fs n) F.body), ?_, ?_⟩)
    · obtain ⟨Z, ι, L, ds, S, r, h⟩ := h
      unfold evFn at h
      rw [hF] at h
      simp only at h
      by_cases hl : ds.length = F.np
      · rw [← r.length, hl, hnp]
      · rw [if_neg hl] at h
        exact h.elim
    · refine sndB (T := T) (N := N) (sc := scope) ?_ ?_ ?_ hck
      · exact { K := A.kk, calm := rfl, hu := by have := hr.un; show (A0.deeper _).units + 65 < cLine; omega, nN := rfl, nd := SC.nd, scp := rfl, kind := SC.kind, gl := A.gl, bl := A.bl, fnT := fun _ _ => rfl,
                fn := fun g x hg => by
                  obtain ⟨m, kp, G, fdg, psg, hG, dg⟩ := A.fn g x hg
                  exact ⟨m, ⟨⟨n + 2, fdg, psg, all_ok A n g G fdg psg hG dg, hr, dg.binds⟩, kp⟩⟩ }
      · exact { h0 := A.h0, hex := A.hex, fl := A.fl, rai := fun c x hx => by
                  obtain ⟨m, ox, fI, fdi, psi, h1, h2, h3, h4⟩ := A.rai c x hx
                  exact ⟨m, ox, ⟨1, fI, fdi, psi, h1, h2, h3, hr.mono (by omega), h4⟩⟩ }
      · exact ⟨rfl, rfl, L2.takes_of rfl rfl rfl rfl, L2.passes_of rfl⟩
    · obtain ⟨Z, ι, L, ds, S, r, h⟩ := h
      refine ⟨Z, ι, L, startD F.nl ds, S, er_start hnl r, ?_⟩
      unfold evFn at h
      rw [hF] at h
      simp only at h
      by_cases hl : ds.length = F.np
      · rw [if_pos hl] at h
        cases q : evSs (evFn fs n) F.body (startD F.nl ds) L with
        | bad => rw [q] at h; exact h.elim
        | brk _ _ => rw [q] at h; exact h.elim
        | cont _ _ => rw [q] at h; exact h.elim
        | next ρ L1 =>
          rw [q] at h
          exact fun σ' ι' H' x s _ => h _ ι' H' x s rv_non
        | ret d L1 =>
          rw [q] at h
          exact fun v ι' H' x s rv => h v ι' H' x s rv
        | exc c d ρ L1 =>
          rw [q] at h
          exact fun v σ' ι' H' dx x s _ rv hd => h v ι' H' dx x s rv hd
      · rw [if_neg hl] at h
        exact h.elim
end
end EV
end

section
set_option autoImplicit false
/-! From what the head tells of the text to what the evaluator needs. -/
namespace EV
open PySem PySem.Spec PyProof.Rows

/-! ### the Hook: facts of the written part, lists left out -/
def isL (o : Obj) : Bool := match o.cls with
  | .type c => c == "list"
  | _ => false
def frL (g : Addr → Option Obj) (as : List Addr) : PySem.W.Frag := (He.frG g as).filter fun q => !isL q.2
theorem lookup_memF {a : Addr} {o : Obj} : ∀ {l : List (Addr × Obj)}, l.lookup a = some o → (a, o) ∈ l
  | [], h => by cases h
  | (b, u) :: r, h => by
    have h2 : (match a == b with | true => some u | false => r.lookup a) = some o := h
    cases q : (a == b) with
    | true =>
      rw [q] at h2
      have e : u = o := Option.some.inj h2
      rw [beq_iff_eq.mp q, e]
      exact List.mem_cons_self
    | false =>
      rw [q] at h2
      exact List.mem_cons_of_mem _ (lookup_memF h2)
theorem frL_mem {g : Addr → Option Obj} {as : List Addr} {a : Addr} {o : Obj} (h : (frL g as).lookup a = some o) : g a = some o ∧ isL o = false := by
  obtain ⟨h1, h2⟩ := List.mem_filter.mp (lookup_memF h)
  refine ⟨?_, by simpa using h2⟩
  unfold He.frG at h1
  obtain ⟨b, _, e⟩ := List.mem_filterMap.mp h1
  cases hb : g b with
  | none => rw [hb] at e; cases e
  | some u =>
    rw [hb] at e
    have e2 : (b, u) = (a, o) := Option.some.inj e
    injection e2 with e3 e4
    rw [← e3, ← e4]
    exact hb
theorem frL_in {as : List Addr} {h : Heap} : (frL h.get? as).In h := fun _ _ e => (frL_mem e).1
structure SaysL (fa : List He.Fa) (fn : List He.DefD) (ex : PySem.W.Frag → Bool) (K : PySem.W.Frag) : Prop where
  d : He.SaysD fa fn K
  more : ex K = true
  nol : ∀ a o, K.lookup a = some o → o.cls ≠ .type "list"
abbrev AlL : Type := He.AlD × Bool
def obsL (n : Nat) (fa : List He.Fa) (fn : List He.DefD) (ex : PySem.W.Frag → Bool) (g : Addr → Option Obj) : AlL := (He.obsD fa fn (frL g (He.asD g n ++ [PySem.cStatics])), ex (frL g (He.asD g n ++ [PySem.cStatics])))
def hookL (n : Nat) (fa : List He.Fa) (fn : List He.DefD) (ex : PySem.W.Frag → Bool) : PySem.W.Hook where
  α := AlL
  obs := fun s => obsL n fa fn ex s.heap.get?
  val := fun _ => (He.valD fn, true)
  says := fun _ h => ∃ K : PySem.W.Frag, K.In h ∧ SaysL fa fn ex K
  of := fun _ h e => ⟨_, frL_in, ⟨congrArg (fun z : AlL => z.1) e, congrArg (fun z : AlL => z.2) e, fun a o q => by
    have := (frL_mem q).2
    intro z
    unfold isL at this
    rw [z] at this
    cases this⟩⟩
  keeps := fun _ _ _ ⟨K, hK, c⟩ k => ⟨K, PySem.W.Frag.In.keeps hK k, c⟩
theorem obsL_eq {n : Nat} {fa : List He.Fa} {fn : List He.DefD} {ex : PySem.W.Frag → Bool} {g : Addr → Option Obj} {s : Shared} (h : ∀ a, g a = s.heap.get? a) : obsL n fa fn ex g = (hookL n fa fn ex).obs s := by
  have e : g = s.heap.get? := funext h
  rw [e] <;> rfl

/-! ### exceptions -/
def oexB (K : PySem.W.Frag) (C : Addr) : Bool := (match K.lookup C with
  | some ⟨.type "type", _, .cls cd, sl⟩ => (match cd.mro, sl.toList with
    | .ref C' :: bm, [_, _, _, _, some (.builtin n), _] => C' == C && n == "ValueError.__new__" && !cd.hasDel && cd.hasDict && PySem.HandSPX.refsVE bm
    | _, _ => false)
  | _ => false) && (He.eqO (PySem.W.findIn K (.ref C) "__setattr__") (some (some (.builtin "object.__setattr__"))) && (decide (PySem.W.subIn K (.ref C) (.type "BaseException") = some true) && (decide (PySem.W.typeIn K (.ref C) = some (.type "type")) && PySem.W.keepIn K (.ref C))))
theorem oexB_ok {K : PySem.W.Frag} {C : Addr} (h : oexB K C = true) : L2.OexC K C := by
  unfold oexB at h
  obtain ⟨q, h2⟩ := He.ba h
  obtain ⟨h3, h4⟩ := He.ba h2
  obtain ⟨h5, h6⟩ := He.ba h4
  obtain ⟨h7, h8⟩ := He.ba h6
  refine ⟨?_, He.eqO_ok h3, of_decide_eq_true h5, of_decide_eq_true h7, h8⟩
  split at q
  · rename_i dd cd sl ho
    split at q
    · rename_i C' bm k0 k1 k2 k3 n k5 hm hs
      simp only [Bool.and_eq_true, beq_iff_eq, Bool.not_eq_true'] at q
      obtain ⟨⟨⟨⟨rfl, rfl⟩, hdel⟩, hdi⟩, hv⟩ := q
      obtain ⟨nm, bs, mro, ns, qn, hd, sn, sub, ab, col, del⟩ := cd
      dsimp only at hm hdel hdi
      subst hm hdel hdi
      have hsl : sl = #[k0, k1, k2, k3, some (.builtin "ValueError.__new__"), k5] := by
        obtain ⟨l⟩ := sl
        simp only at hs
        rw [hs]
      subst hsl
      exact ⟨nm, qn, ns, bs, bm, sn, sub, ab, col, dd, k0, k1, k2, k3, k5, ho, hv⟩
    · cases q
  · cases q
def eqC (a b : Option PySem.W.CFound) : Bool := match a, b with
  | some (.val u), some (.val v) => u == v
  | _, _ => false
def ownBB (K : PySem.W.Frag) (B : Addr) : Bool := PySem.W.readsIn K B (.type "type") && (eqC (PySem.W.findCls K (.ref B) (.type "type") "__init__") (some (.val (.builtin "ValueError.__init__"))) && He.eqO (PySem.W.specialIn K (.ref B) "__getattribute__") (some (some (.builtin "type.__getattribute__"))))
theorem ownBB_ok {K : PySem.W.Frag} {B : Addr} (h : ownBB K B = true) : OwnB K B := by
  unfold ownBB at h
  obtain ⟨h1, h2⟩ := He.ba h
  obtain ⟨h3, h4⟩ := He.ba h2
  refine ⟨h1, ?_, He.eqO_ok h4⟩
  unfold eqC at h3
  split at h3
  · rename_i u v e1 e2
    cases e2
    rw [e1, beq_iff_eq.mp h3]
  · cases h3

/-! ### constants of the module -/
def dvOf : D → He.Dv
  | .str x => .str (SX.S x)
  | .int i => .int i
  | .bl b => .bl b
  | _ => .non
def flatD : D → Bool
  | .str x => x.all (· < 128)
  | .int _ => true
  | .bl _ => true
  | .non => true
  | _ => false
def glB : D → Bool
  | .str x => x.all (· < 128)
  | .int _ => true
  | .ktup ds => ds.all flatD
  | _ => false
def glF (p : Str × D) : He.Fa := match p.2 with
  | .str x => .str p.1 (SX.S x)
  | .int i => .int p.1 i
  | _ => .glo p.1
def glX (K : PySem.W.Frag) (p : Str × D) : Bool := match p.2 with
  | .ktup ds => He.tupB K p.1 (ds.map dvOf)
  | _ => true
theorem rvs_dv {K : PySem.W.Frag} {C : Cfg} {Z : Addr → Prop} {ι : List Addr} {H : L2.Hp} : ∀ {ds : List D}, ds.all flatD = true → RVs C Z ι H ds ((ds.map dvOf).map (He.Dv.v K))
  | [], _ => .nil
  | d :: ds, h => by
    rw [List.all_cons, Bool.and_eq_true] at h
    refine .cons ?_ (rvs_dv h.2)
    cases d <;> simp only [flatD] at h <;> first | exact rv_non | exact rv_bl | exact rv_int | exact rv_str (asc_of h.1) | cases h.1
theorem gl_ok {K : PySem.W.Frag} {h : Heap} {mg : Str → Option Value} {C : Cfg} (X : K.In h) (G : h.Ns mainGlobals mg) (hK : C.K = K) {p : Str × D} (b : glB p.2 = true) (f : (glF p).ok K = true) (x : glX K p = true) :
    ∃ u v, mg p.1 = some u ∧ L2.RelV v u ∧ ∀ Z ι H, RV C Z ι H p.2 v := by
  subst hK
  obtain ⟨x0, d⟩ := p
  cases d <;> simp only [glB] at b <;> try cases b
  · rename_i i
    obtain ⟨t, e⟩ := He.int_ok X G f
    exact ⟨_, .int i, e, ⟨t, rfl⟩, fun _ _ _ => rv_int⟩
  · rename_i i
    obtain ⟨t, e⟩ := He.str_ok X G f
    exact ⟨_, .str (SX.S i), e, ⟨t, rfl⟩, fun _ _ _ => rv_str (asc_of b)⟩
  · refine ⟨_, .ref (He.ga C.K x0), He.glo_ok X G f, rfl, fun Z ι H => ?_⟩
    unfold RV
    refine ⟨_, _, rfl, ?_, rvs_dv (K := C.K) b⟩
    have q := He.tupB_ok x (fun _ => none)
    rcases q with q | q
    · rcases q with q | ⟨_, q⟩ <;> cases q
    · exact q

/-! ### binding: every parameter is given -/
theorem lookup_zip : ∀ {ps : List Str} {us : List Value}, us.length = ps.length → ∀ n ∈ ps, ((ps.zip us).lookup n).isNone = false
  | [], _, _, n, h => by cases h
  | p :: ps, [], h, _, _ => by simp at h
  | p :: ps, u :: us, h, n, hn => by
    rw [List.zip_cons_cons, List.lookup_cons]
    cases e : (n == p) with
    | true => rfl
    | false =>
      simp only
      refine lookup_zip (by simpa using h) n ?_
      rcases List.mem_cons.mp hn with z | z
      · subst z; simp at e
      · exact z
theorem filter_zip {ps : List Str} {us : List Value} (h : us.length = ps.length) : ∀ {qs : List Str}, (∀ q ∈ qs, q ∈ ps) → (qs.filter fun n => ((ps.zip us).lookup n).isNone) = []
  | [], _ => rfl
  | q :: qs, hq => by
    rw [List.filter_cons, if_neg (by rw [lookup_zip h q (hq q List.mem_cons_self)]; decide)]
    exact filter_zip h fun r hr => hq r (List.mem_cons_of_mem _ hr)
theorem fm_zip : ∀ {ps : List Str} {us : List Value}, us.length = ps.length → ps.Nodup → (ps.filterMap fun n => ((ps.zip us).lookup n).map (n, ·)) = ps.zip us := by
  intro ps us hl nd
  have key : ∀ (qs : List Str) (ws : List Value) (pre : List (Str × Value)), ws.length = qs.length → qs.Nodup → (∀ q ∈ qs, pre.lookup q = none) → (qs.filterMap fun n => ((pre ++ qs.zip ws).lookup n).map (n, ·)) = qs.zip ws := by
    intro qs
    induction qs with
    | nil => intro ws pre _ _ _; rfl
    | cons q qs ih =>
      intro ws pre h nd hp
      cases ws with
      | nil => simp at h
      | cons w ws =>
        have nd' := List.nodup_cons.mp nd
        have e1 : (pre ++ (q :: qs).zip (w :: ws)).lookup q = some w := by
          have : pre.lookup q = none := hp q List.mem_cons_self
          rw [List.lookup_append, this]
          simp
        rw [List.filterMap_cons, e1]
        simp only [Option.map_some]
        rw [List.zip_cons_cons]
        congr 1
        have := ih ws (pre ++ [(q, w)]) (by simpa using h) nd'.2 fun r hr => by
          rw [List.lookup_append, hp r (List.mem_cons_of_mem _ hr)]
          have : (r == q) = false := by
            have : r ≠ q := fun e => nd'.1 (e ▸ hr)
            simpa using this
          simp [List.lookup_cons, this]
        rw [List.append_assoc] at this
        exact this
  exact key ps us [] hl nd (fun q _ => rfl)
theorem bind_plain {x qual : Str} {as : List Arg} {body : List Stmt} {scope : Scope} {kV doc pm : Value} {an : Option Addr} {cdv ct : Value} {us : List Value} (nd : (as.map (·.arg)).Nodup) (hl : us.length = (as.map (·.arg)).length) :
    bindArgs (PySem.W.fnOf x qual ⟨[], as, none, [], [], none, []⟩ body scope .none kV doc pm an cdv ct) ⟨us, []⟩ = pure ((as.map (·.arg)).zip us) := by
  have h1 : ¬ (us.length > (as.map (·.arg)).length) := by omega
  have hs : seqItems? Value.none = pure none := rfl
  have h2 := filter_zip hl (qs := (as.map (·.arg)).take (as.map (·.arg)).length) fun q hq => List.mem_of_mem_take hq
  have h3 := fm_zip hl nd
  unfold bindArgs
  simp only [PySem.W.fnOf, List.map_nil, List.nil_append, List.append_nil, hs, pure_bind, Option.getD_none, List.length_nil, Nat.sub_zero, List.drop_nil, List.drop_length, h1, false_and, if_false, h2]
  simp
  rw [if_neg (by rw [h2]; decide), ← List.filterMap_map, h3]
end EV
end

section
set_option autoImplicit false
namespace EV
open PySem PySem.Spec PyProof.Rows

/-- a def of the text: its name, its statement, its names by slot, its core -/
structure DfD where
  x : Str
  st : Stmt
  N : List Str
  F : Fd
/-- an exception's class: its name, its base's, its field, its __init__ -/
structure XcD where
  cls : Str
  base : Str
  fld : Str
  st : Stmt
structure Dat where
  ds : List DfD
  gl : List (Str × D)
  xs : List XcD
def Dat.T (d : Dat) : Tb := ⟨d.ds.map (·.x), d.gl, d.xs.map (·.cls), d.xs.map (·.fld)⟩
def Dat.fs (d : Dat) : List Fd := d.ds.map (·.F)
def DfD.def_ (d : DfD) : He.DefD := ⟨(d.x, none), d.x, d.x, L2.defArgs d.st, L2.defBody d.st, L2.defScope d.st, [], []⟩
def XcD.def_ (d : XcD) : He.DefD := ⟨(d.cls, some "__init__"), "__init__", d.cls ++ ("." : Str) ++ ("__init__" : Str), L2.defArgs d.st, L2.defBody d.st, L2.defScope d.st, [.non], []⟩
def Dat.fn (d : Dat) : List He.DefD := d.ds.map DfD.def_ ++ d.xs.map XcD.def_
def Dat.fa (d : Dat) : List He.Fa := d.ds.map (fun z => .glo z.x) ++ blts.map .free ++ d.gl.map glF ++ d.xs.map (fun z => .glo z.cls) ++ d.xs.map (fun z => .glo z.base)
def xcB (K : PySem.W.Frag) (d : XcD) : Bool := oexB K (He.ga K d.cls) && (ownBB K (He.ga K d.base) && (He.eqO (PySem.W.findIn K (.ref (He.ga K d.cls)) "__init__") (some (some (.ref (He.ma K (He.ga K d.cls) "__init__")))) &&
  (decide (PySem.W.typeIn K (.ref (He.ma K (He.ga K d.cls) "__init__")) = some (.type "function")) && (He.eqO (PySem.W.findIn K (.ref (He.ga K d.cls)) d.fld) (some none) && L2.xfB K (He.ga K d.cls)))))
def Dat.ex (d : Dat) (K : PySem.W.Frag) : Bool := d.gl.all (glX K) && (d.xs.all (xcB K) && d.xs.all fun x => d.xs.all fun y => decide (PySem.W.exmOne K (.ref (He.ga K x.cls)) (.ref (He.ga K y.cls)) = some (decide (x.cls = y.cls))))
def Dat.cfg (d : Dat) (K : PySem.W.Frag) : Cfg := ⟨K, fun f => He.ga K ((d.ds.map (·.x)).getD f default), fun c => He.ga K ((d.xs.map (·.cls)).getD c default), fun c => (d.xs.map (·.fld)).getD c default, fun _ _ _ => False⟩

/-! ### what is seen of the text alone -/
def scB (N ps : List Str) (sc : Scope) : Bool := decide (sc.kind = .function) && !sc.isCoroutine && !sc.isGenerator && decide N.Nodup && decide (N.take ps.length = ps) && ps.all (fun x => decide (sc.names.lookup x = some .local) || decide (sc.names.lookup x = some .cell)) && sc.names.all fun y => decide (y.2 ≠ .free)
theorem scB_ok {N ps : List Str} {sc : Scope} (h : scB N ps sc = true) : L2.FnScope N ps sc := by
  unfold scB at h
  simp only [Bool.and_eq_true, List.all_eq_true, decide_eq_true_eq, Bool.or_eq_true, Bool.not_eq_true'] at h
  obtain ⟨⟨⟨⟨⟨⟨h1, h2⟩, h3⟩, h4⟩, h5⟩, h6⟩, h7⟩ := h
  exact ⟨h1, h2, h3, h4, h5, h6, h7⟩
def plainA (a : Arguments) : Bool := a.posonlyargs.isEmpty && a.vararg.isNone && a.kwonlyargs.isEmpty && a.kw_defaults.isEmpty && a.kwarg.isNone && a.defaults.isEmpty
theorem plainA_ok {a : Arguments} (h : plainA a = true) : a = ⟨[], a.args, none, [], [], none, []⟩ := by
  obtain ⟨a1, a2, a3, a4, a5, a6, a7⟩ := a
  unfold plainA at h
  simp only [Bool.and_eq_true, List.isEmpty_iff, Option.isNone_iff_eq_none] at h
  obtain ⟨⟨⟨⟨⟨h1, h2⟩, h3⟩, h4⟩, h5⟩, h6⟩ := h
  subst h1 h2 h3 h4 h5 h6
  rfl
def dfB (T : Tb) (d : DfD) : Bool := plainA (L2.defArgs d.st) && scB d.N ((L2.defArgs d.st).args.map (·.arg)) (L2.defScope d.st) && decide (((L2.defArgs d.st).args.map (·.arg)).Nodup) && (d.F.nl == d.N.length) && (d.F.np == ((L2.defArgs d.st).args.map (·.arg)).length) && ckB T d.N (L2.defScope d.st) d.F.body (L2.defBody d.st)
theorem df_ok {K : PySem.W.Frag} {T : Tb} {d : DfD} (h : dfB T d = true) {a : Addr} {fd : FuncData} (F : L2.FunD K d.x d.x (L2.defArgs d.st) (L2.defBody d.st) (L2.defScope d.st) [] [] a fd) : DfOk K T a d.F fd ((L2.defArgs d.st).args.map (·.arg)) := by
  unfold dfB at h
  simp only [Bool.and_eq_true] at h
  obtain ⟨⟨⟨⟨⟨h1, h2⟩, h3⟩, h4⟩, h5⟩, h6⟩ := h
  refine ⟨⟨d.N, d.x, d.x, _, _, _, F, scB_ok h2, beq_iff_eq.mp h4, beq_iff_eq.mp h5, h6⟩, ?_⟩
  refine F.bindsN fun kV doc pm an cdv ct us hl => ?_
  have e := plainA_ok h1
  have := bind_plain (x := d.x) (qual := d.x) (as := (L2.defArgs d.st).args) (body := L2.defBody d.st) (scope := L2.defScope d.st) (kV := kV) (doc := doc) (pm := pm) (an := an) (cdv := cdv) (ct := ct) (us := us) (of_decide_eq_true h3) hl
  rw [← e] at this
  exact this
theorem bind_two {x qual : Str} {a1 a2 : Arg} {dfl : List Expr} {body : List Stmt} {scope : Scope} {T : Addr} {kV doc pm : Value} {an : Option Addr} {cdv ct u1 u2 i : Value} (ne : a1.arg ≠ a2.arg) :
    ∃ k, bindArgs (PySem.W.fnOf x qual ⟨[], [a1, a2], none, [], [], none, dfl⟩ body scope (.ref T) kV doc pm an cdv ct) ⟨[u1, u2], []⟩ = seqItems? (.ref T) >>= k ∧ k (some #[i]) = pure [(a1.arg, u1), (a2.arg, u2)] := by
  refine ⟨_, rfl, ?_⟩
  have e : (a2.arg == a1.arg) = false := by simpa using Ne.symm ne
  simp [List.lookup, e]
/-- an __init__ of the known form -/
def inB (d : XcD) : Bool := match d.st with
  | .FunctionDef _ ⟨[], [s, v], none, [], [], none, [_]⟩ [.Expr (.Call (.Attribute (.Name b _) m p2) [.Name s1 _, .Constant (.str _) _ _] [] p5) _, .Assign [.Attribute (.Name s2 _) g _] (.Name v1 _) _] _ _ _ sc _ _ _ =>
    decide (b = d.base) && decide (m = ("__init__" : Str)) && decide (s1 = s.arg) && decide (s2 = s.arg) && decide (v1 = v.arg) && decide (g = d.fld) && (p2.endLine == p5.line) && decide (s.arg ≠ v.arg) && scB [s.arg, v.arg] [s.arg, v.arg] sc && gloB sc d.base && locB sc s.arg && locB sc v.arg && nmB d.base && nmB s.arg && nmB v.arg && (d.base != ("super" : Str))
  | _ => false
theorem in_ok {P : Program} {w : World} {K : PySem.W.Frag} {mg : Str → Option Value} {base : Heap} {d : XcD} (h : inB d = true) {C : Addr} {f : Addr} {fd : FuncData} {nm qual : Str} (F : L2.FunD K nm qual (L2.defArgs d.st) (L2.defBody d.st) (L2.defScope d.st) [.non] [] f fd)
    (T : OwnB K (He.ga K d.base)) (hm : mg d.base = some (.ref (He.ga K d.base))) (TC : L2.OexC K C) (hno : PySem.W.findIn K (.ref C) d.fld = some none) :
    ∃ ps, L2.FnOk P w K mg base (L2.CX P w) 1 f fd ps (spI C d.fld) ∧ L2.Binds K fd ps [] := by
  obtain ⟨cls, bs, fl, st⟩ := d
  unfold inB at h
  simp only at h F T hm hno
  split at h
  · rename_i _ nmx s v dflx b p1 m p2 s1 p3 msg j p4 p5 p6 s2 p7 g p8 v1 p9 p10 _ _ _ sc _ _ _
    simp only [Bool.and_eq_true, decide_eq_true_eq] at h
    obtain ⟨⟨⟨⟨⟨⟨⟨⟨⟨⟨⟨⟨⟨⟨⟨h1, h2⟩, h3⟩, h4⟩, h5⟩, h6⟩, h7⟩, h8⟩, h9⟩, h10⟩, h11⟩, h12⟩, h13⟩, h14⟩, h15⟩, h16⟩ := h
    subst h1 h2 h3 h4 h5 h6
    refine ⟨[s.arg, v.arg], ok_init h7 F (scB_ok h9) T hm TC hno (gloB_ok h10) (locB_ok h11) (locB_ok h12) ⟨(nmB_ok h13).1, h16, (nmB_ok h14).1, (nmB_ok h14).2, (nmB_ok h15).1, (nmB_ok h15).2⟩, ?_⟩
    obtain ⟨ds, r, b⟩ := F.binds1 (ps := [s.arg, v.arg]) 2 1 (by simp) rfl fun T kV doc pm an cdv ct us its hu hi => by
      match us, its, hu, hi with
      | [u1, u2], [i], _, _ => exact bind_two h8
    cases r
    exact b
  · cases h
def Dat.okB (d : Dat) : Bool := d.ds.all (dfB d.T) && (d.gl.all (fun p => glB p.2) && (d.xs.all inB && decide (d.xs.map (·.cls)).Nodup))
theorem lookup_memG {α : Type} {a : Str} {o : α} : ∀ {l : List (Str × α)}, l.lookup a = some o → (a, o) ∈ l
  | [], h => by cases h
  | (b, u) :: r, h => by
    rw [List.lookup_cons] at h
    cases q : (a == b) with
    | true =>
      rw [q] at h
      have e : u = o := Option.some.inj h
      rw [beq_iff_eq.mp q, e]
      exact List.mem_cons_self
    | false =>
      rw [q] at h
      exact List.mem_cons_of_mem _ (lookup_memG h)
theorem getD_of {α : Type} [Inhabited α] {l : List α} {i : Nat} {x : α} (h : l[i]? = some x) : l.getD i default = x := by
  rw [List.getD_eq_getElem?_getD, h]
  rfl
theorem world_of {P : Program} {w : World} {K : PySem.W.Frag} {h : Heap} {mg : Str → Option Value} {base : Heap} {d : Dat} (b : d.okB = true) (X : K.In h) (G : h.Ns mainGlobals mg) (S : SaysL d.fa d.fn d.ex K) : World0 P w K mg base (d.cfg K) d.T d.fs := by
  unfold Dat.okB at b
  obtain ⟨b1, b2⟩ := He.ba b
  obtain ⟨b3, b4⟩ := He.ba b2
  obtain ⟨b5, b6⟩ := He.ba b4
  have m := S.more
  unfold Dat.ex at m
  obtain ⟨m1, m2⟩ := He.ba m
  obtain ⟨m3, m4⟩ := He.ba m2
  have fact : ∀ {f : He.Fa}, f ∈ d.fa → f.ok K = true := fun {f} hf => by
    obtain ⟨i, hi, e⟩ := List.mem_iff_getElem.mp hf
    exact S.d.fact i (f := f) (by rw [List.getElem?_eq_getElem hi, e])
  have defs : ∀ {z : He.DefD}, z ∈ d.fn → ∃ fd, L2.FunD K z.name z.qual z.params z.body z.scope (z.dvs K) (z.kws K) (He.fAd K z.at_) fd := fun {z} hz => by
    obtain ⟨i, hi, e⟩ := List.mem_iff_getElem.mp hz
    exact S.d.def_ i (d := z) (by rw [List.getElem?_eq_getElem hi, e])
  have xat : ∀ {c : Nat} {x : Str}, d.T.ex[c]? = some x → ∃ z, d.xs[c]? = some z ∧ z.cls = x ∧ (d.cfg K).cls c = He.ga K z.cls ∧ (d.cfg K).fld c = z.fld := fun {c x} hx => by
    have hx' : (d.xs.map (·.cls))[c]? = some x := hx
    rw [List.getElem?_map] at hx'
    cases q : d.xs[c]? with
    | none => rw [q] at hx'; cases hx'
    | some z =>
      rw [q] at hx'
      have e : z.cls = x := Option.some.inj hx'
      refine ⟨z, rfl, e, ?_, ?_⟩
      · show He.ga K ((d.xs.map (·.cls)).getD c default) = _
        rw [getD_of (x := z.cls) (by rw [List.getElem?_map, q]; rfl)]
      · show (d.xs.map (·.fld)).getD c default = _
        rw [getD_of (x := z.fld) (by rw [List.getElem?_map, q]; rfl)]
  have xlt : ∀ {c : Nat}, c < d.T.ex.length → ∃ z, d.xs[c]? = some z ∧ (d.cfg K).cls c = He.ga K z.cls := fun {c} hc => by
    obtain ⟨z, q, _, e, _⟩ := xat (List.getElem?_eq_getElem hc)
    exact ⟨z, q, e⟩
  have xc : ∀ {z : XcD}, z ∈ d.xs → L2.OexC K (He.ga K z.cls) ∧ OwnB K (He.ga K z.base) ∧ PySem.W.findIn K (.ref (He.ga K z.cls)) "__init__" = some (some (.ref (He.ma K (He.ga K z.cls) "__init__"))) ∧
      PySem.W.typeIn K (.ref (He.ma K (He.ga K z.cls) "__init__")) = some (.type "function") ∧ PySem.W.findIn K (.ref (He.ga K z.cls)) z.fld = some none ∧ L2.XfC K (He.ga K z.cls) := fun {z} hz => by
    have := List.all_eq_true.mp m3 z hz
    unfold xcB at this
    obtain ⟨q1, q2⟩ := He.ba this
    obtain ⟨q3, q4⟩ := He.ba q2
    obtain ⟨q5, q6⟩ := He.ba q4
    obtain ⟨q7, q8⟩ := He.ba q6
    obtain ⟨q9, q10⟩ := He.ba q8
    exact ⟨oexB_ok q1, ownBB_ok q3, He.eqO_ok q5, of_decide_eq_true q7, He.eqO_ok q9, L2.xfB_ok q10⟩
  refine { kk := rfl, gl := fun x e hx => ?_, bl := fun x hx => ?_, fn := fun f x hf => ?_, h0 := fun _ _ _ z => z, hex := fun c c' hc hc' => ?_, fl := fun c f hf hc => ?_, rai := fun c x hx => ?_ }
  · have hm : (x, e) ∈ d.gl := EV.lookup_memG hx
    exact gl_ok (p := (x, e)) X G rfl (List.all_eq_true.mp b3 _ hm) (fact (by unfold Dat.fa; simp only [List.mem_append, List.mem_map]; exact .inl (.inl (.inr ⟨_, hm, rfl⟩)))) (List.all_eq_true.mp m1 _ hm)
  · exact He.free_ok X G (fact (by unfold Dat.fa; simp only [List.mem_append, List.mem_map]; exact .inl (.inl (.inl (.inr ⟨_, hx, rfl⟩)))))
  · have hf' : (d.ds.map (·.x))[f]? = some x := hf
    rw [List.getElem?_map] at hf'
    cases q : d.ds[f]? with
    | none => rw [q] at hf'; cases hf'
    | some z =>
      rw [q] at hf'
      have e : z.x = x := Option.some.inj hf'
      subst e
      have zm := List.mem_of_getElem? q
      have ea : (d.cfg K).adr f = He.ga K z.x := by
        show He.ga K ((d.ds.map (·.x)).getD f default) = _
        rw [getD_of (x := z.x) (by rw [List.getElem?_map, q]; rfl)]
      obtain ⟨fd, FD⟩ := defs (z := z.def_) (by unfold Dat.fn; exact List.mem_append_left _ (List.mem_map.mpr ⟨z, zm, rfl⟩))
      have FD' : L2.FunD K z.x z.x (L2.defArgs z.st) (L2.defBody z.st) (L2.defScope z.st) [] [] (He.ga K z.x) fd := FD
      rw [ea]
      refine ⟨He.glo_ok X G (fact (by unfold Dat.fa; simp only [List.mem_append, List.mem_map]; exact .inl (.inl (.inl (.inl ⟨_, zm, rfl⟩))))), FD'.kp, z.F, fd, _, ?_, df_ok (List.all_eq_true.mp b1 _ zm) FD'⟩
      unfold Dat.fs
      rw [List.getElem?_map, q]
      rfl
  · obtain ⟨z, q, e⟩ := xlt hc
    obtain ⟨z', q', e'⟩ := xlt hc'
    rw [e, e']
    have := List.all_eq_true.mp (List.all_eq_true.mp m4 z (List.mem_of_getElem? q)) z' (List.mem_of_getElem? q')
    rw [of_decide_eq_true this]
    congr 1
    have nd : (d.xs.map (·.cls)).Nodup := of_decide_eq_true b6
    have i1 : (d.xs.map (·.cls))[c]? = some z.cls := by rw [List.getElem?_map, q]; rfl
    have i2 : (d.xs.map (·.cls))[c']? = some z'.cls := by rw [List.getElem?_map, q']; rfl
    by_cases h : c = c'
    · subst h
      rw [i1] at i2
      simp [Option.some.inj i2]
    · have : z.cls ≠ z'.cls := fun e => h (L2.nodup_ix nd i1 (e ▸ i2))
      simp [h, this]
  · obtain ⟨z, q, _, e, e2⟩ := xat (List.getElem?_eq_getElem hc)
    have hf' : (d.xs.map (·.fld))[c]? = some f := hf
    rw [List.getElem?_map, q] at hf'
    have ef : z.fld = f := Option.some.inj hf'
    obtain ⟨x1, x2, x3, x4, x5, x6⟩ := xc (List.mem_of_getElem? q)
    rw [e, e2]
    exact ⟨ef, x6, by rw [← ef]; exact x5⟩
  · obtain ⟨z, q, ez, e, e2⟩ := xat hx
    subst ez
    have zm := List.mem_of_getElem? q
    obtain ⟨x1, x2, x3, x4, x5, x6⟩ := xc zm
    obtain ⟨fd, FD⟩ := defs (z := z.def_) (by unfold Dat.fn; exact List.mem_append_right _ (List.mem_map.mpr ⟨z, zm, rfl⟩))
    have FD' : L2.FunD K "__init__" (z.cls ++ ("." : Str) ++ ("__init__" : Str)) (L2.defArgs z.st) (L2.defBody z.st) (L2.defScope z.st) [.non] [] (He.ma K (He.ga K z.cls) "__init__") fd := FD
    obtain ⟨ps, F1, F2⟩ := in_ok (P := P) (w := w) (mg := mg) (base := base) (List.all_eq_true.mp b5 _ zm) FD' x2 (He.glo_ok X G (fact (by unfold Dat.fa; simp only [List.mem_append, List.mem_map]; exact .inr ⟨_, zm, rfl⟩))) x1 x5
    rw [e, e2]
    exact ⟨He.glo_ok X G (fact (by unfold Dat.fa; simp only [List.mem_append, List.mem_map]; exact .inl (.inr ⟨_, zm, rfl⟩))), x1, _, fd, ps, x3, x4, F1, F2⟩
end EV
end

section
set_option autoImplicit false
/-! The law's end: where the evaluator says True, the law holds. -/
namespace EV
open PySem PySem.Spec PyProof.Rows

theorem fn0_of {P : Program} {w : World} {K : PySem.W.Frag} {mg : Str → Option Value} {base : Heap} {k : Nat} {f : Addr} {fd : FuncData} {ps : List Str} {sp : L2.Sp} (F : L2.FnOk P w K mg base (L2.CX P w) k f fd ps sp) :
    L2.FnOk P w K mg base L2.CX0 k f fd ps (fun vs H Q _ => sp vs H Q (fun _ _ _ => False)) :=
  ⟨fun vs H Q E h => F.len vs H Q _ h, fun A outer s H args us vs Q E hr e0 hb hv h => codeAny_mono (F.run A outer s H args us vs Q (fun _ _ _ => False) hr e0 hb hv h) fun r s' hq => by
    cases r with
    | error e =>
      obtain ⟨_, _, _, _, _, _, _, _, _, _, _, _, z⟩ := hq
      exact z.elim
    | ok fl => cases fl <;> exact hq⟩
theorem end_of {l : PySem.W.OpenLaw} {q : Program} {loose : List Str} {XP : (Str → Option Value) → Heap → Prop} {dd : DefRec} {d : Dat} {n ix : Nat} {z : DfD} {x : Str} (hn : l.most = some 63) (hdf : dd.params.defaults = []) (b : d.okB = true)
    (hz : d.ds[ix]? = some z) (hzx : z.x = dd.name) (hps : (L2.defArgs z.st).args.map (·.arg) = [x]) (hr : L2.Room (n + 2) callerA)
    (pure : ∀ ns : List Int, ns.length ≤ 63 → ∃ L, evFn d.fs n ix [.lst (ns.map .int)] [] = .ok (.bl true) L) :
    PySem.W.WalkO q loose XP (fun _ h => ∃ K : PySem.W.Frag, K.In h ∧ SaysL d.fa d.fn d.ex K) l.row.toRowW dd [] (fun f vs => PySem.call f vs) := by
  refine L2.walk_ofE (l := l) (n := 63) (k := n + 2) (x := x) (CX := L2.CX0) hn (by decide) hdf hr (fun w mg fa h Y G hmg => ?_) (fun _ _ _ _ z => z)
  obtain ⟨K, KX, S⟩ := Y
  have A : ∀ base, World0 l.prog w K mg base (d.cfg K) d.T d.fs := fun base => world_of b KX G S
  have hfn : d.T.fn[ix]? = some z.x := by
    show (d.ds.map (·.x))[ix]? = _
    rw [List.getElem?_map, hz]
    rfl
  have hF : d.fs[ix]? = some z.F := by
    show (d.ds.map (·.F))[ix]? = _
    rw [List.getElem?_map, hz]
    rfl
  have zm := List.mem_of_getElem? hz
  have b1 : dfB d.T z = true := by
    unfold Dat.okB at b
    exact List.all_eq_true.mp (He.ba b).1 z zm
  have ea : (d.cfg K).adr ix = He.ga K z.x := by
    show He.ga K ((d.ds.map (·.x)).getD ix default) = _
    rw [getD_of (x := z.x) (by rw [List.getElem?_map, hz]; rfl)]
  obtain ⟨fd, FD⟩ : ∃ fd, L2.FunD K z.x z.x (L2.defArgs z.st) (L2.defBody z.st) (L2.defScope z.st) [] [] (He.ga K z.x) fd := by
    have hm : z.def_ ∈ d.fn := by unfold Dat.fn; exact List.mem_append_left _ (List.mem_map.mpr ⟨z, zm, rfl⟩)
    obtain ⟨i, hi, e⟩ := List.mem_iff_getElem.mp hm
    exact S.d.def_ i (d := z.def_) (by rw [List.getElem?_eq_getElem hi, e])
  have gm : mg z.x = some (.ref (He.ga K z.x)) := by
    have := ((A h).fn ix z.x hfn).1
    rw [ea] at this
    exact this
  have efa : fa = He.ga K z.x := by
    rw [hzx, hmg] at gm
    rw [hzx]
    exact Value.ref.inj (Option.some.inj gm)
  subst efa
  have dk := df_ok (K := K) b1 FD
  rw [hps] at dk
  refine ⟨K, fd, fun vs H Q _ => spF (d.cfg K) (evFn d.fs n) ix vs H Q (fun _ _ _ => False), KX, fun s u => ?_, fun H a ns hl hO hS => ?_, fun base hK hG => ?_⟩
  · have b1' := b1
    unfold dfB at b1'
    simp only [Bool.and_eq_true] at b1'
    obtain ⟨⟨⟨⟨⟨h1, h2⟩, h3⟩, h4⟩, h5⟩, h6⟩ := b1'
    have := FD.bindsA (ps := [x]) (fun kV doc pm an cdv ct us hl => by
      have := bind_plain (x := z.x) (qual := z.x) (as := (L2.defArgs z.st).args) (body := L2.defBody z.st) (scope := L2.defScope z.st) (kV := kV) (doc := doc) (pm := pm) (an := an) (cdv := cdv) (ct := ct) (us := us) (of_decide_eq_true h3) (by rw [hps]; exact hl)
      rw [hps, ← plainA_ok h1] at this
      exact this) s [u] rfl
    exact this
  · obtain ⟨L, e⟩ := pure ns hl
    have rd : L2.Rd H a (.lst (ns.map L2.V.int)) := by
      rcases hS with hS | ⟨o, its, m, h1, h2, _⟩
      · exact hS
      · exact absurd h2 (S.nol _ _ h1)
    have rints : ∀ (ns : List Int) {Z : Addr → Prop}, RVs (d.cfg K) Z [] H (ns.map D.int) (ns.map L2.V.int) := fun ns {Z} => by
      induction ns with
      | nil => exact .nil
      | cons i r ih => exact .cons rv_int ih
    refine ⟨fun _ => False, [], [], [.lst (ns.map .int)], ⟨rfl, List.nodup_nil, fun k o e => by simp at e, fun _ z => z.elim⟩, .cons ?_ .nil, ?_⟩
    · unfold RV
      exact ⟨a, _, rfl, rd, fun z => z, by simp, rints ns⟩
    · rw [e]
      exact fun v ι' H' _ _ r => rv_unBl r
  · have A0 : World0 l.prog w K mg base (d.cfg K) d.T d.fs := world_of b KX G S
    have := all_ok A0 n ix z.F fd [x] hF (by rw [ea]; exact dk)
    rw [ea] at this
    exact fn0_of this
end EV
end

section
set_option autoImplicit false
/-! Lemmas for the pure side: loops, comprehensions, calls of the evaluator. -/
namespace EV
open PySem

@[simp] theorem bind_ok {α β : Type} {a : α} {L : Store} {f : α → M β} : (R.ok a L).bind f = f a L := rfl
@[simp] theorem bind_exc {α β : Type} {c : Nat} {d : D} {L : Store} {f : α → M β} : (R.exc c d L : R α).bind f = .exc c d L := rfl
@[simp] theorem bind_bad {α β : Type} {f : α → M β} : (R.bad : R α).bind f = .bad := rfl
@[simp] theorem then_ok {α : Type} {a : α} {L : Store} {ρ : Env} {f : α → Store → SR} : (R.ok a L).then ρ f = f a L := rfl
@[simp] theorem then_exc {α : Type} {c : Nat} {d : D} {L : Store} {ρ : Env} {f : α → Store → SR} : (R.exc c d L : R α).then ρ f = .exc c d ρ L := rfl
@[simp] theorem then_bad {α : Type} {ρ : Env} {f : α → Store → SR} : (R.bad : R α).then ρ f = .bad := rfl
@[simp] theorem seq_next {ρ : Env} {L : Store} {f : Env → Store → SR} : (SR.next ρ L).seq f = f ρ L := rfl
@[simp] theorem seq_ret {d : D} {L : Store} {f : Env → Store → SR} : (SR.ret d L).seq f = .ret d L := rfl
@[simp] theorem seq_exc {c : Nat} {d : D} {ρ : Env} {L : Store} {f : Env → Store → SR} : (SR.exc c d ρ L).seq f = .exc c d ρ L := rfl
@[simp] theorem seq_brk {ρ : Env} {L : Store} {f : Env → Store → SR} : (SR.brk ρ L).seq f = .brk ρ L := rfl
@[simp] theorem seq_cont {ρ : Env} {L : Store} {f : Env → Store → SR} : (SR.cont ρ L).seq f = .cont ρ L := rfl
@[simp] theorem seq_bad {f : Env → Store → SR} : (SR.bad).seq f = .bad := rfl
theorem look_some {α : Type} {f : Store → Option α} {L : Store} {a : α} (h : f L = some a) : look f L = .ok a L := by unfold look; rw [h]
/-- a test with a known answer's branches -/
theorem ite_bl {b : Bool} {x y : SR} : (match D.bl b with
    | .bl true => x
    | .bl false => y
    | _ => SR.bad) = if b = true then x else y := by cases b <;> rfl
theorem ite_bR {α : Type} {b : Bool} {x y : R α} : (match D.bl b with
    | .bl true => x
    | .bl false => y
    | _ => R.bad) = if b = true then x else y := by cases b <;> rfl
/-! ### what is walked: values -/
theorem compG_vals (f : D → M (Option D)) (ds : List D) : ∀ (n i : Nat) (L : Store), ds.length - i < n → compG f (.vals ds) n i L = compL f (ds.drop i) L := by
  intro n
  induction n with
  | zero => intro i L h; omega
  | succ n ih =>
    intro i L h
    unfold compG
    simp only [items]
    cases e : ds[i]? with
    | none =>
      have hl := List.getElem?_eq_none_iff.mp e
      rw [List.drop_eq_nil_of_le hl]
      rfl
    | some d =>
      have hl := (List.getElem?_eq_some_iff.mp e).1
      have hd : ds.drop i = d :: ds.drop (i + 1) := by
        rw [List.drop_eq_getElem_cons hl]
        congr 1
        exact (List.getElem?_eq_some_iff.mp e).2
      rw [hd]
      show (f d L).bind _ = (f d L).bind _
      congr 1
      funext o L1
      rw [ih (i + 1) L1 (by omega)]
theorem compW_vals {f : D → M (Option D)} {ds : List D} {L : Store} (h : ds.length ≤ big) : compW f (.vals ds) L = compL f ds L := by
  unfold compW smallW fuelW
  rw [if_pos (decide_eq_true h)]
  exact compG_vals f ds (ds.length + 1) 0 L (by omega)
theorem compL_nil {f : D → M (Option D)} {L : Store} : compL f [] L = .ok [] L := rfl
theorem compL_cons {f : D → M (Option D)} {d : D} {ds : List D} {L : Store} : compL f (d :: ds) L = (f d L).bind fun o L1 => (compL f ds L1).bind fun r L2 => .ok (match o with
    | some x => x :: r
    | none => r) L2 := rfl
/-- nothing is changed, nothing raised -/
theorem compL_fm {f : D → M (Option D)} {g : D → Option D} {L : Store} : ∀ {ds : List D}, (∀ d ∈ ds, f d L = .ok (g d) L) → compL f ds L = .ok (ds.filterMap g) L
  | [], _ => rfl
  | d :: ds, h => by
    rw [compL_cons, h d List.mem_cons_self]
    simp only [R.bind]
    rw [compL_fm fun x hx => h x (List.mem_cons_of_mem _ hx)]
    simp only [R.bind]
    rw [List.filterMap_cons]
    cases g d <;> rfl
theorem compL_map {f : D → M (Option D)} {g : D → D} {L : Store} {ds : List D} (h : ∀ d ∈ ds, f d L = .ok (some (g d)) L) : compL f ds L = .ok (ds.map g) L := by
  rw [compL_fm (g := fun d => some (g d)) h]
  congr 1
  induction ds with
  | nil => rfl
  | cons d r ih => rw [List.filterMap_cons, List.map_cons]; exact congrArg (g d :: ·) (ih fun x hx => h x (List.mem_cons_of_mem _ hx))
/-- the first that raises -/
theorem compL_exc {f : D → M (Option D)} {L : Store} {c : Nat} {e : D} : ∀ {as : List D} {d : D} {bs : List D}, (∀ a ∈ as, ∃ o, f a L = .ok o L) → f d L = .exc c e L → compL f (as ++ d :: bs) L = .exc c e L
  | [], d, bs, _, h => by
    rw [List.nil_append, compL_cons, h]
    rfl
  | a :: as, d, bs, h, k => by
    obtain ⟨o, ho⟩ := h a List.mem_cons_self
    rw [List.cons_append, compL_cons, ho]
    simp only [R.bind]
    rw [compL_exc (fun x hx => h x (List.mem_cons_of_mem _ hx)) k]
/-- with a store that changes: P stays true -/
theorem compL_st {f : D → M (Option D)} {P : Store → Prop} {Q : D → D → Prop} : ∀ {ds : List D} {L : Store}, P L → (∀ d ∈ ds, ∀ L, P L → ∃ x L', f d L = .ok (some x) L' ∧ P L' ∧ Q d x) → ∃ (xs : List D) (L' : Store), compL f ds L = .ok xs L' ∧ P L' ∧ xs.length = ds.length ∧ ∀ (i : Nat) (d x : D), ds[i]? = some d → xs[i]? = some x → Q d x
  | [], L, hp, _ => ⟨[], L, rfl, hp, rfl, fun i d x h => by simp at h⟩
  | d :: ds, L, hp, h => by
    obtain ⟨x, L1, e1, p1, q1⟩ := h d List.mem_cons_self L hp
    obtain ⟨xs, L2, e2, p2, l2, q2⟩ := compL_st p1 fun y hy => h y (List.mem_cons_of_mem _ hy)
    refine ⟨x :: xs, L2, ?_, p2, by simp [l2], fun i a b ha hb => ?_⟩
    · rw [compL_cons, e1]
      simp only [R.bind]
      rw [e2]
    · cases i with
      | zero => simp at ha hb; subst ha hb; exact q1
      | succ i => exact q2 i a b (by simpa using ha) (by simpa using hb)
theorem forG_vals (b : D → Env → Store → SR) (ds : List D) : ∀ (n i : Nat) (ρ : Env) (L : Store), ds.length - i < n → forG b (.vals ds) n i ρ L = forL b (ds.drop i) ρ L := by
  intro n
  induction n with
  | zero => intro i ρ L h; omega
  | succ n ih =>
    intro i ρ L h
    unfold forG
    simp only [items]
    cases e : ds[i]? with
    | none =>
      have hl := List.getElem?_eq_none_iff.mp e
      rw [List.drop_eq_nil_of_le hl]
      rfl
    | some d =>
      have hl := (List.getElem?_eq_some_iff.mp e).1
      have hd : ds.drop i = d :: ds.drop (i + 1) := by
        rw [List.drop_eq_getElem_cons hl]
        congr 1
        exact (List.getElem?_eq_some_iff.mp e).2
      rw [hd]
      show (match b d ρ L with
        | .next ρ1 L1 => _
        | .cont ρ1 L1 => _
        | .brk ρ1 L1 => _
        | r => r) = forL b (d :: ds.drop (i + 1)) ρ L
      unfold forL
      cases b d ρ L <;> first | rfl | exact ih (i + 1) _ _ (by omega)
theorem forW_vals {b : D → Env → Store → SR} {ds : List D} {ρ : Env} {L : Store} : forW b (.vals ds) ρ L = forL b ds ρ L := by
  exact forG_vals b ds (ds.length + 1) 0 ρ L (by omega)
theorem forL_nil {b : D → Env → Store → SR} {ρ : Env} {L : Store} : forL b [] ρ L = .next ρ L := rfl
theorem forL_cons {b : D → Env → Store → SR} {d : D} {ds : List D} {ρ : Env} {L : Store} : forL b (d :: ds) ρ L = match b d ρ L with
    | .next ρ1 L1 => forL b ds ρ1 L1
    | .cont ρ1 L1 => forL b ds ρ1 L1
    | .brk ρ1 L1 => .next ρ1 L1
    | r => r := rfl
/-- a loop that runs through or hands back -/
theorem forL_inv {b : D → Env → Store → SR} {I : List D → Env → Store → Prop} {Q : SR → Prop} (done : ∀ ρ L, I [] ρ L → Q (.next ρ L)) (turn : ∀ d r ρ L, I (d :: r) ρ L → (∃ ρ1 L1, (b d ρ L = .next ρ1 L1 ∨ b d ρ L = .cont ρ1 L1) ∧ I r ρ1 L1) ∨ (∃ x L1, b d ρ L = .ret x L1 ∧ Q (.ret x L1)) ∨ (∃ c x ρ1 L1, b d ρ L = .exc c x ρ1 L1 ∧ Q (.exc c x ρ1 L1)) ∨ ∃ ρ1 L1, b d ρ L = .brk ρ1 L1 ∧ Q (.next ρ1 L1)) :
    ∀ {ds : List D} {ρ : Env} {L : Store}, I ds ρ L → Q (forL b ds ρ L)
  | [], ρ, L, h => done ρ L h
  | d :: ds, ρ, L, h => by
    rw [forL_cons]
    rcases turn d ds ρ L h with ⟨ρ1, L1, e | e, i⟩ | ⟨x, L1, e, q⟩ | ⟨c, x, ρ1, L1, e, q⟩ | ⟨ρ1, L1, e, q⟩
    · rw [e]; exact forL_inv done turn i
    · rw [e]; exact forL_inv done turn i
    · rw [e]; exact q
    · rw [e]; exact q
    · rw [e]; exact q

/-! ### calls -/
theorem callF_pure {cf : Nat → List D → M D} {f : Nat} {xs : List D} {L L1 : Store} {d : D} (p : purAll xs = true) (h : cf f xs [] = .ok d L1) (pd : d.pure = true) : callF cf f xs L = .ok d L := by
  unfold callF
  rw [if_pos p, h]
  have : frozen 0 d L1 = some d := by
    cases d <;> first | (simp only [frozen]; rw [if_pos pd]) | (simp [D.pure] at pd)
  simp only [this]
theorem callF_exc {cf : Nat → List D → M D} {f : Nat} {xs : List D} {L L1 : Store} {c : Nat} {d : D} (p : purAll xs = true) (h : cf f xs [] = .exc c d L1) (pd : d.pure = true) : callF cf f xs L = .exc c d L := by
  unfold callF
  rw [if_pos p, h]
  simp only
  rw [if_pos pd]
end EV
namespace EV
@[simp] theorem ty_beq (a b : Ty) : (a == b) = decide (a = b) := by cases a <;> cases b <;> rfl
theorem purAll_cons {d : D} {r : List D} : purAll (d :: r) = (d.pure && purAll r) := rfl
end EV
end

section
set_option autoImplicit false
/-! Running the evaluator by rules: one for each construct, the value by unification. -/
namespace EV
open PySem
section
variable {cf : Nat → List D → M D} {ρ : Env} {L L1 L2 L3 : Store} {a b c : E} {x y z d : D} {p q : Bool}
theorem r_slot {i : Nat} (h : ρ[i]? = some (some d)) : evE cf (.slot i) ρ L = .ok d L := by simp only [evE, h]
theorem r_cst : evE cf (.cst d) ρ L = .ok d L := by simp only [evE]
theorem r_glob : evE cf (.glob d) ρ L = .ok d L := by simp only [evE]
theorem r_fnv {f : Nat} : evE cf (.fnv f) ρ L = .ok (.fn f) L := by simp only [evE]
theorem r_bin {o : Bin} (ha : evE cf a ρ L = .ok x L1) (hb : evE cf b ρ L1 = .ok y L2) (h : binV L2 o x y = some d) : evE cf (.bin o a b) ρ L = .ok d L2 := by simp only [evE, ha, hb, bind_ok, look, h]
theorem r_neg {i : Int} (ha : evE cf a ρ L = .ok (.int i) L1) : evE cf (.neg a) ρ L = .ok (.int (-i)) L1 := by simp only [evE, ha, bind_ok]
theorem r_not (ha : evE cf a ρ L = .ok (.bl p) L1) : evE cf (.not a) ρ L = .ok (.bl (!p)) L1 := by simp only [evE, ha, bind_ok]
theorem r_cmp {o : Cmp} (ha : evE cf a ρ L = .ok x L1) (hb : evE cf b ρ L1 = .ok y L2) (h : cmpV L2 o x y = some p) : evE cf (.cmp o a b) ρ L = .ok (.bl p) L2 := by simp only [evE, ha, hb, bind_ok, look, h]
theorem r_chain {o1 o2 : Cmp} (ha : evE cf a ρ L = .ok x L1) (hb : evE cf b ρ L1 = .ok y L2) (h : cmpV L2 o1 x y = some p) (hc : evE cf c ρ L2 = .ok z L2) (h2 : cmpV L2 o2 y z = some q) : evE cf (.chain o1 o2 a b c) ρ L = .ok (.bl (p && q)) L2 := by
  simp only [evE, ha, hb, bind_ok, look, h]
  cases p with
  | false => rfl
  | true => simp only [if_true, hc, bind_ok, h2]; rfl
theorem r_isN (ha : evE cf a ρ L = .ok x L1) : evE cf (.isN a) ρ L = .ok (.bl (match x with
    | .non => true
    | _ => false)) L1 := by simp only [evE, ha, bind_ok]; cases x <;> rfl
theorem r_notN (ha : evE cf a ρ L = .ok x L1) : evE cf (.notN a) ρ L = .ok (.bl (match x with
    | .non => false
    | _ => true)) L1 := by simp only [evE, ha, bind_ok]; cases x <;> rfl
theorem r_and (ha : evE cf a ρ L = .ok (.bl p) L1) (hb : p = true → evE cf b ρ L1 = .ok (.bl q) L1) : evE cf (.and a b) ρ L = .ok (.bl (p && q)) L1 := by
  simp only [evE, ha, bind_ok]
  cases p with
  | false => rfl
  | true => simp only [hb rfl, bind_ok]; rfl
theorem r_or (ha : evE cf a ρ L = .ok (.bl p) L1) (hb : p = false → evE cf b ρ L1 = .ok (.bl q) L1) : evE cf (.or a b) ρ L = .ok (.bl (p || q)) L1 := by
  simp only [evE, ha, bind_ok]
  cases p with
  | true => rfl
  | false => simp only [hb rfl, bind_ok]; rfl
theorem r_ife (hc : evE cf c ρ L = .ok (.bl p) L1) (ha : p = true → evE cf a ρ L1 = .ok x L2) (hb : p = false → evE cf b ρ L1 = .ok x L2) : evE cf (.ife c a b) ρ L = .ok x L2 := by
  simp only [evE, hc, bind_ok]
  cases p with
  | true => exact ha rfl
  | false => exact hb rfl
theorem r_tup {es : Es} {xs : List D} (h : evEs cf es ρ L = .ok xs L1) (hl : xs.length ≤ big) : evE cf (.tup es) ρ L = .ok (.tup xs) L1 := by simp only [evE, h, bind_ok, if_pos hl]
theorem r_frz {f : F} {xs : List D} (h : evF cf f ρ L = .ok xs L1) : evE cf (.frz f) ρ L = .ok (.lst xs) L1 := by simp only [evE, h, bind_ok]
theorem r_mut {f : F} {xs : List D} (h : evF cf f ρ L = .ok xs L1) : evE cf (.mut f) ρ L = .ok (.obj L1.length) (L1 ++ [.lst xs]) := by simp only [evE, h, bind_ok]
theorem r_call {f : Nat} {es : Es} {xs : List D} (h : evEs cf es ρ L = .ok xs L1) (k : callF cf f xs L1 = .ok d L2) : evE cf (.call f es) ρ L = .ok d L2 := by simp only [evE, h, bind_ok, k]
theorem r_callE {f : Nat} {es : Es} {xs : List D} {n : Nat} (h : evEs cf es ρ L = .ok xs L1) (k : callF cf f xs L1 = .exc n d L2) : evE cf (.call f es) ρ L = .exc n d L2 := by simp only [evE, h, bind_ok, k]
theorem r_bi {o : Bi} {es : Es} {xs : List D} (h : evEs cf es ρ L = .ok xs L1) (k : biV L1 o xs = some d) : evE cf (.bi o es) ρ L = .ok d L1 := by simp only [evE, h, bind_ok, look, k]
theorem r_meth {m : Me} {o : E} {es : Es} {xs : List D} (h0 : evE cf o ρ L = .ok x L1) (hr : recv m x L1 = true) (h : evEs cf es ρ L1 = .ok xs L2) (k : meV L2 m x xs = some d) : evE cf (.meth m o es) ρ L = .ok d L2 := by
  simp only [evE, h0, bind_ok, hr, if_true, h]
  have hm : m ≠ .append := by
    intro e
    subst e
    simp [meV] at k
  split
  · exact absurd rfl hm
  · simp only [look, k]
theorem r_append {o : E} {e : E} {k : Nat} {ds : List D} (h0 : evE cf o ρ L = .ok (.obj k) L1) (h1 : L1[k]? = some (.lst ds)) (h : evE cf e ρ L1 = .ok y L2) (h2 : L2[k]? = some (.lst ds)) (hl : ds.length < big) :
    evE cf (.meth .append o (.cons e .nil)) ρ L = .ok .non (L2.set k (.lst (ds ++ [y]))) := by
  simp only [evE, evEs, h0, bind_ok, recv, h1, if_true, h, h2, if_pos hl]
theorem r_ix (ha : evE cf a ρ L = .ok x L1) (hb : evE cf b ρ L1 = .ok y L2) (h : ixV L2 x y = some d) : evE cf (.ix a b) ρ L = .ok d L2 := by simp only [evE, ha, hb, bind_ok, look, h]
theorem r_dget (ha : evE cf a ρ L = .ok x L1) (hb : evE cf b ρ L1 = .ok y L2) (h : dictGet L2 x y = some (some d)) : evE cf (.dget a b) ρ L = .ok d L2 := by
  have : (dictGet L2 x y).bind id = some d := by rw [h]; rfl
  simp only [evE, ha, hb, bind_ok, look, this]
theorem r_sl {lo hi : Oe} {l h : Option Int} (ha : evE cf a ρ L = .ok x L1) (hl : evO cf lo ρ L1 = .ok l L2) (hh : evO cf hi ρ L2 = .ok h L3) (k : slV L3 x l h = some d) : evE cf (.sl a lo hi) ρ L = .ok d L3 := by simp only [evE, ha, hl, hh, bind_ok, look, k]
theorem r_isi {t : Ty} (ha : evE cf a ρ L = .ok x L1) (h : isiV t L1 x = some p) : evE cf (.isi a t) ρ L = .ok (.bl p) L1 := by simp only [evE, ha, bind_ok, look, h]
theorem r_nil : evEs cf .nil ρ L = .ok [] L := by simp only [evEs]
theorem r_cons {e : E} {r : Es} {xs : List D} (h : evE cf e ρ L = .ok x L1) (k : evEs cf r ρ L1 = .ok xs L2) : evEs cf (.cons e r) ρ L = .ok (x :: xs) L2 := by simp only [evEs, h, bind_ok, k]
theorem r_onone : evO cf .none ρ L = .ok none L := by simp only [evO]
theorem r_osome {i : Int} (h : evE cf a ρ L = .ok (.int i) L1) : evO cf (.some a) ρ L = .ok (some i) L1 := by simp only [evO, h, bind_ok]
theorem r_disp {es : Es} {xs : List D} (h : evEs cf es ρ L = .ok xs L1) (hl : xs.length ≤ big) : evF cf (.disp es) ρ L = .ok xs L1 := by simp only [evF, h, bind_ok, if_pos hl]
/-- one turn of a comprehension -/
def turnE (cf : Nat → List D → M D) (n : Bool) (elt : E) (tg : Tg) (t : Oe) (own : List Nat) (ρ : Env) : D → M (Option D) := fun d L => match bindT tg d (wipeD ρ own) with
  | none => .bad
  | some ρ' => noX n ((evT cf t ρ' L).bind fun b L2 => if b then (evE cf elt ρ' L2).bind fun x L3 => .ok (some x) L3 else .ok none L2)
theorem r_lc {n : Bool} {elt : E} {tg : Tg} {it : It} {t : Oe} {own : List Nat} {ds xs : List D} (hi : evI cf it ρ L = .ok (.vals ds) L1) (hl : ds.length ≤ big) (h : compL (turnE cf n elt tg t own ρ) ds L1 = .ok xs L2) : evF cf (.lc n elt tg it t own) ρ L = .ok xs L2 := by
  simp only [evF, hi, bind_ok]
  exact (compW_vals hl).trans h
theorem r_lcE {n : Bool} {elt : E} {tg : Tg} {it : It} {t : Oe} {own : List Nat} {ds : List D} {k : Nat} (hi : evI cf it ρ L = .ok (.vals ds) L1) (hl : ds.length ≤ big) (h : compL (turnE cf n elt tg t own ρ) ds L1 = .exc k d L2) : evF cf (.lc n elt tg it t own) ρ L = .exc k d L2 := by
  simp only [evF, hi, bind_ok]
  exact (compW_vals hl).trans h
theorem r_turn {n : Bool} {elt : E} {tg : Tg} {own : List Nat} {ρ' : Env} (hb : bindT tg y (wipeD ρ own) = some ρ') (h : evE cf elt ρ' L = .ok x L1) : turnE cf n elt tg .none own ρ y L = .ok (some x) L1 := by
  unfold turnE
  simp only [hb, evT, bind_ok, if_true, h, noX]
theorem r_turnT {n : Bool} {elt t : E} {tg : Tg} {own : List Nat} {ρ' : Env} {r : Option D} (hb : bindT tg y (wipeD ρ own) = some ρ') (ht : evE cf t ρ' L = .ok (.bl p) L1) (h : p = true → ∃ x, evE cf elt ρ' L1 = .ok x L2 ∧ r = some x) (k : p = false → L2 = L1 ∧ r = none) : turnE cf n elt tg (.some t) own ρ y L = .ok r L2 := by
  unfold turnE
  simp only [hb, evT, ht, bind_ok]
  cases p with
  | true =>
    obtain ⟨x, e, rfl⟩ := h rfl
    simp only [if_true, e, bind_ok, noX]
  | false =>
    obtain ⟨rfl, rfl⟩ := k rfl
    rfl
theorem r_vlst {ds : List D} (h : evE cf a ρ L = .ok (.lst ds) L1) : evI cf (.val a) ρ L = .ok (.vals ds) L1 := by simp only [evI, h, bind_ok]
theorem r_vtup {ds : List D} (h : evE cf a ρ L = .ok (.tup ds) L1) : evI cf (.val a) ρ L = .ok (.vals ds) L1 := by simp only [evI, h, bind_ok]
theorem r_vstr {t : List Nat} (h : evE cf a ρ L = .ok (.str t) L1) : evI cf (.val a) ρ L = .ok (.vals (signs t)) L1 := by simp only [evI, h, bind_ok]
theorem r_rng {i : Int} (h : evE cf a ρ L = .ok (.int i) L1) (hb : i < 2 ^ 62 ∧ -(2 ^ 62) ≤ i) : evI cf (.range1 a) ρ L = .ok (.vals (upto 0 i.toNat)) L1 := by simp only [evI, h, bind_ok, if_pos hb]
theorem r_enum {ds : List D} (h : evE cf a ρ L = .ok (.lst ds) L1) : evI cf (.enum a) ρ L = .ok (.vals (numbered 0 ds)) L1 := by simp only [evI, h, bind_ok]
/-! ### statements: X is what comes out -/
variable {X : SR} {r : Ss}
theorem q_nil : evSs cf .nil ρ L = .next ρ L := by simp only [evSs]
theorem q_set {i : Nat} (h : evE cf a ρ L = .ok x L1) (k : evSs cf r (ρ.set i (some x)) L1 = X) : evSs cf (.cons (.set i a) r) ρ L = X := by simp only [evSs, evS, h, then_ok, seq_next, k]
theorem q_setE {i n : Nat} (h : evE cf a ρ L = .exc n x L1) : evSs cf (.cons (.set i a) r) ρ L = .exc n x ρ L1 := by simp only [evSs, evS, h, then_exc, seq_exc]
theorem q_par {is : List Nat} {es : Es} {xs : List D} (h : evEs cf es ρ L = .ok xs L1) (hl : xs.length = is.length) (k : evSs cf r (setAll is xs ρ) L1 = X) : evSs cf (.cons (.par is es) r) ρ L = X := by simp only [evSs, evS, h, then_ok, if_pos hl, seq_next, k]
theorem q_asg {t : Tg} {ρ' : Env} (h : evE cf a ρ L = .ok x L1) (hb : bindT t x ρ = some ρ') (k : evSs cf r ρ' L1 = X) : evSs cf (.cons (.asg t a) r) ρ L = X := by simp only [evSs, evS, h, then_ok, hb, seq_next, k]
theorem q_ex (h : evE cf a ρ L = .ok x L1) (k : evSs cf r ρ L1 = X) : evSs cf (.cons (.ex a) r) ρ L = X := by simp only [evSs, evS, h, then_ok, seq_next, k]
theorem q_exE {n : Nat} (h : evE cf a ρ L = .exc n x L1) : evSs cf (.cons (.ex a) r) ρ L = .exc n x ρ L1 := by simp only [evSs, evS, h, then_exc, seq_exc]
theorem q_ret (h : evE cf a ρ L = .ok x L1) : evSs cf (.cons (.ret a) r) ρ L = .ret x L1 := by simp only [evSs, evS, h, then_ok, seq_ret]
theorem q_raise {n : Nat} (h : evE cf a ρ L = .ok x L1) : evSs cf (.cons (.raise n a) r) ρ L = .exc n x ρ L1 := by simp only [evSs, evS, h, then_ok, seq_exc]
theorem q_ife {s1 s2 : Ss} (h : evE cf a ρ L = .ok (.bl p) L1) (h1 : p = true → (evSs cf s1 ρ L1).seq (fun ρ1 L1 => evSs cf r ρ1 L1) = X) (h2 : p = false → (evSs cf s2 ρ L1).seq (fun ρ1 L1 => evSs cf r ρ1 L1) = X) : evSs cf (.cons (.ife a s1 s2) r) ρ L = X := by
  simp only [evSs, evS, h, then_ok]
  cases p with
  | true => exact h1 rfl
  | false => exact h2 rfl
/-- if c: return d, then the rest -/
theorem q_ifr {s1 : Ss} (h : evE cf a ρ L = .ok (.bl p) L1) (h1 : p = true → (evSs cf s1 ρ L1).seq (fun ρ1 L1 => evSs cf r ρ1 L1) = X) (h2 : p = false → evSs cf r ρ L1 = X) : evSs cf (.cons (.ife a s1 .nil) r) ρ L = X :=
  q_ife h h1 fun e => by rw [q_nil]; exact h2 e
theorem q_for {t : Tg} {it : It} {b : Ss} {ds : List D} (h : evI cf it ρ L = .ok (.vals ds) L1) (k : (forL (fun d ρ L => match bindT t d ρ with
      | some ρ' => evSs cf b ρ' L
      | none => .bad) ds ρ L1).seq (fun ρ1 L1 => evSs cf r ρ1 L1) = X) : evSs cf (.cons (.for_ t it b) r) ρ L = X := by
  simp only [evSs, evS, h, then_ok]
  rw [forW_vals]
  exact k
theorem r_ife2 (hc : evE cf c ρ L = .ok (.bl p) L1) (ha : p = true → evE cf a ρ L1 = .ok x L2) (hb : p = false → evE cf b ρ L1 = .ok y L2) : evE cf (.ife c a b) ρ L = .ok (if p = true then x else y) L2 := by
  simp only [evE, hc, bind_ok]
  cases p with
  | true => exact ha rfl
  | false => exact hb rfl
variable {X1 X2 : SR}
theorem q_ifret {s1 : Ss} (h : evE cf a ρ L = .ok (.bl p) L1) (h1 : p = true → evSs cf s1 ρ L1 = .ret x L2) (h2 : p = false → evSs cf r ρ L1 = X) : evSs cf (.cons (.ife a s1 .nil) r) ρ L = if p = true then .ret x L2 else X := by
  refine q_ifr h (fun e => ?_) fun e => ?_
  · rw [h1 e, seq_ret, if_pos e]
  · rw [h2 e, if_neg (by rw [e]; decide)]
theorem q_ifexc {s1 : Ss} {n : Nat} {ρ1 : Env} (h : evE cf a ρ L = .ok (.bl p) L1) (h1 : p = true → evSs cf s1 ρ L1 = .exc n x ρ1 L2) (h2 : p = false → evSs cf r ρ L1 = X) : evSs cf (.cons (.ife a s1 .nil) r) ρ L = if p = true then .exc n x ρ1 L2 else X := by
  refine q_ifr h (fun e => ?_) fun e => ?_
  · rw [h1 e, seq_exc, if_pos e]
  · rw [h2 e, if_neg (by rw [e]; decide)]
/-- what a body's end is to its caller -/
def retS : SR → R D
  | .next _ L1 => .ok .non L1
  | .ret d L1 => .ok d L1
  | .exc c d _ L1 => .exc c d L1
  | _ => .bad
theorem run_fn {fs : List Fd} {n f : Nat} {F : Fd} {xs : List D} {Y : R D} (hf : fs[f]? = some F) (hl : xs.length = F.np) (h : evSs (evFn fs n) F.body (startD F.nl xs) L = X) (k : retS X = Y) : evFn fs (n + 1) f xs L = Y := by
  unfold evFn
  rw [hf]
  simp only
  rw [if_pos hl, h, ← k]
  cases X <;> rfl
theorem run_at {fs : List Fd} {n f : Nat} {F : Fd} {B : Ss} {xs : List D} {Y : R D} (ρ : Env) (hf : fs[f]? = some F) (hl : xs.length = F.np) (hs : startD F.nl xs = ρ) (hB : F.body = B) (h : evSs (evFn fs n) B ρ L = X) (k : retS X = Y) : evFn fs (n + 1) f xs L = Y :=
  run_fn hf hl (hs ▸ hB ▸ h) k
end
end EV
end

section

set_option autoImplicit false
namespace EV
open PySem
/-- a call of pure data that ends with d, whatever the store -/
def OkC (cf : Nat → List D → M D) (f : Nat) (xs : List D) (d : D) : Prop := ∀ L, callF cf f xs L = .ok d L
def ExC (cf : Nat → List D → M D) (f : Nat) (xs : List D) (c : Nat) (d : D) : Prop := ∀ L, callF cf f xs L = .exc c d L
theorem okC_use {cf : Nat → List D → M D} {f : Nat} {xs : List D} {d : D} {L : Store} (h : OkC cf f xs d) : callF cf f xs L = .ok d L := h L
theorem exC_use {cf : Nat → List D → M D} {f : Nat} {xs : List D} {d : D} {c : Nat} {L : Store} (h : ExC cf f xs c d) : callF cf f xs L = .exc c d L := h L
theorem okC_of {cf : Nat → List D → M D} {f : Nat} {xs : List D} {d : D} {L1 : Store} (h : cf f xs [] = .ok d L1) (p : purAll xs = true) (pd : d.pure = true) : OkC cf f xs d := fun L => callF_pure p h pd
theorem exC_of {cf : Nat → List D → M D} {f : Nat} {xs : List D} {d : D} {c : Nat} {L1 : Store} (h : cf f xs [] = .exc c d L1) (p : purAll xs = true) (pd : d.pure = true) : ExC cf f xs c d := fun L => callF_exc p h pd
theorem eq_use {α : Type} {a b : α} (h : a = b) : a = b := h
theorem le_use {a b : Nat} (h : a ≤ b) : a ≤ b := h
theorem seq_of {r X : SR} {ρ : Env} {L : Store} {f : Env → Store → SR} (h : r = .next ρ L) (k : f ρ L = X) : r.seq f = X := by rw [h, seq_next]; exact k
theorem seq_ofR {r : SR} {d : D} {L : Store} {f : Env → Store → SR} (h : r = .ret d L) : r.seq f = .ret d L := by rw [h, seq_ret]
theorem seq_ofE {r : SR} {c : Nat} {d : D} {ρ : Env} {L : Store} {f : Env → Store → SR} (h : r = .exc c d ρ L) : r.seq f = .exc c d ρ L := by rw [h, seq_exc]
section
variable {cf : Nat → List D → M D} {ρ : Env} {L L1 L2 L3 : Store} {a b c : E} {x y z d : D} {p q : Bool} {n : Nat}
theorem r_frzE {f : F} (h : evF cf f ρ L = .exc n d L1) : evE cf (.frz f) ρ L = .exc n d L1 := by simp only [evE, h, bind_exc]
theorem r_consE {r : Es} (h : evE cf a ρ L = .exc n d L1) : evEs cf (.cons a r) ρ L = .exc n d L1 := by simp only [evEs, h, bind_exc]
theorem r_biE {o : Bi} {es : Es} (h : evEs cf es ρ L = .exc n d L1) : evE cf (.bi o es) ρ L = .exc n d L1 := by simp only [evE, h, bind_exc]
theorem q_retE {r : Ss} (h : evE cf a ρ L = .exc n x L1) : evSs cf (.cons (.ret a) r) ρ L = .exc n x ρ L1 := by simp only [evSs, evS, h, then_exc, seq_exc]
theorem q_skip {s1 r : Ss} {X : SR} (h : evE cf a ρ L = .ok (.bl false) L1) (k : evSs cf r ρ L1 = X) : evSs cf (.cons (.ife a s1 .nil) r) ρ L = X := q_ifr h (fun e => absurd e (by decide)) fun _ => k
theorem q_take {s1 s2 r : Ss} (h : evE cf a ρ L = .ok (.bl true) L1) (k : evSs cf s1 ρ L1 = .ret x L2) : evSs cf (.cons (.ife a s1 s2) r) ρ L = .ret x L2 := q_ife h (fun _ => seq_ofR k) fun e => absurd e (by decide)
theorem q_takeE {s1 s2 r : Ss} {ρ1 : Env} (h : evE cf a ρ L = .ok (.bl true) L1) (k : evSs cf s1 ρ L1 = .exc n x ρ1 L2) : evSs cf (.cons (.ife a s1 s2) r) ρ L = .exc n x ρ1 L2 := q_ife h (fun _ => seq_ofE k) fun e => absurd e (by decide)
end
/-! ### small facts of the operators -/
theorem len_s {L : Store} {t : List Nat} (h : t.length ≤ big) : biV L .len [.str t] = some (.int t.length) := by
  unfold biV
  exact if_pos h
theorem upto_eq : ∀ (n : Nat) (a : Int), upto a n = (List.range n).map fun i => .int (a + i)
  | 0, _ => rfl
  | n + 1, a => by
    rw [upto, upto_eq n, List.range_succ_eq_map, List.map_cons, List.map_map]
    simp only [Int.natCast_zero, Int.add_zero, List.cons.injEq, true_and]
    refine List.map_congr_left fun i _ => ?_
    simp only [Function.comp, Nat.succ_eq_add_one, Int.natCast_add, Int.natCast_one]
    congr 1
    omega
theorem upto0 (n : Nat) : upto 0 n = (List.range n).map fun i : Nat => D.int i := by
  rw [upto_eq]
  refine List.map_congr_left fun i _ => ?_
  rw [Int.zero_add]
theorem upto_len (n : Nat) : (upto 0 n).length = n := by rw [upto0]; simp
/-- a comprehension over numbers whose turns are known -/
theorem comp_rng {f : D → M (Option D)} {g : Nat → D} {n : Nat} {L : Store} (h : ∀ i < n, f (.int i) L = .ok (some (g i)) L) : compL f (upto 0 n) L = .ok ((List.range n).map g) L := by
  rw [upto0, show (List.range n).map g = ((List.range n).map fun i : Nat => D.int i).map fun d => match d with
    | .int i => g i.toNat
    | d => d from by rw [List.map_map]; rfl]
  refine compL_map fun d hd => ?_
  obtain ⟨i, hi, rfl⟩ := List.mem_map.mp hd
  exact h i (List.mem_range.mp hi)
/-- a comprehension over mapped items -/
theorem comp_of {α : Type} {k : α → D} {f : D → M (Option D)} {g : α → D} {L : Store} : ∀ {l : List α}, (∀ a ∈ l, f (k a) L = .ok (some (g a)) L) → compL f (l.map k) L = .ok (l.map g) L
  | [], _ => rfl
  | a :: l, h => by
    rw [List.map_cons, compL_cons, h a List.mem_cons_self]
    simp only [R.bind]
    rw [comp_of fun x hx => h x (List.mem_cons_of_mem _ hx)]
    rfl
/-- with a test -/
theorem comp_if {α : Type} {k : α → D} {f : D → M (Option D)} {g : α → D} {p : α → Bool} {L : Store} : ∀ {l : List α}, (∀ a ∈ l, f (k a) L = .ok (if p a = true then some (g a) else none) L) → compL f (l.map k) L = .ok ((l.filter p).map g) L
  | [], _ => rfl
  | a :: l, h => by
    rw [List.map_cons, compL_cons, h a List.mem_cons_self]
    simp only [R.bind]
    rw [comp_if fun x hx => h x (List.mem_cons_of_mem _ hx), List.filter_cons]
    cases p a <;> rfl
/-- the first that raises -/
theorem comp_exc {α : Type} {k : α → D} {f : D → M (Option D)} {g : α → D} {p : α → Bool} {c : Nat} {e : D} {L : Store} : ∀ {l : List α}, (∀ a ∈ l, p a = true → f (k a) L = .ok (some (g a)) L) → (∀ a ∈ l, p a = false → f (k a) L = .exc c e L) → l.all p = false → compL f (l.map k) L = .exc c e L
  | [], _, _, h => by simp at h
  | a :: l, h, h2, h3 => by
    rw [List.map_cons, compL_cons]
    cases e1 : p a with
    | false => rw [h2 a List.mem_cons_self e1]; rfl
    | true =>
      rw [h a List.mem_cons_self e1]
      simp only [R.bind]
      rw [List.all_cons, e1, Bool.true_and] at h3
      rw [comp_exc (fun x hx => h x (List.mem_cons_of_mem _ hx)) (fun x hx => h2 x (List.mem_cons_of_mem _ hx)) h3]
theorem blsOf_map {α : Type} (g : α → Bool) : ∀ l : List α, blsOf (l.map fun i => .bl (g i)) = some (l.map g)
  | [] => rfl
  | a :: l => by rw [List.map_cons, blsOf, blsOf_map g l]; rfl
theorem all_map {L : Store} {α : Type} (g : α → Bool) (l : List α) : biV L .all [.lst (l.map fun i => .bl (g i))] = some (.bl (l.all g)) := by
  unfold biV
  simp only [listOf, blsOf_map, List.all_map]
  rfl
theorem ix_s {L : Store} {t : List Nat} {i c : Nat} (h : t.length ≤ big) (hc : t[i]? = some c) : ixV L (.str t) (.int (i : Int)) = some (.str [c]) := by
  unfold ixV
  simp only [if_pos h, L2.atI_nat hc]
theorem cut_take {α : Type} (t : List α) (i : Nat) (hi : i ≤ t.length) : cutL t none (some (i : Int)) = t.take i := by
  unfold cutL
  rw [HT.sIx_none, HT.sIx_nat, List.drop_zero, Nat.sub_zero, Nat.min_eq_left hi]
theorem cut_drop {α : Type} (t : List α) (i : Nat) (hi : i ≤ t.length) : cutL t (some (i : Int)) none = t.drop i := by
  unfold cutL
  rw [HT.sIx_none, HT.sIx_nat, Nat.min_eq_left hi, List.take_of_length_le (by rw [List.length_drop]; exact Nat.le_refl _)]
theorem cut_s {L : Store} {t : List Nat} {i : Nat} (h : t.length ≤ big) (hi : i ≤ t.length) : slV L (.str t) none (some (i : Int)) = some (.str (t.take i)) := by
  unfold slV
  simp only [if_pos h, cut_take t i hi]
theorem cut_s2 {L : Store} {t : List Nat} {i : Nat} (h : t.length ≤ big) (hi : i ≤ t.length) : slV L (.str t) (some (i : Int)) none = some (.str (t.drop i)) := by
  unfold slV
  simp only [if_pos h, cut_drop t i hi]
/-- a loop that looks at each and goes, or hands back -/
theorem for_all {b : D → Env → Store → SR} {α : Type} {k : α → D} {g : α → Bool} {P : Env → Prop} {L : Store} {x : D} : ∀ {l : List α} {ρ : Env}, (∀ a ∈ l, ∀ ρ, P ρ → (g a = true → ∃ ρ', P ρ' ∧ b (k a) ρ L = .next ρ' L) ∧ (g a = false → b (k a) ρ L = .ret x L)) → P ρ →
    (l.all g = true → ∃ ρ', P ρ' ∧ forL b (l.map k) ρ L = .next ρ' L) ∧ (l.all g = false → forL b (l.map k) ρ L = .ret x L)
  | [], ρ, h, hp => ⟨fun _ => ⟨ρ, hp, rfl⟩, fun h => by simp at h⟩
  | a :: l, ρ, h, hp => by
    obtain ⟨h1, h2⟩ := h a List.mem_cons_self ρ hp
    rw [List.map_cons, forL_cons, List.all_cons]
    cases e : g a with
    | false => exact ⟨fun h => by simp at h, fun _ => by rw [h2 e]⟩
    | true =>
      obtain ⟨ρ', hp', e1⟩ := h1 e
      rw [e1]
      exact for_all (fun x hx => h x (List.mem_cons_of_mem _ hx)) hp'
theorem shp_ints (n : Nat) : ∀ l : List Int, shpAll n (l.map .int) = true
  | [] => by unfold shpAll; rfl
  | a :: l => by rw [List.map_cons, shpAll, shp_ints n l, D.shp]; rfl
theorem shp_of {α : Type} (n : Nat) (k : α → D) (h : ∀ a, (k a).shp n = true) : ∀ l : List α, shpAll n (l.map k) = true
  | [] => by unfold shpAll; rfl
  | a :: l => by rw [List.map_cons, shpAll, shp_of n k h l, h]; rfl
theorem pur_of {α : Type} (k : α → D) (h : ∀ a, (k a).pure = true) : ∀ l : List α, purAll (l.map k) = true
  | [] => rfl
  | a :: l => by rw [List.map_cons, purAll_cons, pur_of k h l, h]; rfl
end EV
end

section
set_option autoImplicit false
/-! Running the evaluator by simp: each construct's equation over combinators whose first part alone is looked at. -/
namespace EV
open PySem
theorem bind_cg {α β : Type} {r r' : R α} {f : α → M β} (h : r = r') : R.bind r f = R.bind r' f := by rw [h]
theorem then_cg {α : Type} {r r' : R α} {ρ : Env} {f : α → Store → SR} (h : r = r') : R.then r ρ f = R.then r' ρ f := by rw [h]
theorem seq_cg {r r' : SR} {f : Env → Store → SR} (h : r = r') : SR.seq r f = SR.seq r' f := by rw [h]
/-! ### combinators -/
def optR {α : Type} (o : Option α) (L : Store) : R α := match o with
  | some a => .ok a L
  | none => .bad
theorem optR_some {α : Type} {a : α} {L : Store} : optR (some a) L = .ok a L := rfl
def blR (o : Option Bool) (L : Store) : R D := match o with
  | some b => .ok (.bl b) L
  | none => .bad
theorem blR_some {b : Bool} {L : Store} : blR (some b) L = .ok (.bl b) L := rfl
def slotR (o : Option (Option D)) (L : Store) : R D := match o with
  | some (some d) => .ok d L
  | _ => .bad
theorem slotR_some {d : D} {L : Store} : slotR (some (some d)) L = .ok d L := rfl
def condR {β : Type} (x : D) (A B : Unit → R β) : R β := match x with
  | .bl true => A ()
  | .bl false => B ()
  | _ => .bad
def condS (x : D) (A B : Unit → SR) : SR := match x with
  | .bl true => A ()
  | .bl false => B ()
  | _ => .bad
theorem condR_cg {β : Type} {x x' : D} {A B : Unit → R β} (h : x = x') : condR x A B = condR x' A B := by rw [h]
theorem condS_cg {x x' : D} {A B : Unit → SR} (h : x = x') : condS x A B = condS x' A B := by rw [h]
theorem condR_bl {β : Type} {p : Bool} {A B : Unit → R β} : condR (.bl p) A B = if p = true then A () else B () := by cases p <;> rfl
theorem condS_bl {p : Bool} {A B : Unit → SR} : condS (.bl p) A B = if p = true then A () else B () := by cases p <;> rfl
theorem condR_t {β : Type} {A B : Unit → R β} : condR (.bl true) A B = A () := rfl
theorem condR_f {β : Type} {A B : Unit → R β} : condR (.bl false) A B = B () := rfl
theorem condS_t {A B : Unit → SR} : condS (.bl true) A B = A () := rfl
theorem condS_f {A B : Unit → SR} : condS (.bl false) A B = B () := rfl
theorem join_and {p q : Bool} {L : Store} : (if p = true then R.ok (D.bl q) L else R.ok (D.bl false) L) = R.ok (D.bl (p && q)) L := by cases p <;> rfl
theorem join_or {p q : Bool} {L : Store} : (if p = true then R.ok (D.bl true) L else R.ok (D.bl q) L) = R.ok (D.bl (p || q)) L := by cases p <;> rfl
theorem bind_ite {α β : Type} {c : Prop} [Decidable c] {a b : R α} {f : α → M β} : (if c then a else b).bind f = if c then a.bind f else b.bind f := by split <;> rfl
theorem then_ite {α : Type} {c : Prop} [Decidable c] {a b : R α} {ρ : Env} {f : α → Store → SR} : (if c then a else b).then ρ f = if c then a.then ρ f else b.then ρ f := by split <;> rfl
theorem seq_ite {c : Prop} [Decidable c] {a b : SR} {f : Env → Store → SR} : (if c then a else b).seq f = if c then a.seq f else b.seq f := by split <;> rfl
def negR (x : D) (L : Store) : R D := match x with
  | .int i => .ok (.int (-i)) L
  | _ => .bad
theorem negR_int {i : Int} {L : Store} : negR (.int i) L = .ok (.int (-i)) L := rfl
def notR (x : D) (L : Store) : R D := match x with
  | .bl b => .ok (.bl (!b)) L
  | _ => .bad
theorem notR_bl {b : Bool} {L : Store} : notR (.bl b) L = .ok (.bl (!b)) L := rfl
def boolR (x : D) (L : Store) : R D := match x with
  | .bl q => .ok (.bl q) L
  | _ => .bad
theorem boolR_bl {b : Bool} {L : Store} : boolR (.bl b) L = .ok (.bl b) L := rfl
def isNon : D → Bool
  | .non => true
  | _ => false
theorem isNon_non : isNon .non = true := rfl
theorem isNon_int {i : Int} : isNon (.int i) = false := rfl
theorem isNon_str {i : List Nat} : isNon (.str i) = false := rfl
theorem isNon_tup {i : List D} : isNon (.tup i) = false := rfl
theorem isNon_lst {i : List D} : isNon (.lst i) = false := rfl
theorem isNon_obj {i : Nat} : isNon (.obj i) = false := rfl
def sizR {α β : Type} (xs : List α) (r : R β) : R β := if xs.length ≤ big then r else .bad
theorem sizR_ok {α β : Type} {xs : List α} {r : R β} (h : xs.length ≤ 16777216) : sizR xs r = r := if_pos h
theorem sizR_0 {α β : Type} {r : R β} : sizR ([] : List α) r = r := rfl
theorem sizR_1 {α β : Type} {r : R β} {a : α} : sizR [a] r = r := rfl
theorem sizR_2 {α β : Type} {r : R β} {a b : α} : sizR [a, b] r = r := rfl
theorem sizR_3 {α β : Type} {r : R β} {a b c : α} : sizR [a, b, c] r = r := rfl
theorem sizR_4 {α β : Type} {r : R β} {a b c d : α} : sizR [a, b, c, d] r = r := rfl
theorem sizR_5 {α β : Type} {r : R β} {a b c d e : α} : sizR [a, b, c, d, e] r = r := rfl
theorem sizR_6 {α β : Type} {r : R β} {a b c d e f : α} : sizR [a, b, c, d, e, f] r = r := rfl
theorem sizR_7 {α β : Type} {r : R β} {a b c d e f g : α} : sizR [a, b, c, d, e, f, g] r = r := rfl
theorem sizR_8 {α β : Type} {r : R β} {a b c d e f g h : α} : sizR [a, b, c, d, e, f, g, h] r = r := rfl
def intR (x : D) (L : Store) : R (Option Int) := match x with
  | .int i => .ok (some i) L
  | _ => .bad
theorem intR_int {i : Int} {L : Store} : intR (.int i) L = .ok (some i) L := rfl
def tstR (x : D) (L : Store) : R Bool := match x with
  | .bl b => .ok b L
  | _ => .bad
theorem tstR_bl {b : Bool} {L : Store} : tstR (.bl b) L = .ok b L := rfl
def recvA (x : D) (L : Store) : R Unit := if recv .append x L then .ok () L else .bad
def recvL (o : Option O) (L : Store) : R Unit := match o with
  | some (.lst _) => .ok () L
  | _ => .bad
theorem recvL_lst {ds : List D} {L : Store} : recvL (some (.lst ds)) L = .ok () L := rfl
theorem recvA_obj {k : Nat} {L : Store} : recvA (.obj k) L = recvL L[k]? L := by
  cases h : L[k]? with
  | none => simp [recvA, recv, recvL, h]
  | some o => cases o <;> simp [recvA, recv, recvL, h]
def appR (x : D) (xs : List D) (L2 : Store) : R D := match x, xs with
  | .obj k, [y] => match L2[k]? with
      | some (.lst ds) => if ds.length < big then .ok .non (L2.set k (.lst (ds ++ [y]))) else .bad
      | _ => .bad
  | _, _ => .bad
def appL (o : Option O) (k : Nat) (y : D) (L : Store) : R D := match o with
  | some (.lst ds) => if ds.length < big then .ok .non (L.set k (.lst (ds ++ [y]))) else .bad
  | _ => .bad
theorem appL_ok {k : Nat} {y : D} {ds : List D} {L : Store} (h : ds.length < 16777216) : appL (some (.lst ds)) k y L = .ok .non (L.set k (.lst (ds ++ [y]))) := if_pos h
theorem appR_obj {k : Nat} {y : D} {L : Store} : appR (.obj k) [y] L = appL L[k]? k y L := rfl
def recvS (x : D) (r : Unit → R D) : R D := match x with
  | .str _ => r ()
  | _ => .bad
theorem recvS_str {t : List Nat} {r : Unit → R D} : recvS (.str t) r = r () := rfl
theorem recvS_cg {x x' : D} {r : Unit → R D} (h : x = x') : recvS x r = recvS x' r := by rw [h]
def xfR (o : Option (Option D)) (c : Nat) (L : Store) : R D := match o with
  | some (some (.exn c' d)) => if c' = c then .ok d L else .bad
  | _ => .bad
theorem xfR_ok {c : Nat} {d : D} {L : Store} : xfR (some (some (.exn c d))) c L = .ok d L := by
  unfold xfR
  simp only [if_true]
def tuprR (x : D) (L : Store) : R D := match x with
  | .int n => if 0 ≤ n ∧ n ≤ 16777216 then .ok (.tup (upto 0 n.toNat)) L else .bad
  | _ => .bad
theorem tuprR_int {i : Int} {L : Store} (h : 0 ≤ i) (h2 : i ≤ 16777216) : tuprR (.int i) L = .ok (.tup (upto 0 i.toNat)) L := if_pos ⟨h, h2⟩
def lstR (o : Option (List D)) (L : Store) : R (List D) := match o with
  | some ds => .ok ds L
  | none => .bad
theorem lstR_some {ds : List D} {L : Store} : lstR (some ds) L = .ok ds L := rfl
def valR (x : D) (L : Store) : R Wk := match x with
  | .lst ds => .ok (.vals ds) L
  | .tup ds => .ok (.vals ds) L
  | .ktup ds => .ok (.vals ds) L
  | .str a => .ok (.vals (signs a)) L
  | .obj k => match listOf L (.obj k) with
      | some _ => .ok (.obj k) L
      | none => .bad
  | _ => .bad
theorem valR_lst {ds : List D} {L : Store} : valR (.lst ds) L = .ok (.vals ds) L := rfl
def valO (o : Option O) (k : Nat) (L : Store) : R Wk := match o with
  | some (.lst _) => .ok (.obj k) L
  | _ => .bad
theorem valO_lst {k : Nat} {ds : List D} {L : Store} : valO (some (.lst ds)) k L = .ok (.obj k) L := rfl
theorem valR_obj {k : Nat} {L : Store} : valR (.obj k) L = valO L[k]? k L := by
  unfold valR valO listOf
  simp only
  generalize L[k]? = o
  rcases o with _ | o
  · rfl
  · cases o <;> rfl
theorem valR_tup {ds : List D} {L : Store} : valR (.tup ds) L = .ok (.vals ds) L := rfl
theorem valR_ktup {ds : List D} {L : Store} : valR (.ktup ds) L = .ok (.vals ds) L := rfl
theorem valR_str {t : List Nat} {L : Store} : valR (.str t) L = .ok (.vals (signs t)) L := rfl
def rngR (x : D) (L : Store) : R Wk := match x with
  | .int n => if n < 2 ^ 62 ∧ -(2 ^ 62) ≤ n then .ok (.vals (upto 0 n.toNat)) L else .bad
  | _ => .bad
theorem rngR_int {n : Int} {L : Store} (h : n < 4611686018427387904) (h2 : -4611686018427387904 ≤ n) : rngR (.int n) L = .ok (.vals (upto 0 n.toNat)) L := if_pos ⟨h, h2⟩
def rng2R (x y : D) (L : Store) : R Wk := match x, y with
  | .int m, .int n => if n < 2 ^ 62 ∧ -(2 ^ 62) ≤ n ∧ m < 2 ^ 62 ∧ -(2 ^ 62) ≤ m then .ok (.vals (upto m (n - m).toNat)) L else .bad
  | _, _ => .bad
theorem rng2R_int {m n : Int} {L : Store} (h : n < 4611686018427387904) (h2 : -4611686018427387904 ≤ n) (h3 : m < 4611686018427387904) (h4 : -4611686018427387904 ≤ m) : rng2R (.int m) (.int n) L = .ok (.vals (upto m (n - m).toNat)) L := if_pos ⟨h, h2, h3, h4⟩
def enumR (x : D) (L : Store) : R Wk := match x with
  | .lst ds => .ok (.vals (numbered 0 ds)) L
  | _ => .bad
theorem enumR_lst {ds : List D} {L : Store} : enumR (.lst ds) L = .ok (.vals (numbered 0 ds)) L := rfl
def zipR (x y : D) (L : Store) : R Wk := match x, y with
  | .lst p, .lst q => .ok (.vals (zipD p q)) L
  | x, y => match tupOf x, tupOf y with
      | some p, some q => .ok (.vals (zipD p q)) L
      | _, _ => .bad
theorem zipR_lst {p q : List D} {L : Store} : zipR (.lst p) (.lst q) L = .ok (.vals (zipD p q)) L := rfl
theorem zipR_tup {p q : List D} {L : Store} : zipR (.tup p) (.tup q) L = .ok (.vals (zipD p q)) L := rfl
def callvR (o : Option (Option D)) (n : Nat) (k : Nat → R D) : R D := match o with
  | some (some (.fn f)) => if f < n then k f else .bad
  | _ => .bad
theorem callvR_ok {f n : Nat} {k : Nat → R D} (h : f < n) : callvR (some (some (.fn f))) n k = k f := if_pos h
theorem callvR_cg {o o' : Option (Option D)} {n : Nat} {k : Nat → R D} (h : o = o') : callvR o n k = callvR o' n k := by rw [h]
def dnewR (ps : List (_root_.L2.Key × D)) (L : Store) : R D := if ps.length ≤ 15 then .ok (.obj L.length) (L ++ [.dK (ps.foldl (fun acc p => putK acc p.1 p.2) [])]) else .bad
def kBin2 (o : Bin) (x y : D) (L2 : Store) : R D := optR (binV L2 o x y) L2
def kBin1 (cf : Nat → List D → M D) (o : Bin) (b : E) (ρ : Env) (x : D) (L1 : Store) : R D := (evE cf b ρ L1).bind (kBin2 o x)
def kCmp2 (o : Cmp) (x y : D) (L2 : Store) : R D := blR (cmpV L2 o x y) L2
def kCmp1 (cf : Nat → List D → M D) (o : Cmp) (b : E) (ρ : Env) (x : D) (L1 : Store) : R D := (evE cf b ρ L1).bind (kCmp2 o x)
def kBool (y : D) (L2 : Store) : R D := boolR y L2
def kNot (x : D) (L1 : Store) : R D := notR x L1
def kNeg (x : D) (L1 : Store) : R D := negR x L1
def kCh3 (cf : Nat → List D → M D) (o2 : Cmp) (c : E) (ρ : Env) (y : D) (L3 : Store) : R D := (evE cf c ρ L3).bind (kCmp2 o2 y)
def kCh2 (cf : Nat → List D → M D) (o2 : Cmp) (c : E) (ρ : Env) (y : D) (q : D) (L3 : Store) : R D := condR q (fun _ => kCh3 cf o2 c ρ y L3) (fun _ => .ok (.bl false) L3)
def kCh1b (cf : Nat → List D → M D) (o1 o2 : Cmp) (c : E) (ρ : Env) (x y : D) (L2 : Store) : R D := (blR (cmpV L2 o1 x y) L2).bind (kCh2 cf o2 c ρ y)
def kCh1 (cf : Nat → List D → M D) (o1 o2 : Cmp) (b c : E) (ρ : Env) (x : D) (L1 : Store) : R D := (evE cf b ρ L1).bind (kCh1b cf o1 o2 c ρ x)
def kIsN (x : D) (L1 : Store) : R D := .ok (.bl (isNon x)) L1
def kNotN (x : D) (L1 : Store) : R D := .ok (.bl (!isNon x)) L1
def kAnd (cf : Nat → List D → M D) (b : E) (ρ : Env) (x : D) (L1 : Store) : R D := condR x (fun _ => (evE cf b ρ L1).bind kBool) (fun _ => .ok (.bl false) L1)
def kOr (cf : Nat → List D → M D) (b : E) (ρ : Env) (x : D) (L1 : Store) : R D := condR x (fun _ => .ok (.bl true) L1) (fun _ => (evE cf b ρ L1).bind kBool)
def kIfe (cf : Nat → List D → M D) (a b : E) (ρ : Env) (x : D) (L1 : Store) : R D := condR x (fun _ => evE cf a ρ L1) (fun _ => evE cf b ρ L1)
def kTup (xs : List D) (L1 : Store) : R D := sizR xs (.ok (.tup xs) L1)
def kFrz (xs : List D) (L1 : Store) : R D := .ok (.lst xs) L1
def kMut (xs : List D) (L1 : Store) : R D := .ok (.obj L1.length) (L1 ++ [.lst xs])
def kCall (cf : Nat → List D → M D) (f : Nat) (xs : List D) (L1 : Store) : R D := callF cf f xs L1
def kCallk (cf : Nat → List D → M D) (f : Nat) (xs : List D) (L1 : Store) : R D := callK cf f xs L1
def kCallv (cf : Nat → List D → M D) (es : Es) (ρ : Env) (L : Store) (f : Nat) : R D := (evEs cf es ρ L).bind (kCall cf f)
def kBi (o : Bi) (xs : List D) (L1 : Store) : R D := optR (biV L1 o xs) L1
def kMe2 (m : Me) (x : D) (xs : List D) (L2 : Store) : R D := optR (meV L2 m x xs) L2
def kMe1 (cf : Nat → List D → M D) (m : Me) (es : Es) (ρ : Env) (x : D) (L1 : Store) : R D := recvS x (fun _ => (evEs cf es ρ L1).bind (kMe2 m x))
def kAp3 (x : D) (xs : List D) (L2 : Store) : R D := appR x xs L2
def kAp2 (cf : Nat → List D → M D) (es : Es) (ρ : Env) (x : D) (_u : Unit) (L1 : Store) : R D := (evEs cf es ρ L1).bind (kAp3 x)
def kAp1 (cf : Nat → List D → M D) (es : Es) (ρ : Env) (x : D) (L1 : Store) : R D := (recvA x L1).bind (kAp2 cf es ρ x)
def kIx2 (x y : D) (L2 : Store) : R D := optR (ixV L2 x y) L2
def kIx1 (cf : Nat → List D → M D) (b : E) (ρ : Env) (x : D) (L1 : Store) : R D := (evE cf b ρ L1).bind (kIx2 x)
def kDg2 (x y : D) (L2 : Store) : R D := optR ((dictGet L2 x y).bind id) L2
def kDg1 (cf : Nat → List D → M D) (b : E) (ρ : Env) (x : D) (L1 : Store) : R D := (evE cf b ρ L1).bind (kDg2 x)
def kSl3 (x : D) (l : Option Int) (h : Option Int) (L3 : Store) : R D := optR (slV L3 x l h) L3
def kSl2 (cf : Nat → List D → M D) (hi : Oe) (ρ : Env) (x : D) (l : Option Int) (L2 : Store) : R D := (evO cf hi ρ L2).bind (kSl3 x l)
def kSl1 (cf : Nat → List D → M D) (lo hi : Oe) (ρ : Env) (x : D) (L1 : Store) : R D := (evO cf lo ρ L1).bind (kSl2 cf hi ρ x)
def kIsi (t : Ty) (x : D) (L1 : Store) : R D := blR (isiV t L1 x) L1
def kDnew (ps : List (_root_.L2.Key × D)) (L1 : Store) : R D := dnewR ps L1
def kTupr (x : D) (L1 : Store) : R D := tuprR x L1
def kEs2 (x : D) (xs : List D) (L2 : Store) : R (List D) := .ok (x :: xs) L2
def kEs1 (cf : Nat → List D → M D) (r : Es) (ρ : Env) (x : D) (L1 : Store) : R (List D) := (evEs cf r ρ L1).bind (kEs2 x)
def kInt (x : D) (L1 : Store) : R (Option Int) := intR x L1
def kTst (x : D) (L1 : Store) : R Bool := tstR x L1
def kK4 (q : _root_.L2.Key) (y : D) (ps : List (_root_.L2.Key × D)) (L3 : Store) : R (List (_root_.L2.Key × D)) := .ok ((q, y) :: ps) L3
def kK3 (cf : Nat → List D → M D) (k : Kvs) (ρ : Env) (y : D) (q : _root_.L2.Key) (L2 : Store) : R (List (_root_.L2.Key × D)) := (evK cf k ρ L2).bind (kK4 q y)
def kK2 (cf : Nat → List D → M D) (k : Kvs) (ρ : Env) (x y : D) (L2 : Store) : R (List (_root_.L2.Key × D)) := (optR (keyOf x) L2).bind (kK3 cf k ρ y)
def kK1 (cf : Nat → List D → M D) (b : E) (k : Kvs) (ρ : Env) (x : D) (L1 : Store) : R (List (_root_.L2.Key × D)) := (evE cf b ρ L1).bind (kK2 cf k ρ x)
def kDisp (xs : List D) (L1 : Store) : R (List D) := sizR xs (.ok xs L1)
def kLc (cf : Nat → List D → M D) (n : Bool) (a : E) (tg : Tg) (t : Oe) (own : List Nat) (ρ : Env) (w : Wk) (L1 : Store) : R (List D) := compW (turnE cf n a tg t own ρ) w L1
def kFs4 (l h : Option Int) (ds : List D) (L3 : Store) : R (List D) := .ok (cutL ds l h) L3
def kFs3 (x : D) (l : Option Int) (h : Option Int) (L3 : Store) : R (List D) := (lstR (listOf L3 x) L3).bind (kFs4 l h)
def kFs2 (cf : Nat → List D → M D) (hi : Oe) (ρ : Env) (x : D) (l : Option Int) (L2 : Store) : R (List D) := (evO cf hi ρ L2).bind (kFs3 x l)
def kFs1 (cf : Nat → List D → M D) (lo hi : Oe) (ρ : Env) (x : D) (L1 : Store) : R (List D) := (evO cf lo ρ L1).bind (kFs2 cf hi ρ x)
def kRev2 (ds : List D) (L3 : Store) : R (List D) := .ok ds.reverse L3
def kRev (x : D) (L1 : Store) : R (List D) := (lstR (listOf L1 x) L1).bind kRev2
def kCat4 (p q : List D) (L2 : Store) : R (List D) := sizR (p ++ q) (.ok (p ++ q) L2)
def kCat3 (y : D) (p : List D) (L2 : Store) : R (List D) := (lstR (listOf L2 y) L2).bind (kCat4 p)
def kCat2 (x y : D) (L2 : Store) : R (List D) := (lstR (listOf L2 x) L2).bind (kCat3 y)
def kCat1 (cf : Nat → List D → M D) (b : E) (ρ : Env) (x : D) (L1 : Store) : R (List D) := (evE cf b ρ L1).bind (kCat2 x)
def kLis (x : D) (L1 : Store) : R (List D) := lstR (seqOf L1 x) L1
def kVal (x : D) (L1 : Store) : R Wk := valR x L1
def kRng (x : D) (L1 : Store) : R Wk := rngR x L1
def kRng2b (x y : D) (L2 : Store) : R Wk := rng2R x y L2
def kRng2 (cf : Nat → List D → M D) (b : E) (ρ : Env) (x : D) (L1 : Store) : R Wk := (evE cf b ρ L1).bind (kRng2b x)
def kEnum (x : D) (L1 : Store) : R Wk := enumR x L1
def kZip2 (x y : D) (L2 : Store) : R Wk := zipR x y L2
def kZip1 (cf : Nat → List D → M D) (b : E) (ρ : Env) (x : D) (L1 : Store) : R Wk := (evE cf b ρ L1).bind (kZip2 x)
def kSome (x : D) (L3 : Store) : R (Option D) := .ok (some x) L3
def kTn2 (cf : Nat → List D → M D) (a : E) (ρ' : Env) (b : Bool) (L2 : Store) : R (Option D) := condR (.bl b) (fun _ => (evE cf a ρ' L2).bind kSome) (fun _ => .ok none L2)
def kTn1 (cf : Nat → List D → M D) (n : Bool) (a : E) (t : Oe) (ρ' : Env) (L : Store) : R (Option D) := noX n ((evT cf t ρ' L).bind (kTn2 cf a ρ'))
def jSeq (cf : Nat → List D → M D) (r : Ss) (ρ1 : Env) (L1 : Store) : SR := evSs cf r ρ1 L1
def jSet (ρ : Env) (i : Nat) (x : D) (L1 : Store) : SR := .next (ρ.set i (some x)) L1
def jPar (ρ : Env) (is : List Nat) (xs : List D) (L1 : Store) : SR := if xs.length = is.length then .next (setAll is xs ρ) L1 else .bad
def envS (o : Option Env) (L : Store) : SR := match o with
  | some ρ => .next ρ L
  | none => .bad
def setIxS (ρ : Env) (x y z : D) (L3 : Store) : SR := match y, z with
    | .obj k, .int n => match L3[k]? with
      | some (.lst ds) => match _root_.L2.ixN ds.length n with
        | some j => .next ρ (L3.set k (.lst (ds.set j x)))
        | none => .bad
      | _ => .bad
    | _, _ => .bad
def setIxO (ρ : Env) (x : D) (k : Nat) (n : Int) (o : Option O) (L3 : Store) : SR := match o with
      | some (.lst ds) => match _root_.L2.ixN ds.length n with
        | some j => .next ρ (L3.set k (.lst (ds.set j x)))
        | none => .bad
      | _ => .bad
theorem setIxS_obj {ρ : Env} {x : D} {k : Nat} {n : Int} {L : Store} : setIxS ρ x (.obj k) (.int n) L = setIxO ρ x k n L[k]? L := rfl
def setKS (ρ : Env) (x y z : D) (L3 : Store) : SR := match y with
    | .obj k => match L3[k]?, z with
      | some (.dK kvs), z => match keyOf z with
        | some q => if kvs.length < big then .next ρ (L3.set k (.dK (putK kvs q x))) else .bad
        | none => .bad
      | some (.dT kvs), .tup ds => match keysOf ds with
        | some q => if kvs.length < big then .next ρ (L3.set k (.dT (putK kvs q x))) else .bad
        | none => .bad
      | _, _ => .bad
    | _ => .bad
/-- one turn of a for -/
def bodyF (cf : Nat → List D → M D) (t : Tg) (b : Ss) : D → Env → Store → SR := fun d ρ L => match bindT t d ρ with
      | some ρ' => evSs cf b ρ' L
      | none => .bad
def setKO (ρ : Env) (x z : D) (k : Nat) (o : Option O) (L3 : Store) : SR := match o, z with
      | some (.dK kvs), z => match keyOf z with
        | some q => if kvs.length < big then .next ρ (L3.set k (.dK (putK kvs q x))) else .bad
        | none => .bad
      | some (.dT kvs), .tup ds => match keysOf ds with
        | some q => if kvs.length < big then .next ρ (L3.set k (.dT (putK kvs q x))) else .bad
        | none => .bad
      | _, _ => .bad
theorem setKS_obj {ρ : Env} {x z : D} {k : Nat} {L : Store} : setKS ρ x (.obj k) z L = setKO ρ x z k L[k]? L := rfl
theorem setKO_str {ρ : Env} {x : D} {k : Nat} {w : List Nat} {kvs : List (_root_.L2.Key × D)} {L : Store} (h : kvs.length < 16777216) : setKO ρ x (.str w) k (some (.dK kvs)) L = .next ρ (L.set k (.dK (putK kvs (.inr (SX.S w)) x))) := if_pos h
def jAsg (ρ : Env) (t : Tg) (x : D) (L1 : Store) : SR := envS (bindT t x ρ) L1
def jSx3 (ρ : Env) (x y z : D) (L3 : Store) : SR := setIxS ρ x y z L3
def jSx2 (cf : Nat → List D → M D) (ρ : Env) (i : E) (x y : D) (L2 : Store) : SR := (evE cf i ρ L2).then ρ (jSx3 ρ x y)
def jSx1 (cf : Nat → List D → M D) (ρ : Env) (o i : E) (x : D) (L1 : Store) : SR := (evE cf o ρ L1).then ρ (jSx2 cf ρ i x)
def jSk3 (ρ : Env) (x y z : D) (L3 : Store) : SR := setKS ρ x y z L3
def jSk2 (cf : Nat → List D → M D) (ρ : Env) (i : E) (x y : D) (L2 : Store) : SR := (evE cf i ρ L2).then ρ (jSk3 ρ x y)
def jSk1 (cf : Nat → List D → M D) (ρ : Env) (o i : E) (x : D) (L1 : Store) : SR := (evE cf o ρ L1).then ρ (jSk2 cf ρ i x)
def jEx (ρ : Env) (_x : D) (L1 : Store) : SR := .next ρ L1
def jIf (cf : Nat → List D → M D) (ρ : Env) (s1 s2 : Ss) (x : D) (L1 : Store) : SR := condS x (fun _ => evSs cf s1 ρ L1) (fun _ => evSs cf s2 ρ L1)
def jBody (cf : Nat → List D → M D) (s : Ss) (L : Store) (ρ' : Env) : SR := evSs cf s ρ' L
def jFor (cf : Nat → List D → M D) (ρ : Env) (t : Tg) (s : Ss) (w : Wk) (L1 : Store) : SR := forW (bodyF cf t s) w ρ L1
def jExc (n : Nat) (ρ : Env) (x : D) (L1 : Store) : SR := .exc n x ρ L1
section
variable {cf : Nat → List D → M D} {ρ : Env} {L : Store} {a b c : E} {es r : Es}
theorem x_slot {i : Nat} : evE cf (.slot i) ρ L = slotR ρ[i]? L := by simp only [evE]; unfold slotR; rfl
theorem x_cst {d : D} : evE cf (.cst d) ρ L = .ok d L := by simp only [evE]
theorem x_glob {d : D} : evE cf (.glob d) ρ L = .ok d L := by simp only [evE]
theorem x_fnv {f : Nat} : evE cf (.fnv f) ρ L = .ok (.fn f) L := by simp only [evE]
theorem wx_bin {o : Bin} : evE cf (.bin o a b) ρ L = (evE cf a ρ L).bind fun x L1 => (evE cf b ρ L1).bind fun y L2 => optR (binV L2 o x y) L2 := by simp only [evE]; rfl
theorem x_bin {o : Bin} : evE cf (.bin o a b) ρ L = (evE cf a ρ L).bind (kBin1 cf o b ρ) := wx_bin
theorem wx_neg : evE cf (.neg a) ρ L = (evE cf a ρ L).bind fun x L1 => negR x L1 := by
  simp only [evE]; congr 1
theorem x_neg : evE cf (.neg a) ρ L = (evE cf a ρ L).bind kNeg := wx_neg
theorem wx_not : evE cf (.not a) ρ L = (evE cf a ρ L).bind fun x L1 => notR x L1 := by
  simp only [evE]; congr 1
theorem x_not : evE cf (.not a) ρ L = (evE cf a ρ L).bind kNot := wx_not
theorem wx_cmp {o : Cmp} : evE cf (.cmp o a b) ρ L = (evE cf a ρ L).bind fun x L1 => (evE cf b ρ L1).bind fun y L2 => blR (cmpV L2 o x y) L2 := by
  simp only [evE, look]; congr 1; funext x L1; congr 1; funext y L2; cases cmpV L2 o x y <;> rfl
theorem x_cmp {o : Cmp} : evE cf (.cmp o a b) ρ L = (evE cf a ρ L).bind (kCmp1 cf o b ρ) := wx_cmp
theorem wx_chain {o1 o2 : Cmp} : evE cf (.chain o1 o2 a b c) ρ L = (evE cf a ρ L).bind fun x L1 => (evE cf b ρ L1).bind fun y L2 => (blR (cmpV L2 o1 x y) L2).bind fun q L3 => condR q (fun _ => (evE cf c ρ L3).bind fun z L4 => blR (cmpV L4 o2 y z) L4) (fun _ => .ok (.bl false) L3) := by
  simp only [evE, look]; congr 1; funext x L1; congr 1; funext y L2
  cases cmpV L2 o1 x y with
  | none => rfl
  | some q =>
    cases q with
    | false => rfl
    | true =>
      show (evE cf c ρ L2).bind _ = (evE cf c ρ L2).bind _
      congr 1; funext z L4
      cases cmpV L4 o2 y z <;> rfl
theorem x_chain {o1 o2 : Cmp} : evE cf (.chain o1 o2 a b c) ρ L = (evE cf a ρ L).bind (kCh1 cf o1 o2 b c ρ) := wx_chain
theorem wx_isN : evE cf (.isN a) ρ L = (evE cf a ρ L).bind fun x L1 => .ok (.bl (isNon x)) L1 := by
  simp only [evE]; congr 1
theorem x_isN : evE cf (.isN a) ρ L = (evE cf a ρ L).bind kIsN := wx_isN
theorem wx_notN : evE cf (.notN a) ρ L = (evE cf a ρ L).bind fun x L1 => .ok (.bl (!isNon x)) L1 := by
  simp only [evE]; congr 1; funext x L1; cases x <;> rfl
theorem x_notN : evE cf (.notN a) ρ L = (evE cf a ρ L).bind kNotN := wx_notN
theorem wx_and : evE cf (.and a b) ρ L = (evE cf a ρ L).bind fun x L1 => condR x (fun _ => (evE cf b ρ L1).bind fun y L2 => boolR y L2) (fun _ => .ok (.bl false) L1) := by
  simp only [evE]; congr 1
theorem x_and : evE cf (.and a b) ρ L = (evE cf a ρ L).bind (kAnd cf b ρ) := wx_and
theorem wx_or : evE cf (.or a b) ρ L = (evE cf a ρ L).bind fun x L1 => condR x (fun _ => .ok (.bl true) L1) (fun _ => (evE cf b ρ L1).bind fun y L2 => boolR y L2) := by
  simp only [evE]; congr 1
theorem x_or : evE cf (.or a b) ρ L = (evE cf a ρ L).bind (kOr cf b ρ) := wx_or
theorem wx_ife : evE cf (.ife c a b) ρ L = (evE cf c ρ L).bind fun x L1 => condR x (fun _ => evE cf a ρ L1) (fun _ => evE cf b ρ L1) := by
  simp only [evE]; congr 1
theorem x_ife : evE cf (.ife c a b) ρ L = (evE cf c ρ L).bind (kIfe cf a b ρ) := wx_ife
theorem wx_tup : evE cf (.tup es) ρ L = (evEs cf es ρ L).bind fun xs L1 => sizR xs (.ok (.tup xs) L1) := by simp only [evE]; rfl
theorem x_tup : evE cf (.tup es) ρ L = (evEs cf es ρ L).bind kTup := wx_tup
theorem wx_frz {f : F} : evE cf (.frz f) ρ L = (evF cf f ρ L).bind fun xs L1 => .ok (.lst xs) L1 := by simp only [evE]
theorem x_frz {f : F} : evE cf (.frz f) ρ L = (evF cf f ρ L).bind kFrz := wx_frz
theorem wx_mut {f : F} : evE cf (.mut f) ρ L = (evF cf f ρ L).bind fun xs L1 => .ok (.obj L1.length) (L1 ++ [.lst xs]) := by simp only [evE]
theorem x_mut {f : F} : evE cf (.mut f) ρ L = (evF cf f ρ L).bind kMut := wx_mut
theorem wx_call {f : Nat} : evE cf (.call f es) ρ L = (evEs cf es ρ L).bind fun xs L1 => callF cf f xs L1 := by simp only [evE]
theorem x_call {f : Nat} : evE cf (.call f es) ρ L = (evEs cf es ρ L).bind (kCall cf f) := wx_call
theorem wx_callk {f : Nat} : evE cf (.callk f es) ρ L = (evEs cf es ρ L).bind fun xs L1 => callK cf f xs L1 := by simp only [evE]
theorem x_callk {f : Nat} : evE cf (.callk f es) ρ L = (evEs cf es ρ L).bind (kCallk cf f) := wx_callk
theorem wx_callv {i n : Nat} : evE cf (.callv i n es) ρ L = callvR ρ[i]? n (fun f => (evEs cf es ρ L).bind fun xs L1 => callF cf f xs L1) := by
  simp only [evE]; unfold callvR; rfl
theorem x_callv {i n : Nat} : evE cf (.callv i n es) ρ L = callvR ρ[i]? n (kCallv cf es ρ L) := wx_callv
theorem wx_bi {o : Bi} : evE cf (.bi o es) ρ L = (evEs cf es ρ L).bind fun xs L1 => optR (biV L1 o xs) L1 := by simp only [evE]; rfl
theorem x_bi {o : Bi} : evE cf (.bi o es) ρ L = (evEs cf es ρ L).bind (kBi o) := wx_bi
theorem wx_meth {m : Me} (h : m ≠ .append) : evE cf (.meth m a es) ρ L = (evE cf a ρ L).bind fun x L1 => recvS x (fun _ => (evEs cf es ρ L1).bind fun xs L2 => optR (meV L2 m x xs) L2) := by
  simp only [evE]; congr 1; funext x L1
  cases m <;> first | (exact absurd rfl h) | (cases x <;> rfl)
theorem x_meth {m : Me} (h : m ≠ .append) : evE cf (.meth m a es) ρ L = (evE cf a ρ L).bind (kMe1 cf m es ρ) := wx_meth h
theorem wx_split : evE cf (.meth .split a es) ρ L = (evE cf a ρ L).bind fun x L1 => recvS x (fun _ => (evEs cf es ρ L1).bind fun xs L2 => optR (meV L2 .split x xs) L2) := wx_meth (by decide)
theorem x_split : evE cf (.meth .split a es) ρ L = (evE cf a ρ L).bind (kMe1 cf .split es ρ) := wx_split
theorem wx_join : evE cf (.meth .join a es) ρ L = (evE cf a ρ L).bind fun x L1 => recvS x (fun _ => (evEs cf es ρ L1).bind fun xs L2 => optR (meV L2 .join x xs) L2) := wx_meth (by decide)
theorem x_join : evE cf (.meth .join a es) ρ L = (evE cf a ρ L).bind (kMe1 cf .join es ρ) := wx_join
theorem wx_index : evE cf (.meth .index a es) ρ L = (evE cf a ρ L).bind fun x L1 => recvS x (fun _ => (evEs cf es ρ L1).bind fun xs L2 => optR (meV L2 .index x xs) L2) := wx_meth (by decide)
theorem x_index : evE cf (.meth .index a es) ρ L = (evE cf a ρ L).bind (kMe1 cf .index es ρ) := wx_index
theorem wx_append : evE cf (.meth .append a es) ρ L = (evE cf a ρ L).bind fun x L1 => (recvA x L1).bind fun _ L1 => (evEs cf es ρ L1).bind fun xs L2 => appR x xs L2 := by
  simp only [evE]; congr 1; funext x L1
  unfold recvA
  split
  · rename_i h
    show _ = (evEs cf es ρ L1).bind _
    congr 1; funext xs L2
    cases x with
    | obj k =>
      cases xs with
      | nil => rfl
      | cons y r => cases r <;> rfl
    | _ => simp [recv] at h
  · rfl
theorem x_append : evE cf (.meth .append a es) ρ L = (evE cf a ρ L).bind (kAp1 cf es ρ) := wx_append
theorem wx_ix : evE cf (.ix a b) ρ L = (evE cf a ρ L).bind fun x L1 => (evE cf b ρ L1).bind fun y L2 => optR (ixV L2 x y) L2 := by simp only [evE]; rfl
theorem x_ix : evE cf (.ix a b) ρ L = (evE cf a ρ L).bind (kIx1 cf b ρ) := wx_ix
theorem wx_dget : evE cf (.dget a b) ρ L = (evE cf a ρ L).bind fun x L1 => (evE cf b ρ L1).bind fun y L2 => optR ((dictGet L2 x y).bind id) L2 := by simp only [evE]; rfl
theorem x_dget : evE cf (.dget a b) ρ L = (evE cf a ρ L).bind (kDg1 cf b ρ) := wx_dget
theorem wx_sl {lo hi : Oe} : evE cf (.sl a lo hi) ρ L = (evE cf a ρ L).bind fun x L1 => (evO cf lo ρ L1).bind fun l L2 => (evO cf hi ρ L2).bind fun h L3 => optR (slV L3 x l h) L3 := by simp only [evE]; rfl
theorem x_sl {lo hi : Oe} : evE cf (.sl a lo hi) ρ L = (evE cf a ρ L).bind (kSl1 cf lo hi ρ) := wx_sl
theorem wx_isi {t : Ty} : evE cf (.isi a t) ρ L = (evE cf a ρ L).bind fun x L1 => blR (isiV t L1 x) L1 := by
  simp only [evE, look]; congr 1; funext x L1; cases isiV t L1 x <;> rfl
theorem x_isi {t : Ty} : evE cf (.isi a t) ρ L = (evE cf a ρ L).bind (kIsi t) := wx_isi
theorem wx_dnew {kvs : Kvs} : evE cf (.dnew false kvs) ρ L = (evK cf kvs ρ L).bind fun ps L1 => dnewR ps L1 := by simp only [evE]; rfl
theorem x_dnew {kvs : Kvs} : evE cf (.dnew false kvs) ρ L = (evK cf kvs ρ L).bind kDnew := wx_dnew
theorem x_xfld {i c : Nat} : evE cf (.xfld i c) ρ L = xfR ρ[i]? c L := by
  simp only [evE]; unfold xfR; rfl
theorem wx_tupr : evE cf (.tupr a) ρ L = (evE cf a ρ L).bind fun x L1 => tuprR x L1 := by
  simp only [evE]; congr 1
theorem x_tupr : evE cf (.tupr a) ρ L = (evE cf a ρ L).bind kTupr := wx_tupr
theorem x_nil : evEs cf .nil ρ L = .ok [] L := by simp only [evEs]
theorem wx_cons : evEs cf (.cons a r) ρ L = (evE cf a ρ L).bind fun x L1 => (evEs cf r ρ L1).bind fun xs L2 => .ok (x :: xs) L2 := by simp only [evEs]
theorem x_cons : evEs cf (.cons a r) ρ L = (evE cf a ρ L).bind (kEs1 cf r ρ) := wx_cons
theorem x_onone : evO cf .none ρ L = .ok none L := by simp only [evO]
theorem wx_osome : evO cf (.some a) ρ L = (evE cf a ρ L).bind fun x L1 => intR x L1 := by
  simp only [evO]; congr 1
theorem x_osome : evO cf (.some a) ρ L = (evE cf a ρ L).bind kInt := wx_osome
theorem x_tnone : evT cf .none ρ L = .ok true L := by simp only [evT]
theorem wx_tsome : evT cf (.some a) ρ L = (evE cf a ρ L).bind fun x L1 => tstR x L1 := by
  simp only [evT]; congr 1
theorem x_tsome : evT cf (.some a) ρ L = (evE cf a ρ L).bind kTst := wx_tsome
theorem x_knil : evK cf .nil ρ L = .ok [] L := by simp only [evK]
theorem wx_kcons {k : Kvs} : evK cf (.cons a b k) ρ L = (evE cf a ρ L).bind fun x L1 => (evE cf b ρ L1).bind fun y L2 => (optR (keyOf x) L2).bind fun q L2 => (evK cf k ρ L2).bind fun ps L3 => .ok ((q, y) :: ps) L3 := by
  simp only [evK]; congr 1; funext x L1; congr 1; funext y L2; cases keyOf x <;> rfl
theorem x_kcons {k : Kvs} : evK cf (.cons a b k) ρ L = (evE cf a ρ L).bind (kK1 cf b k ρ) := wx_kcons
theorem wx_disp : evF cf (.disp es) ρ L = (evEs cf es ρ L).bind fun xs L1 => sizR xs (.ok xs L1) := by simp only [evF]; rfl
theorem x_disp : evF cf (.disp es) ρ L = (evEs cf es ρ L).bind kDisp := wx_disp
theorem wx_lc {n : Bool} {tg : Tg} {it : It} {t : Oe} {own : List Nat} : evF cf (.lc n a tg it t own) ρ L = (evI cf it ρ L).bind fun w L1 => compW (turnE cf n a tg t own ρ) w L1 := by simp only [evF]; rfl
theorem x_lc {n : Bool} {tg : Tg} {it : It} {t : Oe} {own : List Nat} : evF cf (.lc n a tg it t own) ρ L = (evI cf it ρ L).bind (kLc cf n a tg t own ρ) := wx_lc
theorem wx_fsl {lo hi : Oe} : evF cf (.sl a lo hi) ρ L = (evE cf a ρ L).bind fun x L1 => (evO cf lo ρ L1).bind fun l L2 => (evO cf hi ρ L2).bind fun h L3 => (lstR (listOf L3 x) L3).bind fun ds L3 => .ok (cutL ds l h) L3 := by
  simp only [evF]; congr 1; funext x L1; congr 1; funext l L2; congr 1; funext h L3; cases listOf L3 x <;> rfl
theorem x_fsl {lo hi : Oe} : evF cf (.sl a lo hi) ρ L = (evE cf a ρ L).bind (kFs1 cf lo hi ρ) := wx_fsl
theorem wx_rev : evF cf (.rev a) ρ L = (evE cf a ρ L).bind fun x L1 => (lstR (listOf L1 x) L1).bind fun ds L3 => .ok ds.reverse L3 := by
  simp only [evF]; congr 1; funext x L1; cases listOf L1 x <;> rfl
theorem x_rev : evF cf (.rev a) ρ L = (evE cf a ρ L).bind kRev := wx_rev
theorem wx_cat : evF cf (.cat a b) ρ L = (evE cf a ρ L).bind fun x L1 => (evE cf b ρ L1).bind fun y L2 => (lstR (listOf L2 x) L2).bind fun p L2 => (lstR (listOf L2 y) L2).bind fun q L2 => sizR (p ++ q) (.ok (p ++ q) L2) := by
  simp only [evF]; congr 1; funext x L1; congr 1; funext y L2
  cases listOf L2 x with
  | none => rfl
  | some p =>
    cases h : listOf L2 y with
    | none => simp only [lstR, R.bind, h]
    | some q => simp only [lstR, R.bind, h]; unfold sizR; rw [List.length_append]
theorem x_cat : evF cf (.cat a b) ρ L = (evE cf a ρ L).bind (kCat1 cf b ρ) := wx_cat
theorem wx_lis : evF cf (.lis a) ρ L = (evE cf a ρ L).bind fun x L1 => lstR (seqOf L1 x) L1 := by
  simp only [evF]; congr 1
theorem x_lis : evF cf (.lis a) ρ L = (evE cf a ρ L).bind kLis := wx_lis
theorem wx_val : evI cf (.val a) ρ L = (evE cf a ρ L).bind fun x L1 => valR x L1 := by
  simp only [evI]; congr 1
theorem x_val : evI cf (.val a) ρ L = (evE cf a ρ L).bind kVal := wx_val
theorem wx_rng : evI cf (.range1 a) ρ L = (evE cf a ρ L).bind fun x L1 => rngR x L1 := by
  simp only [evI]; congr 1
theorem x_rng : evI cf (.range1 a) ρ L = (evE cf a ρ L).bind kRng := wx_rng
theorem wx_rng2 : evI cf (.range2 a b) ρ L = (evE cf a ρ L).bind fun x L1 => (evE cf b ρ L1).bind fun y L2 => rng2R x y L2 := by
  simp only [evI]; congr 1
theorem x_rng2 : evI cf (.range2 a b) ρ L = (evE cf a ρ L).bind (kRng2 cf b ρ) := wx_rng2
theorem wx_enum : evI cf (.enum a) ρ L = (evE cf a ρ L).bind fun x L1 => enumR x L1 := by
  simp only [evI]; congr 1
theorem x_enum : evI cf (.enum a) ρ L = (evE cf a ρ L).bind kEnum := wx_enum
theorem wx_zip : evI cf (.zip a b) ρ L = (evE cf a ρ L).bind fun x L1 => (evE cf b ρ L1).bind fun y L2 => zipR x y L2 := by
  simp only [evI]; congr 1
theorem x_zip : evI cf (.zip a b) ρ L = (evE cf a ρ L).bind (kZip1 cf b ρ) := wx_zip
theorem wx_turn {n : Bool} {tg : Tg} {t : Oe} {own : List Nat} {d : D} : turnE cf n a tg t own ρ d L = (optR (bindT tg d (wipeD ρ own)) L).bind fun ρ' L => noX n ((evT cf t ρ' L).bind fun b L2 => condR (.bl b) (fun _ => (evE cf a ρ' L2).bind fun x L3 => .ok (some x) L3) (fun _ => .ok none L2)) := by
  unfold turnE
  cases bindT tg d (wipeD ρ own) with
  | none => rfl
  | some ρ' =>
    show noX n _ = noX n _
    congr 1
    congr 1; funext b L2; cases b <;> rfl
theorem x_turn {n : Bool} {tg : Tg} {t : Oe} {own : List Nat} {d : D} : turnE cf n a tg t own ρ d L = (optR (bindT tg d (wipeD ρ own)) L).bind (kTn1 cf n a t) := wx_turn
theorem noX_ok {α : Type} {n : Bool} {x : α} {L : Store} : noX n (.ok x L) = .ok x L := rfl
theorem noX_ite {α : Type} {n : Bool} {c : Prop} [Decidable c] {p q : R α} : noX n (if c then p else q) = if c then noX n p else noX n q := by split <;> rfl
theorem noX_f {α : Type} {r : R α} : noX false r = r := by cases r <;> rfl
theorem x_comp {f : D → M (Option D)} {ds : List D} (h : ds.length ≤ 16777216) : compW f (.vals ds) L = compL f ds L := compW_vals h
theorem bindT_name {i : Nat} {d : D} : bindT (.name i) d ρ = some (ρ.set i (some d)) := by simp only [bindT]
theorem bindT_tup {ts : Tgs} {ds : List D} : bindT (.tup ts) (.tup ds) ρ = bindTs ts ds ρ := by simp only [bindT, tupOf]
theorem bindT_ktup {ts : Tgs} {ds : List D} : bindT (.tup ts) (.ktup ds) ρ = bindTs ts ds ρ := by simp only [bindT, tupOf]
theorem bindTs_nil : bindTs .nil [] ρ = some ρ := by simp only [bindTs]
theorem bindTs_cons {t : Tg} {ts : Tgs} {d : D} {ds : List D} : bindTs (.cons t ts) (d :: ds) ρ = (bindT t d ρ).bind fun ρ' => bindTs ts ds ρ' := by
  simp only [bindTs]; cases bindT t d ρ <;> rfl
theorem wipe_nil : wipeD ρ [] = ρ := by simp only [wipeD]
theorem wipe_cons {v : Nat} {vs : List Nat} : wipeD ρ (v :: vs) = (wipeD ρ vs).set v none := by simp only [wipeD]
/-! statements -/
theorem y_nil : evSs cf .nil ρ L = .next ρ L := by simp only [evSs]
theorem wy_cons {s : S} {r : Ss} : evSs cf (.cons s r) ρ L = (evS cf s ρ L).seq fun ρ1 L1 => evSs cf r ρ1 L1 := by simp only [evSs]
theorem y_cons {s : S} {r : Ss} : evSs cf (.cons s r) ρ L = (evS cf s ρ L).seq (jSeq cf r) := wy_cons
theorem wy_set {i : Nat} : evS cf (.set i a) ρ L = (evE cf a ρ L).then ρ fun x L1 => .next (ρ.set i (some x)) L1 := by simp only [evS]
theorem y_set {i : Nat} : evS cf (.set i a) ρ L = (evE cf a ρ L).then ρ (jSet ρ i) := wy_set
theorem wy_par {is : List Nat} : evS cf (.par is es) ρ L = (evEs cf es ρ L).then ρ fun xs L1 => if xs.length = is.length then .next (setAll is xs ρ) L1 else .bad := by simp only [evS]
theorem y_par {is : List Nat} : evS cf (.par is es) ρ L = (evEs cf es ρ L).then ρ (jPar ρ is) := wy_par
theorem envS_some : envS (some ρ) L = .next ρ L := rfl
theorem wy_asg {t : Tg} : evS cf (.asg t a) ρ L = (evE cf a ρ L).then ρ fun x L1 => envS (bindT t x ρ) L1 := by
  simp only [evS]; congr 1
theorem y_asg {t : Tg} : evS cf (.asg t a) ρ L = (evE cf a ρ L).then ρ (jAsg ρ t) := wy_asg
theorem wy_setIx {o i e : E} : evS cf (.setIx o i e) ρ L = (evE cf e ρ L).then ρ fun x L1 => (evE cf o ρ L1).then ρ fun y L2 => (evE cf i ρ L2).then ρ fun z L3 => setIxS ρ x y z L3 := by
  simp only [evS]; rfl
theorem y_setIx {o i e : E} : evS cf (.setIx o i e) ρ L = (evE cf e ρ L).then ρ (jSx1 cf ρ o i) := wy_setIx
theorem wy_setK {o i e : E} : evS cf (.setK o i e) ρ L = (evE cf e ρ L).then ρ fun x L1 => (evE cf o ρ L1).then ρ fun y L2 => (evE cf i ρ L2).then ρ fun z L3 => setKS ρ x y z L3 := by
  simp only [evS]; rfl
theorem y_setK {o i e : E} : evS cf (.setK o i e) ρ L = (evE cf e ρ L).then ρ (jSk1 cf ρ o i) := wy_setK
theorem wy_ex : evS cf (.ex a) ρ L = (evE cf a ρ L).then ρ fun _ L1 => .next ρ L1 := by simp only [evS]
theorem y_ex : evS cf (.ex a) ρ L = (evE cf a ρ L).then ρ (jEx ρ) := wy_ex
theorem wy_ife {s1 s2 : Ss} : evS cf (.ife a s1 s2) ρ L = (evE cf a ρ L).then ρ fun x L1 => condS x (fun _ => evSs cf s1 ρ L1) (fun _ => evSs cf s2 ρ L1) := by
  simp only [evS]; congr 1
theorem y_ife {s1 s2 : Ss} : evS cf (.ife a s1 s2) ρ L = (evE cf a ρ L).then ρ (jIf cf ρ s1 s2) := wy_ife
def envB (o : Option Env) (k : Env → SR) : SR := match o with
  | some ρ => k ρ
  | none => .bad
theorem envB_some {k : Env → SR} : envB (some ρ) k = k ρ := rfl
theorem envB_cg {o o' : Option Env} {k : Env → SR} (h : o = o') : envB o k = envB o' k := by rw [h]
theorem wy_body {t : Tg} {s : Ss} {d : D} : bodyF cf t s d ρ L = envB (bindT t d ρ) fun ρ' => evSs cf s ρ' L := by
  unfold bodyF envB; rfl
theorem y_body {t : Tg} {s : Ss} {d : D} : bodyF cf t s d ρ L = envB (bindT t d ρ) (jBody cf s L) := wy_body
theorem wy_for {t : Tg} {it : It} {s : Ss} : evS cf (.for_ t it s) ρ L = (evI cf it ρ L).then ρ fun w L1 => forW (bodyF cf t s) w ρ L1 := by simp only [evS]; rfl
theorem y_for {t : Tg} {it : It} {s : Ss} : evS cf (.for_ t it s) ρ L = (evI cf it ρ L).then ρ (jFor cf ρ t s) := wy_for
theorem y_forW {b : D → Env → Store → SR} {ds : List D} : forW b (.vals ds) ρ L = forL b ds ρ L := forW_vals
def SR.loop (r : SR) (f : Env → Store → SR) : SR := match r with
    | .next ρ1 L1 => f ρ1 L1
    | .cont ρ1 L1 => f ρ1 L1
    | .brk ρ1 L1 => .next ρ1 L1
    | r => r
theorem loop_cg {r r' : SR} {f : Env → Store → SR} (h : r = r') : SR.loop r f = SR.loop r' f := by rw [h]
theorem loop_next {f : Env → Store → SR} : (SR.next ρ L).loop f = f ρ L := rfl
theorem loop_cont {f : Env → Store → SR} : (SR.cont ρ L).loop f = f ρ L := rfl
theorem loop_brk {f : Env → Store → SR} : (SR.brk ρ L).loop f = .next ρ L := rfl
theorem loop_ret {f : Env → Store → SR} {d : D} : (SR.ret d L).loop f = .ret d L := rfl
theorem loop_exc {f : Env → Store → SR} {c : Nat} {d : D} : (SR.exc c d ρ L).loop f = .exc c d ρ L := rfl
theorem loop_ite {c : Prop} [Decidable c] {p q : SR} {f : Env → Store → SR} : (if c then p else q).loop f = if c then p.loop f else q.loop f := by split <;> rfl
theorem wy_turn {b : D → Env → Store → SR} {d : D} {ds : List D} : forL b (d :: ds) ρ L = (b d ρ L).loop fun ρ1 L1 => forL b ds ρ1 L1 := by
  rw [forL_cons]; unfold SR.loop; cases b d ρ L <;> rfl
theorem y_turn {b : D → Env → Store → SR} {d : D} {ds : List D} : forL b (d :: ds) ρ L = (b d ρ L).loop (forL b ds) := wy_turn
theorem y_done {b : D → Env → Store → SR} : forL b [] ρ L = .next ρ L := rfl
theorem wy_ret : evS cf (.ret a) ρ L = (evE cf a ρ L).then ρ fun x L1 => .ret x L1 := by simp only [evS]
theorem y_ret : evS cf (.ret a) ρ L = (evE cf a ρ L).then ρ SR.ret := wy_ret
theorem y_retN : evS cf .retN ρ L = .ret .non L := by simp only [evS]
theorem wy_raise {n : Nat} : evS cf (.raise n a) ρ L = (evE cf a ρ L).then ρ fun x L1 => .exc n x ρ L1 := by simp only [evS]
theorem y_raise {n : Nat} : evS cf (.raise n a) ρ L = (evE cf a ρ L).then ρ (jExc n ρ) := wy_raise
theorem y_pass : evS cf .pass ρ L = .next ρ L := by simp only [evS]
theorem y_brk : evS cf .brk ρ L = .brk ρ L := by simp only [evS]
theorem y_cont : evS cf .cont ρ L = .cont ρ L := by simp only [evS]
def tryS (r : SR) (h : Nat → D → Env → Store → SR) : SR := match r with
    | .exc c d ρ1 L1 => h c d ρ1 L1
    | r => r
theorem tryS_cg {r r' : SR} {h : Nat → D → Env → Store → SR} (e : r = r') : tryS r h = tryS r' h := by rw [e]
theorem tryS_exc {h : Nat → D → Env → Store → SR} {c : Nat} {d : D} : tryS (.exc c d ρ L) h = h c d ρ L := rfl
theorem tryS_ret {h : Nat → D → Env → Store → SR} {d : D} : tryS (.ret d L) h = .ret d L := rfl
theorem tryS_next {h : Nat → D → Env → Store → SR} : tryS (.next ρ L) h = .next ρ L := rfl
theorem wy_try {s : Ss} {hs : Hs} : evS cf (.try_ s hs) ρ L = tryS (evSs cf s ρ L) fun c d ρ1 L1 => evHs cf hs c d ρ1 L1 := by
  simp only [evS]; unfold tryS; rfl
theorem y_try {s : Ss} {hs : Hs} : evS cf (.try_ s hs) ρ L = tryS (evSs cf s ρ L) (evHs cf hs) := wy_try
def endH (r : SR) : SR := match r with
  | .ret x L1 => if x.pure && storeP L1 then .ret x L1 else .bad
  | _ => .bad
theorem endH_ret {d : D} (h : d.pure = true) (k : storeP L = true) : endH (.ret d L) = .ret d L := by
  unfold endH; simp only; rw [if_pos]; rw [h, k]; rfl
theorem y_hs {n c c' j : Nat} {s : Ss} {r : Hs} {d : D} (h : c < n) : evHs cf (.cons n c' (some j) s r) c d ρ L = if c = c' then endH (evSs cf s (ρ.set j (some (.exn c d))) L) else evHs cf r c d ρ L := by
  simp only [evHs, if_pos h]; rfl
end
theorem run_to {fs : List Fd} {n f : Nat} (F : Fd) {xs : List D} {L : Store} {Y : R D} (hf : fs[f]? = some F) (hl : xs.length = F.np) (h : retS (evSs (evFn fs n) F.body (startD F.nl xs) L) = Y) : evFn fs (n + 1) f xs L = Y := run_fn hf hl rfl h
theorem retS_next {ρ : Env} {L : Store} : retS (.next ρ L) = .ok .non L := rfl
theorem retS_ret {d : D} {L : Store} : retS (.ret d L) = .ok d L := rfl
theorem retS_exc {c : Nat} {d : D} {ρ : Env} {L : Store} : retS (.exc c d ρ L) = .exc c d L := rfl
theorem retS_ite {c : Prop} [Decidable c] {p q : SR} : retS (if c then p else q) = if c then retS p else retS q := by split <;> rfl
end EV
end

section
set_option autoImplicit false
/-! The operators' values, lemma by lemma (printed by gso.py). -/
namespace EV
open PySem
section
variable {L : Store}
theorem o_isi_int_non : isiV .int L .non = some false := rfl
theorem o_isi_int_bl {v : Bool} : isiV .int L (.bl v) = some true := rfl
theorem o_isi_int_int {v : Int} : isiV .int L (.int v) = some true := rfl
theorem o_isi_int_str {v : List Nat} : isiV .int L (.str v) = some false := rfl
theorem o_isi_int_tup {v : List D} : isiV .int L (.tup v) = some false := rfl
theorem o_isi_int_ktup {v : List D} : isiV .int L (.ktup v) = some false := rfl
theorem o_isi_int_lst {v : List D} : isiV .int L (.lst v) = some false := rfl
theorem o_isi_str_non : isiV .str L .non = some false := rfl
theorem o_isi_str_bl {v : Bool} : isiV .str L (.bl v) = some false := rfl
theorem o_isi_str_int {v : Int} : isiV .str L (.int v) = some false := rfl
theorem o_isi_str_str {v : List Nat} : isiV .str L (.str v) = some true := rfl
theorem o_isi_str_tup {v : List D} : isiV .str L (.tup v) = some false := rfl
theorem o_isi_str_ktup {v : List D} : isiV .str L (.ktup v) = some false := rfl
theorem o_isi_str_lst {v : List D} : isiV .str L (.lst v) = some false := rfl
theorem o_isi_bool_non : isiV .bool L .non = some false := rfl
theorem o_isi_bool_bl {v : Bool} : isiV .bool L (.bl v) = some true := rfl
theorem o_isi_bool_int {v : Int} : isiV .bool L (.int v) = some false := rfl
theorem o_isi_bool_str {v : List Nat} : isiV .bool L (.str v) = some false := rfl
theorem o_isi_bool_tup {v : List D} : isiV .bool L (.tup v) = some false := rfl
theorem o_isi_bool_ktup {v : List D} : isiV .bool L (.ktup v) = some false := rfl
theorem o_isi_bool_lst {v : List D} : isiV .bool L (.lst v) = some false := rfl
theorem o_isi_tuple_non : isiV .tuple L .non = some false := rfl
theorem o_isi_tuple_bl {v : Bool} : isiV .tuple L (.bl v) = some false := rfl
theorem o_isi_tuple_int {v : Int} : isiV .tuple L (.int v) = some false := rfl
theorem o_isi_tuple_str {v : List Nat} : isiV .tuple L (.str v) = some false := rfl
theorem o_isi_tuple_tup {v : List D} : isiV .tuple L (.tup v) = some true := rfl
theorem o_isi_tuple_ktup {v : List D} : isiV .tuple L (.ktup v) = some true := rfl
theorem o_isi_tuple_lst {v : List D} : isiV .tuple L (.lst v) = some false := rfl
theorem o_isi_list_non : isiV .list L .non = some false := rfl
theorem o_isi_list_bl {v : Bool} : isiV .list L (.bl v) = some false := rfl
theorem o_isi_list_int {v : Int} : isiV .list L (.int v) = some false := rfl
theorem o_isi_list_str {v : List Nat} : isiV .list L (.str v) = some false := rfl
theorem o_isi_list_tup {v : List D} : isiV .list L (.tup v) = some false := rfl
theorem o_isi_list_ktup {v : List D} : isiV .list L (.ktup v) = some false := rfl
theorem o_isi_list_lst {v : List D} : isiV .list L (.lst v) = some true := rfl
theorem o_add_ii {i j : Int} : binV L .add (.int i) (.int j) = some (.int (i + j)) := rfl
theorem o_sub_ii {i j : Int} : binV L .sub (.int i) (.int j) = some (.int (i - j)) := rfl
theorem o_add_ss {a b : List Nat} (h : a.length + b.length ≤ 16777216) : binV L .add (.str a) (.str b) = some (.str (a ++ b)) := if_pos h
theorem o_add_tt {a b : List D} (h : a.length + b.length ≤ 16777216) : binV L .add (.tup a) (.tup b) = some (.tup (a ++ b)) := if_pos h
theorem o_add_ll {a b : List D} (h : a.length + b.length ≤ 16777216) : binV L .add (.lst a) (.lst b) = some (.lst (a ++ b)) := if_pos h
theorem o_mul_il {i j : Int} (h : -18446744073709551616 < j) (h2 : j < 18446744073709551616) : binV L .mul (.int i) (.int j) = some (.int (i * j)) := if_pos (by unfold cmul; rw [Bool.or_eq_true]; right; rw [Bool.and_eq_true, decide_eq_true_eq, decide_eq_true_eq]; exact ⟨h, h2⟩)
theorem o_mul_ir {i j : Int} (h : -18446744073709551616 < i) (h2 : i < 18446744073709551616) : binV L .mul (.int i) (.int j) = some (.int (i * j)) := if_pos (by unfold cmul; rw [Bool.or_eq_true]; left; rw [Bool.and_eq_true, decide_eq_true_eq, decide_eq_true_eq]; exact ⟨h, h2⟩)
theorem o_pow_ii {i j : Int} (h : 0 ≤ j) (h2 : j ≤ 1000000) (h3 : i.natAbs < 18446744073709551616) : binV L .pow (.int i) (.int j) = some (.int (i ^ j.toNat)) := if_pos ⟨h, h2, h3⟩
def dictG (o : Option O) (k : D) : Option (Option D) := match o, k with
  | some (.dK kvs), k => match keyOf k with
      | some q => some (valK kvs q)
      | none => none
  | some (.dT kvs), .tup ds => match keysOf ds with
      | some q => some (valK kvs q)
      | none => none
  | _, _ => none
theorem o_dget {k : Nat} {x : D} : dictGet L (.obj k) x = dictG L[k]? x := rfl
theorem dictG_str {kvs : List (_root_.L2.Key × D)} {w : List Nat} : dictG (some (.dK kvs)) (.str w) = some (valK kvs (.inr (SX.S w))) := rfl
theorem dictG_int {kvs : List (_root_.L2.Key × D)} {i : Int} : dictG (some (.dK kvs)) (.int i) = some (valK kvs (.inl i)) := rfl
theorem keyOf_s {w : List Nat} : keyOf (.str w) = some (.inr (SX.S w)) := rfl
theorem keyOf_i {i : Int} : keyOf (.int i) = some (.inl i) := rfl
theorem getset {p : Nat} {x : O} (h : p < L.length) : (L.set p x)[p]? = some x := List.getElem?_set_self h
theorem dnewR_3 {a b c : _root_.L2.Key × D} : dnewR [a, b, c] L = .ok (.obj L.length) (L ++ [.dK (putK (putK (putK [] a.1 a.2) b.1 b.2) c.1 c.2)]) := rfl
theorem o_mod_ii {i j : Int} (h : 0 < j) : binV L .mod (.int i) (.int j) = some (.int (i % j)) := if_pos h
theorem o_fdiv_ii {i j : Int} (h : 0 < j) (h2 : j < 1073741824) : binV L .fdiv (.int i) (.int j) = some (.int (i / j)) := if_pos ⟨h, h2⟩
theorem o_eq_int {a b : Int} : cmpV L .eq (.int a) (.int b) = some (decide (a = b)) := rfl
theorem o_eq_str {a b : List Nat} : cmpV L .eq (.str a) (.str b) = some (decide (a = b)) := rfl
theorem o_eq_bl {a b : Bool} : cmpV L .eq (.bl a) (.bl b) = some (decide (a = b)) := rfl
theorem o_ne_int {a b : Int} : cmpV L .ne (.int a) (.int b) = some (!decide (a = b)) := rfl
theorem o_ne_str {a b : List Nat} : cmpV L .ne (.str a) (.str b) = some (!decide (a = b)) := rfl
theorem o_ne_bl {a b : Bool} : cmpV L .ne (.bl a) (.bl b) = some (!decide (a = b)) := rfl
theorem o_lt_i {a b : Int} : cmpV L .lt (.int a) (.int b) = some (decide (a < b)) := rfl
theorem o_le_i {a b : Int} : cmpV L .le (.int a) (.int b) = some (decide (a ≤ b)) := rfl
theorem o_gt_i {a b : Int} : cmpV L .gt (.int a) (.int b) = some (decide (b < a)) := rfl
theorem o_ge_i {a b : Int} : cmpV L .ge (.int a) (.int b) = some (decide (b ≤ a)) := rfl
theorem o_in_s {c : Nat} {t : List Nat} : cmpV L .isin (.str [c]) (.str t) = some (decide (c ∈ t)) := rfl
theorem o_nin_s {c : Nat} {t : List Nat} : cmpV L .notin (.str [c]) (.str t) = some (!decide (c ∈ t)) := rfl
theorem noobj_der {d : D} (h : d.shp 64 = true) : derf L d = d := by cases d <;> first | rfl | (simp [D.shp] at h)
theorem eqV_shp {x y : D} (hx : x.shp 64 = true) (hy : y.shp 64 = true) : eqV L x y = some (x.eqv y) := by
  unfold eqV
  split
  · simp only [D.eqv]; rfl
  · simp only [D.eqv]; rw [Bool.beq_eq_decide_eq]
  · simp only [D.eqv]; rfl
  · rw [noobj_der hx, noobj_der hy, hx, hy]; rfl
theorem o_eq_d {x y : D} (hx : x.shp 64 = true) (hy : y.shp 64 = true) : cmpV L .eq x y = some (x.eqv y) := eqV_shp hx hy
theorem o_ne_d {x y : D} (hx : x.shp 64 = true) (hy : y.shp 64 = true) : cmpV L .ne x y = some (!x.eqv y) := by
  unfold cmpV; simp only [eqV_shp hx hy]
theorem o_len_s {t : List Nat} (h : t.length ≤ 16777216) : biV L .len [.str t] = some (.int t.length) := if_pos h
theorem o_len_t {ds : List D} : biV L .len [.tup ds] = some (.int ds.length) := rfl
theorem o_len_kt {ds : List D} : biV L .len [.ktup ds] = some (.int ds.length) := rfl
theorem o_len_l {ds : List D} : biV L .len [.lst ds] = some (.int ds.length) := rfl
theorem o_tup_l {ds : List D} : biV L .tuple [.lst ds] = some (.tup ds) := rfl
theorem o_tup_t {ds : List D} : biV L .tuple [.tup ds] = some (.tup ds) := rfl
def oTup (o : Option O) : Option D := match o with
  | some (.lst ds) => some (.tup ds)
  | _ => none
def oLen (o : Option O) : Option D := match o with
  | some (.lst ds) => some (.int ds.length)
  | some (.dK kvs) => some (.int kvs.length)
  | _ => none
def oIx (o : Option O) (i : Int) : Option D := match o with
  | some (.lst ds) => L2.atI ds i
  | _ => none
def oLst (o : Option O) : Option (List D) := match o with
  | some (.lst ds) => some ds
  | _ => none
theorem oTup_l {ds : List D} : oTup (some (.lst ds)) = some (.tup ds) := rfl
theorem oLen_l {ds : List D} : oLen (some (.lst ds)) = some (.int ds.length) := rfl
theorem oIx_l {ds : List D} {i : Int} : oIx (some (.lst ds)) i = L2.atI ds i := rfl
theorem oLst_l {ds : List D} : oLst (some (.lst ds)) = some ds := rfl
theorem o_tup_o {k : Nat} : biV L .tuple [.obj k] = oTup L[k]? := by unfold biV seqOf listOf oTup; simp only; generalize L[k]? = o; rcases o with _ | (_ | _ | _) <;> rfl
theorem o_len_o {k : Nat} : biV L .len [.obj k] = oLen L[k]? := by unfold biV seqOf listOf oLen; simp only; generalize L[k]? = o; rcases o with _ | (_ | _ | _) <;> rfl
theorem o_all {α : Type} {g : α → Bool} {l : List α} : biV L .all [.lst (l.map fun i => .bl (g i))] = some (.bl (l.all g)) := by unfold biV; simp only [listOf, blsOf_map, List.all_map]; rfl
theorem o_any {α : Type} {g : α → Bool} {l : List α} : biV L .any [.lst (l.map fun i => .bl (g i))] = some (.bl (l.any g)) := by unfold biV; simp only [listOf, blsOf_map, List.any_map]; rfl
theorem o_str_i {i : Int} (h : 0 ≤ i ∧ i.natAbs.log2 < 1920) : biV L .str [.int i] = some (.str (TL.numL i.toNat)) := if_pos h
theorem o_int_i {i : Int} : biV L .int [.int i] = some (.int i) := rfl
theorem strsOf_map {α : Type} (g : α → List Nat) : ∀ l : List α, strsOf (l.map fun i => .str (g i)) = some (l.map g)
  | [] => rfl
  | a :: l => by rw [List.map_cons, strsOf, strsOf_map g l]; rfl
theorem intsOf_map {α : Type} (g : α → Int) : ∀ l : List α, intsOf (l.map fun i => .int (g i)) = some (l.map g)
  | [] => rfl
  | a :: l => by rw [List.map_cons, intsOf, intsOf_map g l]; rfl
theorem o_sum {l : List Int} : biV L .sum [.lst (l.map .int)] = some (.int l.sum) := by unfold biV; simp only [listOf, intsOf_map id, List.map_id, show l.map D.int = l.map (fun i => .int (id i)) from rfl]
theorem o_join {α : Type} {g : α → List Nat} {l : List α} {s : List Nat} (h : lens (l.map g) + s.length * l.length ≤ 16777216) : meV L .join (.str s) [.lst (l.map fun i => .str (g i))] = some (.str (TL.joinL s (l.map g))) := by unfold meV; simp only [seqOf, listOf, strsOf_map, List.length_map]; exact if_pos h
theorem o_join_t {α : Type} {g : α → List Nat} {l : List α} {s : List Nat} (h : lens (l.map g) + s.length * l.length ≤ 16777216) : meV L .join (.str s) [.tup (l.map fun i => .str (g i))] = some (.str (TL.joinL s (l.map g))) := by unfold meV; simp only [seqOf, listOf, strsOf_map, List.length_map]; exact if_pos h
theorem o_split {t : List Nat} {c : Nat} (hc : c < 256) (h : t.length + 2 ≤ 16777216) : meV L .split (.str t) [.str [c]] = some (.lst ((TL.spl [c] 0 [] t).map .str)) := by unfold meV; exact if_pos ⟨by simp, by simpa using hc, h⟩
theorem atI_0 {α : Type} {a : α} {r : List α} : L2.atI (a :: r) 0 = some a := L2.atI_nat (j := 0) rfl
theorem atI_1 {α : Type} {a b : α} {r : List α} : L2.atI (a :: b :: r) 1 = some b := L2.atI_nat (j := 1) rfl
theorem atI_2 {α : Type} {a b c : α} {r : List α} : L2.atI (a :: b :: c :: r) 2 = some c := L2.atI_nat (j := 2) rfl
theorem atI_3 {α : Type} {a b c d : α} {r : List α} : L2.atI (a :: b :: c :: d :: r) 3 = some d := L2.atI_nat (j := 3) rfl
theorem o_ix_t {ds : List D} {i : Int} : ixV L (.tup ds) (.int i) = L2.atI ds i := rfl
theorem o_ix_kt {ds : List D} {i : Int} : ixV L (.ktup ds) (.int i) = L2.atI ds i := rfl
theorem o_ix_l {ds : List D} {i : Int} : ixV L (.lst ds) (.int i) = L2.atI ds i := rfl
theorem o_ix_o {k : Nat} {i : Int} : ixV L (.obj k) (.int i) = oIx L[k]? i := by unfold ixV seqOf listOf oIx; simp only; generalize L[k]? = o; rcases o with _ | (_ | _ | _) <;> rfl
theorem o_ix_s {t : List Nat} {i : Int} {c : Nat} (h : t.length ≤ 16777216) (hc : L2.atI t i = some c) : ixV L (.str t) (.int i) = some (.str [c]) := by unfold ixV; simp only [if_pos (show t.length ≤ big from h), hc]
theorem o_sl_s {t : List Nat} {lo hi : Option Int} (h : t.length ≤ 16777216) : slV L (.str t) lo hi = some (.str (cutL t lo hi)) := if_pos h
theorem o_sl_t {t : List D} {lo hi : Option Int} : slV L (.tup t) lo hi = some (.tup (cutL t lo hi)) := rfl
theorem o_sl_l {t : List D} {lo hi : Option Int} : slV L (.lst t) lo hi = some (.lst (cutL t lo hi)) := rfl
theorem o_lof_l {t : List D} : listOf L (.lst t) = some t := rfl
theorem o_sof_l {t : List D} : seqOf L (.lst t) = some t := rfl
theorem o_sof_t {t : List D} : seqOf L (.tup t) = some t := rfl
theorem o_lof_o {k : Nat} : listOf L (.obj k) = oLst L[k]? := rfl
theorem join_opt {c : Prop} [Decidable c] {a b : Option D} : (if c then R.ok a L else R.ok b L) = R.ok (if c then a else b) L := by split <;> rfl
theorem ne_nil_s {α : Type} {k : α → List Nat} {l : List α} : cmpV L .ne (.lst (l.map fun c => .str (k c))) (.lst []) = some (!l.isEmpty) := by
  have h : shpAll 63 (l.map fun c => D.str (k c)) = true := shp_of 63 _ (fun _ => by unfold D.shp; rfl) l
  unfold cmpV eqV
  simp only [derf, D.shp, h, shpAll, Bool.and_self, if_true, D.eqv]
  cases l <;> rfl
theorem ne_nil_i {α : Type} {k : α → Int} {l : List α} : cmpV L .ne (.lst (l.map fun c => .int (k c))) (.lst []) = some (!l.isEmpty) := by
  have h : shpAll 63 (l.map fun c => D.int (k c)) = true := shp_of 63 _ (fun _ => by unfold D.shp; rfl) l
  unfold cmpV eqV
  simp only [derf, D.shp, h, shpAll, Bool.and_self, if_true, D.eqv]
  cases l <;> rfl
theorem ne_nil_n : cmpV L .ne (.lst []) (.lst []) = some false := by
  have := @ne_nil_i L Unit (fun _ => 0) []
  exact this
theorem upto_z {a : Int} : upto a 0 = [] := rfl
theorem isEmpty_filt {α : Type} {g : α → Bool} {l : List α} : (l.filter fun a => !g a).isEmpty = l.all g := by
  induction l with
  | nil => rfl
  | cons a l ih => rw [List.filter_cons, List.all_cons]; cases g a <;> simp [ih]
theorem signs_mp {t : List Nat} : signs t = t.map fun c => .str [c] := rfl
theorem cst0 : ((0 : Nat) : Int) = 0 := rfl
theorem cst1 : ((1 : Nat) : Int) = 1 := rfl
theorem cst2 : ((2 : Nat) : Int) = 2 := rfl
theorem cst3 : ((3 : Nat) : Int) = 3 := rfl
theorem cst4 : ((4 : Nat) : Int) = 4 := rfl
theorem cst5 : ((5 : Nat) : Int) = 5 := rfl
theorem cst6 : ((6 : Nat) : Int) = 6 := rfl
end
end EV
end

section
set_option autoImplicit false
/-! Loops behind the evaluator run by simp. -/
namespace EV
open PySem
/-- a loop that looks at each and goes on, or hands back -/
theorem ret_all {b : D → Env → Store → SR} {α : Type} {k : α → D} (g : α → Bool) (P : Env → Prop) (x : D) {L : Store} {l : List α} {ρ : Env} {K : Env → Store → SR} {Y : R D}
    (hp : P ρ) (h : ∀ a ∈ l, ∀ ρ, P ρ → ∃ ρ', P ρ' ∧ b (k a) ρ L = if g a = true then .next ρ' L else .ret x L)
    (h1 : l.all g = true → ∀ ρ, P ρ → retS (K ρ L) = Y) (h2 : l.all g = false → .ok x L = Y) : retS ((forL b (l.map k) ρ L).seq K) = Y := by
  obtain ⟨a1, a2⟩ := for_all (b := b) (k := k) (g := g) (P := P) (L := L) (x := x) (fun a ha ρ hr => by
    obtain ⟨ρ', p', e'⟩ := h a ha ρ hr
    exact ⟨fun e => ⟨ρ', p', by rw [e', if_pos e]⟩, fun e => by rw [e', if_neg (by rw [e]; decide)]⟩) hp
  cases e : l.all g with
  | true =>
    obtain ⟨ρ', p', e'⟩ := a1 e
    rw [e', seq_next]
    exact h1 e ρ' p'
  | false =>
    rw [a2 e, seq_ret]
    exact h2 e
theorem seq_all {b : D → Env → Store → SR} {α : Type} {k : α → D} (g : α → Bool) (P : Env → Prop) (x : D) {L : Store} {l : List α} {ρ : Env} {K : Env → Store → SR} {Y : SR}
    (hp : P ρ) (h : ∀ a ∈ l, ∀ ρ, P ρ → ∃ ρ', P ρ' ∧ b (k a) ρ L = if g a = true then .next ρ' L else .ret x L)
    (h1 : l.all g = true → ∀ ρ, P ρ → K ρ L = Y) (h2 : l.all g = false → .ret x L = Y) : (forL b (l.map k) ρ L).seq K = Y := by
  obtain ⟨a1, a2⟩ := for_all (b := b) (k := k) (g := g) (P := P) (L := L) (x := x) (fun a ha ρ hr => by
    obtain ⟨ρ', p', e'⟩ := h a ha ρ hr
    exact ⟨fun e => ⟨ρ', p', by rw [e', if_pos e]⟩, fun e => by rw [e', if_neg (by rw [e]; decide)]⟩) hp
  cases e : l.all g with
  | true =>
    obtain ⟨ρ', p', e'⟩ := a1 e
    rw [e', seq_next]
    exact h1 e ρ' p'
  | false =>
    rw [a2 e, seq_ret]
    exact h2 e
/-- a loop that runs through, a state carried along -/
theorem forL_fold {b : D → Env → Store → SR} {α σ : Type} {k : α → D} {I : σ → Env → Store → Prop} {step : σ → α → σ} : ∀ {l : List α} {s : σ} {ρ : Env} {L : Store},
    (∀ a ∈ l, ∀ s ρ L, I s ρ L → ∃ ρ' L', b (k a) ρ L = .next ρ' L' ∧ I (step s a) ρ' L') → I s ρ L → ∃ ρ' L', forL b (l.map k) ρ L = .next ρ' L' ∧ I (l.foldl step s) ρ' L'
  | [], s, ρ, L, h, hi => ⟨ρ, L, rfl, hi⟩
  | a :: l, s, ρ, L, h, hi => by
    obtain ⟨ρ1, L1, e, i1⟩ := h a List.mem_cons_self s ρ L hi
    rw [List.map_cons, forL_cons, e]
    exact forL_fold (fun x hx => h x (List.mem_cons_of_mem _ hx)) i1
/-- a comprehension whose turns change the store -/
theorem comp_st {f : D → M (Option D)} {α β : Type} {k : α → D} {g : β → D} {I : Nat → Store → Prop} {Q : β → Prop} : ∀ {l : List α} {n : Nat} {L : Store},
    (∀ a ∈ l, ∀ n L, I (n + 1) L → ∃ x L', f (k a) L = .ok (some (g x)) L' ∧ I n L' ∧ Q x) → I (l.length + n) L →
    ∃ (xs : List β) (L' : Store), compL f (l.map k) L = .ok (xs.map g) L' ∧ I n L' ∧ xs.length = l.length ∧ ∀ x ∈ xs, Q x
  | [], n, L, h, hi => ⟨[], L, rfl, by simpa using hi, rfl, fun x hx => absurd hx (by simp)⟩
  | a :: l, n, L, h, hi => by
    obtain ⟨x, L1, e1, i1, q1⟩ := h a List.mem_cons_self (l.length + n) L (by rw [List.length_cons] at hi; rw [Nat.add_right_comm] at hi; exact hi)
    obtain ⟨xs, L2, e2, i2, l2, q2⟩ := comp_st (fun y hy => h y (List.mem_cons_of_mem _ hy)) i1
    refine ⟨x :: xs, L2, ?_, i2, by rw [List.length_cons, List.length_cons, l2], fun y hy => ?_⟩
    · rw [List.map_cons, compL_cons, e1]
      simp only [R.bind]
      rw [e2]
      rfl
    · rcases List.mem_cons.mp hy with rfl | hy
      · exact q1
      · exact q2 y hy
theorem callF_of {cf : Nat → List D → M D} {f : Nat} {xs : List D} {d : D} {L1 : Store} (h : cf f xs [] = .ok d L1) (p : purAll xs = true) (pd : d.pure = true) : ∀ L, callF cf f xs L = .ok d L := fun L => callF_pure p h pd
theorem callF_ofE {cf : Nat → List D → M D} {f : Nat} {xs : List D} {d : D} {c : Nat} {L1 : Store} (h : cf f xs [] = .exc c d L1) (p : purAll xs = true) (pd : d.pure = true) : ∀ L, callF cf f xs L = .exc c d L := fun L => callF_exc p h pd
end EV
namespace EV
/-- goes on, with P -/
def NextP (P : Env → Prop) (L : Store) (X : SR) : Prop := ∃ ρ', P ρ' ∧ X = .next ρ' L
theorem nextP_of {P : Env → Prop} {L : Store} {ρ : Env} (h : P ρ) : NextP P L (.next ρ L) := ⟨ρ, h, rfl⟩
theorem ret_all2 {b : D → Env → Store → SR} {α : Type} {k : α → D} (g : α → Bool) (P : Env → Prop) (x : D) {L : Store} {l : List α} {ρ : Env} {K : Env → Store → SR} {Y : R D}
    (hp : P ρ) (h1 : ∀ a ∈ l, ∀ ρ, P ρ → g a = true → NextP P L (b (k a) ρ L)) (h2 : ∀ a ∈ l, ∀ ρ, P ρ → g a = false → b (k a) ρ L = .ret x L)
    (k1 : l.all g = true → ∀ ρ, P ρ → retS (K ρ L) = Y) (k2 : l.all g = false → .ok x L = Y) : retS ((forL b (l.map k) ρ L).seq K) = Y := by
  obtain ⟨a1, a2⟩ := for_all (b := b) (k := k) (g := g) (P := P) (L := L) (x := x) (fun a ha ρ hr => ⟨fun e => h1 a ha ρ hr e, fun e => h2 a ha ρ hr e⟩) hp
  cases e : l.all g with
  | true =>
    obtain ⟨ρ', p', e'⟩ := a1 e
    rw [e', seq_next]
    exact k1 e ρ' p'
  | false =>
    rw [a2 e, seq_ret]
    exact k2 e
theorem seq_all_t (Z : SR → Prop) {b : D → Env → Store → SR} {α : Type} {k : α → D} (g : α → Bool) (P : Env → Prop) (x : D) {L : Store} {l : List α} {ρ : Env} {K : Env → Store → SR}
    (hp : P ρ) (h1 : ∀ a ∈ l, ∀ ρ, P ρ → g a = true → NextP P L (b (k a) ρ L)) (h2 : ∀ a ∈ l, ∀ ρ, P ρ → g a = false → b (k a) ρ L = .ret x L)
    (e : l.all g = true) (k1 : ∀ ρ, P ρ → Z (K ρ L)) : Z ((forL b (l.map k) ρ L).seq K) := by
  obtain ⟨a1, a2⟩ := for_all (b := b) (k := k) (g := g) (P := P) (L := L) (x := x) (fun a ha ρ hr => ⟨fun e => h1 a ha ρ hr e, fun e => h2 a ha ρ hr e⟩) hp
  obtain ⟨ρ', p', e'⟩ := a1 e
  rw [e', seq_next]
  exact k1 ρ' p'
theorem seq_all_f {b : D → Env → Store → SR} {α : Type} {k : α → D} (g : α → Bool) (P : Env → Prop) {x : D} {L : Store} {l : List α} {ρ : Env} {K : Env → Store → SR}
    (hp : P ρ) (h1 : ∀ a ∈ l, ∀ ρ, P ρ → g a = true → NextP P L (b (k a) ρ L)) (h2 : ∀ a ∈ l, ∀ ρ, P ρ → g a = false → b (k a) ρ L = .ret x L)
    (e : l.all g = false) : (forL b (l.map k) ρ L).seq K = .ret x L := by
  obtain ⟨a1, a2⟩ := for_all (b := b) (k := k) (g := g) (P := P) (L := L) (x := x) (fun a ha ρ hr => ⟨fun e => h1 a ha ρ hr e, fun e => h2 a ha ρ hr e⟩) hp
  rw [a2 e, seq_ret]
end EV
namespace EV
open PySem
/-! ### draws: a dict with "left", "cell", "turns" -/
def kLeft : _root_.L2.Key := .inr (SX.S [108, 101, 102, 116])
def kCell : _root_.L2.Key := .inr (SX.S [99, 101, 108, 108])
def kTurn : _root_.L2.Key := .inr (SX.S [116, 117, 114, 110, 115])
def stL (le ce tu : Int) : List (_root_.L2.Key × D) := [(kLeft, .int le), (kCell, .int ce), (kTurn, .int tu)]
theorem kLC : kLeft ≠ kCell := by decide
theorem kLT : kLeft ≠ kTurn := by decide
theorem kCT : kCell ≠ kTurn := by decide
theorem put_left {le ce tu x : Int} : putK (stL le ce tu) kLeft (.int x) = stL x ce tu := by simp [putK, valK, stL, kLC, kLT, kCT, kLC.symm, kLT.symm, kCT.symm]
theorem put_turn {le ce tu x : Int} : putK (stL le ce tu) kTurn (.int x) = stL le ce x := by simp [putK, valK, stL, kLC, kLT, kCT, kLC.symm, kLT.symm, kCT.symm]
theorem val_left {le ce tu : Int} : valK (stL le ce tu) kLeft = some (.int le) := by simp [valK, stL, kLC, kLT, kCT, kLC.symm, kLT.symm, kCT.symm]
theorem val_turn {le ce tu : Int} : valK (stL le ce tu) kTurn = some (.int tu) := by simp [valK, stL, kLC, kLT, kCT, kLC.symm, kLT.symm, kCT.symm]
theorem val_cell {le ce tu : Int} : valK (stL le ce tu) kCell = some (.int ce) := by simp [valK, stL, kLC, kLT, kCT, kLC.symm, kLT.symm, kCT.symm]
end EV
end

namespace EV
open PySem
/-! printed by tr.py of a linked text -/
/-- 0: is_whole(thing, least, most) names 0:thing 1:least 2:most -/
def P75_0 : Fd := ⟨3, 3,
(.cons (.ret (.and (.isi (.slot 0) .int) (.and (.not (.isi (.slot 0) .bool)) (.chain .le .le (.slot 1) (.slot 0) (.slot 2)))))
.nil)⟩
/-- 1: is_set(thing, known) names 0:thing 1:known 2:i -/
def P75_1 : Fd := ⟨2, 3,
(.cons (.ife (.or (.not (.isi (.slot 0) .str)) (.cmp .eq (.slot 0) (.cst (.str []))))
(.cons (.ret (.cst (.bl false)))
.nil)
.nil)
(.cons (.ret (.bi .all (.cons (.frz (.lc false (.and (.cmp .isin (.ix (.slot 0) (.slot 2)) (.slot 1)) (.cmp .notin (.ix (.slot 0) (.slot 2)) (.sl (.slot 0) .none (.some (.slot 2))))) (.name 2) (.range1 (.bi .len (.cons (.slot 0) .nil))) .none [2])) .nil)))
.nil))⟩
/-- 2: is_signs(thing) names 0:thing -/
def P75_2 : Fd := ⟨1, 1,
(.cons (.ret (.and (.isi (.slot 0) .str) (.and (.chain .le .le (.cst (.int 2)) (.bi .len (.cons (.slot 0) .nil)) (.glob (.int 8))) (.call 1 (.cons (.slot 0) (.cons (.glob (.str [97, 98, 99, 100, 101, 102, 103, 104, 105, 106, 107, 108, 109, 110, 111, 112, 113, 114, 115, 116, 117, 118, 119, 120, 121, 122, 48, 49, 50, 51, 52, 53, 54, 55, 56, 57, 46, 45, 35, 64, 36, 42, 43, 61])) .nil))))))
.nil)⟩
/-- 3: are_rows(thing, many) names 0:thing 1:many 2:row 3:number -/
def P75_3 : Fd := ⟨2, 4,
(.cons (.ife (.or (.not (.isi (.slot 0) .tuple)) (.not (.chain .le .le (.cst (.int 1)) (.bi .len (.cons (.slot 0) .nil)) (.glob (.int 60)))))
(.cons (.ret (.cst (.bl false)))
.nil)
.nil)
(.cons (.for_ (.name 2) (.val (.slot 0))
(.cons (.ife (.or (.not (.isi (.slot 2) .tuple)) (.cmp .ne (.bi .len (.cons (.slot 2) .nil)) (.slot 1)))
(.cons (.ret (.cst (.bl false)))
.nil)
.nil)
(.cons (.ife (.not (.bi .all (.cons (.frz (.lc false (.call 0 (.cons (.slot 3) (.cons (.cst (.int 0)) (.cons (.bin .sub (.bi .len (.cons (.slot 0) .nil)) (.cst (.int 1))) .nil)))) (.name 3) (.val (.slot 2)) .none [3])) .nil)))
(.cons (.ret (.cst (.bl false)))
.nil)
.nil)
.nil)))
(.cons (.ret (.cst (.bl true)))
.nil)))⟩
/-- 4: is_told(signs, thing, many) names 0:signs 1:thing 2:many 3:text 4:sign -/
def P75_4 : Fd := ⟨3, 5,
(.cons (.ife (.or (.not (.isi (.slot 1) .tuple)) (.cmp .ne (.bi .len (.cons (.slot 1) .nil)) (.bi .len (.cons (.slot 0) .nil))))
(.cons (.ret (.cst (.bl false)))
.nil)
.nil)
(.cons (.for_ (.name 3) (.val (.slot 1))
(.cons (.ife (.or (.not (.isi (.slot 3) .str)) (.or (.cmp .ne (.bi .len (.cons (.slot 3) .nil)) (.slot 2)) (.not (.bi .all (.cons (.frz (.lc false (.cmp .isin (.slot 4) (.slot 0)) (.name 4) (.val (.slot 3)) .none [4])) .nil)))))
(.cons (.ret (.cst (.bl false)))
.nil)
.nil)
.nil))
(.cons (.ret (.cst (.bl true)))
.nil)))⟩
/-- 5: wrong_part(thing) names 0:thing 1:signs 2:lefts 3:rights 4:outs 5:row -/
def P75_5 : Fd := ⟨1, 6,
(.cons (.ife (.or (.not (.isi (.slot 0) .tuple)) (.cmp .ne (.bi .len (.cons (.slot 0) .nil)) (.cst (.int 4))))
(.cons (.ret (.cst .non))
.nil)
.nil)
(.cons (.asg (.tup (.cons (.name 1) (.cons (.name 2) (.cons (.name 3) (.cons (.name 4) .nil))))) (.slot 0))
(.cons (.ife (.not (.call 2 (.cons (.slot 1) .nil)))
(.cons (.ret (.cst (.str [115, 105, 103, 110, 115])))
.nil)
.nil)
(.cons (.ife (.not (.call 3 (.cons (.slot 2) (.cons (.bi .len (.cons (.slot 1) .nil)) .nil))))
(.cons (.ret (.cst (.str [108, 101, 102, 116, 115])))
.nil)
.nil)
(.cons (.ife (.not (.call 3 (.cons (.slot 3) (.cons (.bi .len (.cons (.slot 1) .nil)) .nil))))
(.cons (.ret (.cst (.str [114, 105, 103, 104, 116, 115])))
.nil)
.nil)
(.cons (.ife (.or (.not (.isi (.slot 4) .tuple)) (.cmp .ne (.bi .len (.cons (.slot 4) .nil)) (.bi .len (.cons (.slot 2) .nil))))
(.cons (.ret (.cst (.str [111, 117, 116, 115])))
.nil)
.nil)
(.cons (.ret (.ife (.bi .all (.cons (.frz (.lc false (.call 4 (.cons (.slot 1) (.cons (.slot 5) (.cons (.bi .len (.cons (.slot 3) .nil)) .nil)))) (.name 5) (.val (.slot 4)) .none [5])) .nil)) (.cst (.str [])) (.cst (.str [111, 117, 116, 115]))))
.nil)))))))⟩
/-- 6: need_machine(machine) names 0:machine 1:part -/
def P75_6 : Fd := ⟨1, 2,
(.cons (.set 1 (.call 5 (.cons (.slot 0) .nil)))
(.cons (.ife (.cmp .ne (.slot 1) (.cst (.str [])))
(.cons (.raise 0 (.slot 1))
.nil)
.nil)
.nil))⟩
/-- 7: wrong_guard(thing) names 0:thing 1:signs 2:rows 3:good 4:i 5:row -/
def P75_7 : Fd := ⟨1, 6,
(.cons (.ife (.or (.not (.isi (.slot 0) .tuple)) (.cmp .ne (.bi .len (.cons (.slot 0) .nil)) (.cst (.int 3))))
(.cons (.ret (.cst .non))
.nil)
.nil)
(.cons (.asg (.tup (.cons (.name 1) (.cons (.name 2) (.cons (.name 3) .nil)))) (.slot 0))
(.cons (.ife (.not (.call 2 (.cons (.slot 1) .nil)))
(.cons (.ret (.cst (.str [115, 105, 103, 110, 115])))
.nil)
.nil)
(.cons (.ife (.not (.call 3 (.cons (.slot 2) (.cons (.bi .len (.cons (.slot 1) .nil)) .nil))))
(.cons (.ret (.cst (.str [114, 111, 119, 115])))
.nil)
.nil)
(.cons (.ife (.or (.not (.isi (.slot 3) .tuple)) (.not (.bi .all (.cons (.frz (.lc false (.call 0 (.cons (.slot 5) (.cons (.cst (.int 0)) (.cons (.bin .sub (.bi .len (.cons (.slot 2) .nil)) (.cst (.int 1))) .nil)))) (.name 5) (.val (.slot 3)) .none [5])) .nil))))
(.cons (.ret (.cst (.str [103, 111, 111, 100])))
.nil)
.nil)
(.cons (.ret (.ife (.bi .all (.cons (.frz (.lc false (.cmp .lt (.ix (.slot 3) (.slot 4)) (.ix (.slot 3) (.bin .add (.slot 4) (.cst (.int 1))))) (.name 4) (.range1 (.bin .sub (.bi .len (.cons (.slot 3) .nil)) (.cst (.int 1)))) .none [4])) .nil)) (.cst (.str [])) (.cst (.str [103, 111, 111, 100]))))
.nil))))))⟩
/-- 8: need_guard(guard) names 0:guard 1:part -/
def P75_8 : Fd := ⟨1, 2,
(.cons (.set 1 (.call 7 (.cons (.slot 0) .nil)))
(.cons (.ife (.cmp .ne (.slot 1) (.cst (.str [])))
(.cons (.raise 1 (.slot 1))
.nil)
.nil)
.nil))⟩
/-- 9: rows_text(rows) names 0:rows 1:row 2:number -/
def P75_9 : Fd := ⟨1, 3,
(.cons (.ret (.meth .join (.cst (.str [59])) (.cons (.frz (.lc false (.meth .join (.cst (.str [44])) (.cons (.frz (.lc true (.bi .str (.cons (.slot 2) .nil)) (.name 2) (.val (.slot 1)) .none [2])) .nil)) (.name 1) (.val (.slot 0)) .none [1])) .nil)))
.nil)⟩
/-- 10: machine_text(machine) names 0:machine 1:signs 2:lefts 3:rights 4:outs 5:row -/
def P75_10 : Fd := ⟨1, 6,
(.cons (.ex (.call 6 (.cons (.slot 0) .nil)))
(.cons (.asg (.tup (.cons (.name 1) (.cons (.name 2) (.cons (.name 3) (.cons (.name 4) .nil))))) (.slot 0))
(.cons (.ret (.meth .join (.cst (.str [124])) (.cons (.frz (.disp (.cons (.slot 1) (.cons (.call 9 (.cons (.slot 2) .nil)) (.cons (.call 9 (.cons (.slot 3) .nil)) (.cons (.meth .join (.cst (.str [59])) (.cons (.frz (.lc false (.meth .join (.cst (.str [44])) (.cons (.slot 5) .nil)) (.name 5) (.val (.slot 4)) .none [5])) .nil)) .nil)))))) .nil)))
.nil)))⟩
/-- 11: guard_text(guard) names 0:guard 1:signs 2:rows 3:good 4:number -/
def P75_11 : Fd := ⟨1, 5,
(.cons (.ex (.call 8 (.cons (.slot 0) .nil)))
(.cons (.asg (.tup (.cons (.name 1) (.cons (.name 2) (.cons (.name 3) .nil)))) (.slot 0))
(.cons (.ret (.meth .join (.cst (.str [124])) (.cons (.frz (.disp (.cons (.slot 1) (.cons (.call 9 (.cons (.slot 2) .nil)) (.cons (.meth .join (.cst (.str [44])) (.cons (.frz (.lc false (.bi .str (.cons (.slot 4) .nil)) (.name 4) (.val (.slot 3)) .none [4])) .nil)) .nil))))) .nil)))
.nil)))⟩
/-- 12: is_number(text) names 0:text 1:figure -/
def P75_12 : Fd := ⟨1, 2,
(.cons (.ife (.or (.not (.chain .le .le (.cst (.int 1)) (.bi .len (.cons (.slot 0) .nil)) (.cst (.int 3)))) (.not (.bi .all (.cons (.frz (.lc false (.cmp .isin (.slot 1) (.cst (.str [48, 49, 50, 51, 52, 53, 54, 55, 56, 57]))) (.name 1) (.val (.slot 0)) .none [1])) .nil))))
(.cons (.ret (.cst (.bl false)))
.nil)
.nil)
(.cons (.ret (.or (.cmp .eq (.slot 0) (.cst (.str [48]))) (.cmp .ne (.ix (.slot 0) (.cst (.int 0))) (.cst (.str [48])))))
.nil))⟩
/-- 13: numbers_by(text, part) names 0:text 1:part 2:found 3:word -/
def P75_13 : Fd := ⟨2, 4,
(.cons (.set 2 (.mut (.disp .nil)))
(.cons (.for_ (.name 3) (.val (.meth .split (.slot 0) (.cons (.cst (.str [44])) .nil)))
(.cons (.ife (.not (.call 12 (.cons (.slot 3) .nil)))
(.cons (.raise 2 (.slot 1))
.nil)
.nil)
(.cons (.ex (.meth .append (.slot 2) (.cons (.bi .int (.cons (.slot 3) .nil)) .nil)))
.nil)))
(.cons (.ret (.bi .tuple (.cons (.slot 2) .nil)))
.nil)))⟩
/-- 14: rows_by(text, part) names 0:text 1:part 2:row -/
def P75_14 : Fd := ⟨2, 3,
(.cons (.ret (.bi .tuple (.cons (.frz (.lc false (.call 13 (.cons (.slot 2) (.cons (.slot 1) .nil))) (.name 2) (.val (.meth .split (.slot 0) (.cons (.cst (.str [59])) .nil))) .none [2])) .nil)))
.nil)⟩
/-- 15: parts_by(text) names 0:text -/
def P75_15 : Fd := ⟨1, 1,
(.cons (.ife (.not (.isi (.slot 0) .str))
(.cons (.raise 2 (.cst .non))
.nil)
.nil)
(.cons (.ret (.meth .split (.slot 0) (.cons (.cst (.str [124])) .nil)))
.nil))⟩
/-- 16: need_part(parts, at, names) names 0:parts 1:at 2:names -/
def P75_16 : Fd := ⟨3, 3,
(.cons (.ife (.or (.cmp .le (.bi .len (.cons (.slot 0) .nil)) (.slot 1)) (.and (.cmp .eq (.slot 1) (.bin .sub (.bi .len (.cons (.slot 2) .nil)) (.cst (.int 1)))) (.cmp .gt (.bi .len (.cons (.slot 0) .nil)) (.bi .len (.cons (.slot 2) .nil)))))
(.cons (.raise 2 (.ix (.slot 2) (.slot 1)))
.nil)
.nil)
.nil)⟩
/-- 17: read_machine(text) names 0:text 1:parts 2:lefts 3:rights 4:outs 5:machine 6:row -/
def P75_17 : Fd := ⟨1, 7,
(.cons (.set 1 (.call 15 (.cons (.slot 0) .nil)))
(.cons (.ex (.call 16 (.cons (.slot 1) (.cons (.cst (.int 1)) (.cons (.glob (.ktup [(.str [115, 105, 103, 110, 115]), (.str [108, 101, 102, 116, 115]), (.str [114, 105, 103, 104, 116, 115]), (.str [111, 117, 116, 115])])) .nil)))))
(.cons (.set 2 (.call 14 (.cons (.ix (.slot 1) (.cst (.int 1))) (.cons (.cst (.str [108, 101, 102, 116, 115])) .nil))))
(.cons (.ex (.call 16 (.cons (.slot 1) (.cons (.cst (.int 2)) (.cons (.glob (.ktup [(.str [115, 105, 103, 110, 115]), (.str [108, 101, 102, 116, 115]), (.str [114, 105, 103, 104, 116, 115]), (.str [111, 117, 116, 115])])) .nil)))))
(.cons (.set 3 (.call 14 (.cons (.ix (.slot 1) (.cst (.int 2))) (.cons (.cst (.str [114, 105, 103, 104, 116, 115])) .nil))))
(.cons (.ex (.call 16 (.cons (.slot 1) (.cons (.cst (.int 3)) (.cons (.glob (.ktup [(.str [115, 105, 103, 110, 115]), (.str [108, 101, 102, 116, 115]), (.str [114, 105, 103, 104, 116, 115]), (.str [111, 117, 116, 115])])) .nil)))))
(.cons (.set 4 (.bi .tuple (.cons (.frz (.lc false (.bi .tuple (.cons (.meth .split (.slot 6) (.cons (.cst (.str [44])) .nil)) .nil)) (.name 6) (.val (.meth .split (.ix (.slot 1) (.cst (.int 3))) (.cons (.cst (.str [59])) .nil))) .none [6])) .nil)))
(.cons (.set 5 (.tup (.cons (.ix (.slot 1) (.cst (.int 0))) (.cons (.slot 2) (.cons (.slot 3) (.cons (.slot 4) .nil))))))
(.cons (.ex (.call 6 (.cons (.slot 5) .nil)))
(.cons (.ret (.slot 5))
.nil))))))))))⟩
/-- 18: read_guard(text) names 0:text 1:parts 2:rows 3:good 4:guard -/
def P75_18 : Fd := ⟨1, 5,
(.cons (.set 1 (.call 15 (.cons (.slot 0) .nil)))
(.cons (.ex (.call 16 (.cons (.slot 1) (.cons (.cst (.int 1)) (.cons (.glob (.ktup [(.str [115, 105, 103, 110, 115]), (.str [114, 111, 119, 115]), (.str [103, 111, 111, 100])])) .nil)))))
(.cons (.set 2 (.call 14 (.cons (.ix (.slot 1) (.cst (.int 1))) (.cons (.cst (.str [114, 111, 119, 115])) .nil))))
(.cons (.ex (.call 16 (.cons (.slot 1) (.cons (.cst (.int 2)) (.cons (.glob (.ktup [(.str [115, 105, 103, 110, 115]), (.str [114, 111, 119, 115]), (.str [103, 111, 111, 100])])) .nil)))))
(.cons (.set 3 (.ife (.cmp .eq (.ix (.slot 1) (.cst (.int 2))) (.cst (.str []))) (.tup .nil) (.call 13 (.cons (.ix (.slot 1) (.cst (.int 2))) (.cons (.cst (.str [103, 111, 111, 100])) .nil)))))
(.cons (.set 4 (.tup (.cons (.ix (.slot 1) (.cst (.int 0))) (.cons (.slot 2) (.cons (.slot 3) .nil)))))
(.cons (.ex (.call 8 (.cons (.slot 4) .nil)))
(.cons (.ret (.slot 4))
.nil))))))))⟩
/-- 19: _law_mixed(cell, k) names 0:cell 1:k 2:number -/
def P75_19 : Fd := ⟨2, 3,
(.cons (.set 2 (.bin .add (.bin .add (.bin .mod (.slot 0) (.ix (.frz (.disp (.cons (.cst (.int 1000000007)) (.cons (.cst (.int 998244353)) (.cons (.cst (.int 2147483629)) (.cons (.cst (.int 1000000009)) .nil)))))) (.bin .mod (.slot 1) (.cst (.int 4))))) (.bin .mul (.cst (.int 7919)) (.slot 1))) (.cst (.int 13))))
(.cons (.ret (.bin .mod (.bin .mul (.bin .mod (.bin .mul (.slot 2) (.slot 2)) (.cst (.int 2147483647))) (.cst (.int 48271))) (.cst (.int 2147483647))))
.nil))⟩
/-- 20: _law_draw(cell, k) names 0:cell 1:k -/
def P75_20 : Fd := ⟨2, 2,
(.cons (.ret (.dnew false (.cons (.cst (.str [108, 101, 102, 116])) (.ife (.cmp .ge (.slot 0) (.bin .pow (.cst (.int 10)) (.cst (.int 18)))) (.slot 0) (.cst (.int 0))) (.cons (.cst (.str [99, 101, 108, 108])) (.slot 0) (.cons (.cst (.str [116, 117, 114, 110, 115])) (.bin .mul (.cst (.int 1000)) (.slot 1)) .nil)))))
.nil)⟩
/-- 21: _law_digit(state, many) names 0:state 1:many 2:found 3:j -/
def P75_21 : Fd := ⟨2, 4,
(.cons (.ife (.cmp .eq (.dget (.slot 0) (.cst (.str [108, 101, 102, 116]))) (.cst (.int 0)))
(.cons (.for_ (.name 3) (.range1 (.cst (.int 4)))
(.cons (.setK (.slot 0) (.cst (.str [116, 117, 114, 110, 115])) (.bin .add (.dget (.slot 0) (.cst (.str [116, 117, 114, 110, 115]))) (.cst (.int 1))))
(.cons (.setK (.slot 0) (.cst (.str [108, 101, 102, 116])) (.bin .add (.bin .mul (.dget (.slot 0) (.cst (.str [108, 101, 102, 116]))) (.cst (.int 2147483647))) (.call 19 (.cons (.dget (.slot 0) (.cst (.str [99, 101, 108, 108]))) (.cons (.dget (.slot 0) (.cst (.str [116, 117, 114, 110, 115]))) .nil)))))
.nil)))
.nil)
.nil)
(.cons (.set 2 (.bin .mod (.dget (.slot 0) (.cst (.str [108, 101, 102, 116]))) (.slot 1)))
(.cons (.setK (.slot 0) (.cst (.str [108, 101, 102, 116])) (.bin .fdiv (.dget (.slot 0) (.cst (.str [108, 101, 102, 116]))) (.slot 1)))
(.cons (.ret (.slot 2))
.nil))))⟩
/-- 22: _law_signs(state, most) names 0:state 1:most 2:turn 3:every 4:found 5:some 6:sign -/
def P75_22 : Fd := ⟨2, 7,
(.cons (.asg (.tup (.cons (.name 3) (.cons (.name 4) .nil))) (.tup (.cons (.cst (.str [97, 98, 46, 35, 64, 36, 43, 48])) (.cons (.cst (.str [])) .nil))))
(.cons (.for_ (.name 2) (.range1 (.bin .add (.cst (.int 2)) (.call 21 (.cons (.slot 0) (.cons (.bin .sub (.slot 1) (.cst (.int 1))) .nil)))))
(.cons (.set 5 (.frz (.lc false (.slot 6) (.name 6) (.val (.slot 3)) (.some (.cmp .notin (.slot 6) (.slot 4))) [6])))
(.cons (.set 4 (.bin .add (.slot 4) (.ix (.slot 5) (.call 21 (.cons (.slot 0) (.cons (.bi .len (.cons (.slot 5) .nil)) .nil))))))
.nil)))
(.cons (.ret (.slot 4))
.nil)))⟩
/-- 23: _law_rows(state, many, signs) names 0:state 1:many 2:signs 3:row 4:sign -/
def P75_23 : Fd := ⟨3, 5,
(.cons (.ret (.bi .tuple (.cons (.frz (.lc false (.bi .tuple (.cons (.frz (.lc true (.call 21 (.cons (.slot 0) (.cons (.slot 1) .nil))) (.name 4) (.val (.slot 2)) .none [4])) .nil)) (.name 3) (.range1 (.slot 1)) .none [3])) .nil)))
.nil)⟩
/-- 24: _law_sized(state, signs, lefts, rights) names 0:state 1:signs 2:lefts 3:rights 4:outs 5:left 6:row 7:sign 8:some 9:end -/
def P75_24 : Fd := ⟨4, 10,
(.cons (.set 4 (.mut (.disp .nil)))
(.cons (.for_ (.name 5) (.range1 (.slot 2))
(.cons (.set 6 (.mut (.disp .nil)))
(.cons (.for_ (.name 7) (.val (.slot 1))
(.cons (.set 8 (.frz (.lc false (.ix (.frz (.disp (.cons (.slot 7) (.cons (.ix (.slot 1) (.call 21 (.cons (.slot 0) (.cons (.bi .len (.cons (.slot 1) .nil)) .nil)))) .nil)))) (.call 21 (.cons (.slot 0) (.cons (.cst (.int 2)) .nil)))) (.name 9) (.range1 (.slot 3)) .none [9])))
(.cons (.ex (.meth .append (.slot 6) (.cons (.meth .join (.cst (.str [])) (.cons (.slot 8) .nil)) .nil)))
.nil)))
(.cons (.ex (.meth .append (.slot 4) (.cons (.bi .tuple (.cons (.slot 6) .nil)) .nil)))
.nil))))
(.cons (.ret (.tup (.cons (.slot 1) (.cons (.call 23 (.cons (.slot 0) (.cons (.slot 2) (.cons (.slot 1) .nil)))) (.cons (.call 23 (.cons (.slot 0) (.cons (.slot 3) (.cons (.slot 1) .nil)))) (.cons (.bi .tuple (.cons (.slot 4) .nil)) .nil))))))
.nil)))⟩
/-- 25: _law_rows_right(rows, signs) names 0:rows 1:signs 2:row 3:number -/
def P75_25 : Fd := ⟨2, 4,
(.cons (.ife (.or (.not (.isi (.slot 0) .tuple)) (.not (.chain .le .le (.cst (.int 1)) (.bi .len (.cons (.slot 0) .nil)) (.cst (.int 60)))))
(.cons (.ret (.cst (.bl false)))
.nil)
.nil)
(.cons (.for_ (.name 2) (.val (.slot 0))
(.cons (.ife (.or (.not (.isi (.slot 2) .tuple)) (.cmp .ne (.bi .len (.cons (.slot 2) .nil)) (.bi .len (.cons (.slot 1) .nil))))
(.cons (.ret (.cst (.bl false)))
.nil)
.nil)
(.cons (.for_ (.name 3) (.val (.slot 2))
(.cons (.ife (.or (.not (.isi (.slot 3) .int)) (.or (.isi (.slot 3) .bool) (.not (.chain .le .lt (.cst (.int 0)) (.slot 3) (.bi .len (.cons (.slot 0) .nil))))))
(.cons (.ret (.cst (.bl false)))
.nil)
.nil)
.nil))
.nil)))
(.cons (.ret (.cst (.bl true)))
.nil)))⟩
/-- 26: _law_shape(thing, signs) names 0:thing 1:signs 2:row 3:text 4:sign -/
def P75_26 : Fd := ⟨2, 5,
(.cons (.ife (.or (.not (.isi (.slot 0) .tuple)) (.or (.cmp .ne (.bi .len (.cons (.slot 0) .nil)) (.cst (.int 4))) (.cmp .ne (.ix (.slot 0) (.cst (.int 0))) (.slot 1))))
(.cons (.ret (.cst (.bl false)))
.nil)
.nil)
(.cons (.ife (.or (.not (.call 25 (.cons (.ix (.slot 0) (.cst (.int 1))) (.cons (.slot 1) .nil)))) (.not (.call 25 (.cons (.ix (.slot 0) (.cst (.int 2))) (.cons (.slot 1) .nil)))))
(.cons (.ret (.cst (.bl false)))
.nil)
.nil)
(.cons (.ife (.or (.not (.isi (.ix (.slot 0) (.cst (.int 3))) .tuple)) (.cmp .ne (.bi .len (.cons (.ix (.slot 0) (.cst (.int 3))) .nil)) (.bi .len (.cons (.ix (.slot 0) (.cst (.int 1))) .nil))))
(.cons (.ret (.cst (.bl false)))
.nil)
.nil)
(.cons (.for_ (.name 2) (.val (.ix (.slot 0) (.cst (.int 3))))
(.cons (.ife (.or (.not (.isi (.slot 2) .tuple)) (.cmp .ne (.bi .len (.cons (.slot 2) .nil)) (.bi .len (.cons (.slot 1) .nil))))
(.cons (.ret (.cst (.bl false)))
.nil)
.nil)
(.cons (.for_ (.name 3) (.val (.slot 2))
(.cons (.ife (.or (.not (.isi (.slot 3) .str)) (.cmp .ne (.bi .len (.cons (.slot 3) .nil)) (.bi .len (.cons (.ix (.slot 0) (.cst (.int 2))) .nil))))
(.cons (.ret (.cst (.bl false)))
.nil)
.nil)
(.cons (.ife (.cmp .ne (.frz (.lc false (.slot 4) (.name 4) (.val (.slot 3)) (.some (.cmp .notin (.slot 4) (.slot 1))) [4])) (.frz (.disp .nil)))
(.cons (.ret (.cst (.bl false)))
.nil)
.nil)
.nil)))
.nil)))
(.cons (.ret (.cst (.bl true)))
.nil)))))⟩
/-- 27: _law_caught(asked, thing) names 0:asked 1:thing 2:e -/
def P75_27 : Fd := ⟨2, 3,
(.cons (.try_ (.cons (.ret (.tup (.cons (.cst (.str [116, 111, 108, 100])) (.cons (.callv 0 37 (.cons (.slot 1) .nil)) .nil))))
.nil)
(.cons 3 2 (some 2) (.cons (.ret (.tup (.cons (.cst (.str [116, 101, 120, 116])) (.cons (.xfld 2 2) .nil))))
.nil)
(.cons 3 0 (some 2) (.cons (.ret (.tup (.cons (.cst (.str [109, 97, 99, 104, 105, 110, 101])) (.cons (.xfld 2 0) .nil))))
.nil)
(.cons 3 1 (some 2) (.cons (.ret (.tup (.cons (.cst (.str [103, 117, 97, 114, 100])) (.cons (.xfld 2 1) .nil))))
.nil)
.nil))))
.nil)⟩
/-- 28: _law_table(rows) names 0:rows 1:row 2:number -/
def P75_28 : Fd := ⟨1, 3,
(.cons (.ret (.meth .join (.cst (.str [59])) (.cons (.frz (.lc false (.meth .join (.cst (.str [44])) (.cons (.frz (.lc true (.bi .str (.cons (.slot 2) .nil)) (.name 2) (.val (.slot 1)) .none [2])) .nil)) (.name 1) (.val (.slot 0)) .none [1])) .nil)))
.nil)⟩
/-- 29: _law_numbers(text) names 0:text 1:words 2:word 3:sign -/
def P75_29 : Fd := ⟨1, 4,
(.cons (.set 1 (.meth .split (.slot 0) (.cons (.cst (.str [44])) .nil)))
(.cons (.for_ (.name 2) (.val (.slot 1))
(.cons (.ife (.or (.cmp .eq (.slot 2) (.cst (.str []))) (.or (.cmp .gt (.bi .len (.cons (.slot 2) .nil)) (.cst (.int 3))) (.cmp .ne (.frz (.lc false (.slot 3) (.name 3) (.val (.slot 2)) (.some (.cmp .notin (.slot 3) (.cst (.str [48, 49, 50, 51, 52, 53, 54, 55, 56, 57])))) [3])) (.frz (.disp .nil)))))
(.cons (.ret (.cst .non))
.nil)
.nil)
(.cons (.ife (.and (.cmp .eq (.ix (.slot 2) (.cst (.int 0))) (.cst (.str [48]))) (.cmp .ne (.slot 2) (.cst (.str [48]))))
(.cons (.ret (.cst .non))
.nil)
.nil)
.nil)))
(.cons (.ret (.bi .tuple (.cons (.frz (.lc false (.bi .int (.cons (.slot 2) .nil)) (.name 2) (.val (.slot 1)) .none [2])) .nil)))
.nil)))⟩
/-- 30: _law_read_table(text) names 0:text 1:rows 2:row -/
def P75_30 : Fd := ⟨1, 3,
(.cons (.set 1 (.frz (.lc false (.call 29 (.cons (.slot 2) .nil)) (.name 2) (.val (.meth .split (.slot 0) (.cons (.cst (.str [59])) .nil))) .none [2])))
(.cons (.ret (.ife (.cmp .isin (.cst .non) (.slot 1)) (.cst .non) (.bi .tuple (.cons (.slot 1) .nil))))
.nil))⟩
/-- 31: _law_signs_right(signs) names 0:signs 1:known 2:bad 3:at -/
def P75_31 : Fd := ⟨1, 4,
(.cons (.set 1 (.cst (.str [97, 98, 99, 100, 101, 102, 103, 104, 105, 106, 107, 108, 109, 110, 111, 112, 113, 114, 115, 116, 117, 118, 119, 120, 121, 122, 48, 49, 50, 51, 52, 53, 54, 55, 56, 57, 46, 45, 35, 64, 36, 42, 43, 61])))
(.cons (.set 2 (.frz (.lc false (.slot 3) (.name 3) (.range1 (.bi .len (.cons (.slot 0) .nil))) (.some (.or (.cmp .notin (.ix (.slot 0) (.slot 3)) (.slot 1)) (.cmp .isin (.ix (.slot 0) (.slot 3)) (.sl (.slot 0) .none (.some (.slot 3)))))) [3])))
(.cons (.ret (.and (.chain .le .le (.cst (.int 2)) (.bi .len (.cons (.slot 0) .nil)) (.cst (.int 8))) (.cmp .eq (.slot 2) (.frz (.disp .nil)))))
.nil)))⟩
/-- 32: _law_machine_due(text) names 0:text 1:thing 2:parts 3:tables 4:at 5:name 6:rows 7:row -/
def P75_32 : Fd := ⟨1, 8,
(.cons (.par [2, 3] (.cons (.meth .split (.slot 0) (.cons (.cst (.str [124])) .nil)) (.cons (.mut (.disp .nil)) .nil)))
(.cons (.for_ (.tup (.cons (.name 4) (.cons (.name 5) .nil))) (.val (.tup (.cons (.tup (.cons (.cst (.int 1)) (.cons (.cst (.str [108, 101, 102, 116, 115])) .nil))) (.cons (.tup (.cons (.cst (.int 2)) (.cons (.cst (.str [114, 105, 103, 104, 116, 115])) .nil))) .nil))))
(.cons (.set 6 (.ife (.cmp .le (.bi .len (.cons (.slot 2) .nil)) (.slot 4)) (.cst .non) (.call 30 (.cons (.ix (.slot 2) (.slot 4)) .nil))))
(.cons (.ife (.isN (.slot 6))
(.cons (.ret (.tup (.cons (.cst (.str [116, 101, 120, 116])) (.cons (.slot 5) .nil))))
.nil)
.nil)
(.cons (.ex (.meth .append (.slot 3) (.cons (.slot 6) .nil)))
.nil))))
(.cons (.ife (.cmp .ne (.bi .len (.cons (.slot 2) .nil)) (.cst (.int 4)))
(.cons (.ret (.tup (.cons (.cst (.str [116, 101, 120, 116])) (.cons (.cst (.str [111, 117, 116, 115])) .nil))))
.nil)
.nil)
(.cons (.set 1 (.tup (.cons (.ix (.slot 2) (.cst (.int 0))) (.cons (.ix (.slot 3) (.cst (.int 0))) (.cons (.ix (.slot 3) (.cst (.int 1))) (.cons (.bi .tuple (.cons (.frz (.lc false (.bi .tuple (.cons (.meth .split (.slot 7) (.cons (.cst (.str [44])) .nil)) .nil)) (.name 7) (.val (.meth .split (.ix (.slot 2) (.cst (.int 3))) (.cons (.cst (.str [59])) .nil))) .none [7])) .nil)) .nil))))))
(.cons (.ife (.not (.call 31 (.cons (.ix (.slot 2) (.cst (.int 0))) .nil)))
(.cons (.ret (.tup (.cons (.cst (.str [109, 97, 99, 104, 105, 110, 101])) (.cons (.cst (.str [115, 105, 103, 110, 115])) .nil))))
.nil)
.nil)
(.cons (.for_ (.tup (.cons (.name 4) (.cons (.name 5) .nil))) (.val (.tup (.cons (.tup (.cons (.cst (.int 1)) (.cons (.cst (.str [108, 101, 102, 116, 115])) .nil))) (.cons (.tup (.cons (.cst (.int 2)) (.cons (.cst (.str [114, 105, 103, 104, 116, 115])) .nil))) .nil))))
(.cons (.ife (.not (.call 25 (.cons (.ix (.slot 1) (.slot 4)) (.cons (.ix (.slot 2) (.cst (.int 0))) .nil))))
(.cons (.ret (.tup (.cons (.cst (.str [109, 97, 99, 104, 105, 110, 101])) (.cons (.slot 5) .nil))))
.nil)
.nil)
.nil))
(.cons (.ret (.ife (.call 26 (.cons (.slot 1) (.cons (.ix (.slot 2) (.cst (.int 0))) .nil))) (.tup (.cons (.cst (.str [116, 111, 108, 100])) (.cons (.slot 1) .nil))) (.tup (.cons (.cst (.str [109, 97, 99, 104, 105, 110, 101])) (.cons (.cst (.str [111, 117, 116, 115])) .nil)))))
.nil)))))))⟩
/-- 33: _law_guard_due(text) names 0:text 1:parts 2:rows 3:good 4:wrong 5:at -/
def P75_33 : Fd := ⟨1, 6,
(.cons (.set 1 (.meth .split (.slot 0) (.cons (.cst (.str [124])) .nil)))
(.cons (.set 2 (.ife (.cmp .lt (.bi .len (.cons (.slot 1) .nil)) (.cst (.int 2))) (.cst .non) (.call 30 (.cons (.ix (.slot 1) (.cst (.int 1))) .nil))))
(.cons (.ife (.isN (.slot 2))
(.cons (.ret (.tup (.cons (.cst (.str [116, 101, 120, 116])) (.cons (.cst (.str [114, 111, 119, 115])) .nil))))
.nil)
.nil)
(.cons (.ife (.cmp .ne (.bi .len (.cons (.slot 1) .nil)) (.cst (.int 3)))
(.cons (.ret (.tup (.cons (.cst (.str [116, 101, 120, 116])) (.cons (.cst (.str [103, 111, 111, 100])) .nil))))
.nil)
.nil)
(.cons (.set 3 (.ife (.cmp .eq (.ix (.slot 1) (.cst (.int 2))) (.cst (.str []))) (.tup .nil) (.call 29 (.cons (.ix (.slot 1) (.cst (.int 2))) .nil))))
(.cons (.ife (.isN (.slot 3))
(.cons (.ret (.tup (.cons (.cst (.str [116, 101, 120, 116])) (.cons (.cst (.str [103, 111, 111, 100])) .nil))))
.nil)
.nil)
(.cons (.ife (.not (.call 31 (.cons (.ix (.slot 1) (.cst (.int 0))) .nil)))
(.cons (.ret (.tup (.cons (.cst (.str [103, 117, 97, 114, 100])) (.cons (.cst (.str [115, 105, 103, 110, 115])) .nil))))
.nil)
.nil)
(.cons (.ife (.not (.call 25 (.cons (.slot 2) (.cons (.ix (.slot 1) (.cst (.int 0))) .nil))))
(.cons (.ret (.tup (.cons (.cst (.str [103, 117, 97, 114, 100])) (.cons (.cst (.str [114, 111, 119, 115])) .nil))))
.nil)
.nil)
(.cons (.set 4 (.frz (.lc false (.slot 5) (.name 5) (.range1 (.bi .len (.cons (.slot 3) .nil))) (.some (.or (.cmp .ge (.ix (.slot 3) (.slot 5)) (.bi .len (.cons (.slot 2) .nil))) (.and (.cmp .gt (.slot 5) (.cst (.int 0))) (.cmp .le (.ix (.slot 3) (.slot 5)) (.ix (.slot 3) (.bin .sub (.slot 5) (.cst (.int 1)))))))) [5])))
(.cons (.ret (.ife (.cmp .ne (.slot 4) (.frz (.disp .nil))) (.tup (.cons (.cst (.str [103, 117, 97, 114, 100])) (.cons (.cst (.str [103, 111, 111, 100])) .nil))) (.tup (.cons (.cst (.str [116, 111, 108, 100])) (.cons (.tup (.cons (.ix (.slot 1) (.cst (.int 0))) (.cons (.slot 2) (.cons (.slot 3) .nil)))) .nil)))))
.nil))))))))))⟩
/-- 34: _law_bent(state, text) names 0:state 1:text 2:sign 3:way 4:at -/
def P75_34 : Fd := ⟨2, 5,
(.cons (.par [3, 4] (.cons (.call 21 (.cons (.slot 0) (.cons (.cst (.int 6)) .nil))) (.cons (.call 21 (.cons (.slot 0) (.cons (.bi .len (.cons (.slot 1) .nil)) .nil))) .nil)))
(.cons (.set 2 (.ix (.cst (.str [124, 59, 44, 48, 49, 56, 57, 97, 113, 46, 32])) (.call 21 (.cons (.slot 0) (.cons (.cst (.int 11)) .nil)))))
(.cons (.ife (.cmp .eq (.slot 3) (.cst (.int 0)))
(.cons (.ret (.bin .add (.sl (.slot 1) .none (.some (.slot 4))) (.sl (.slot 1) (.some (.bin .add (.slot 4) (.cst (.int 1)))) .none)))
.nil)
.nil)
(.cons (.ife (.cmp .eq (.slot 3) (.cst (.int 1)))
(.cons (.ret (.bin .add (.bin .add (.sl (.slot 1) .none (.some (.slot 4))) (.slot 2)) (.sl (.slot 1) (.some (.bin .add (.slot 4) (.cst (.int 1)))) .none)))
.nil)
.nil)
(.cons (.ife (.cmp .eq (.slot 3) (.cst (.int 2)))
(.cons (.ret (.sl (.slot 1) .none (.some (.slot 4))))
.nil)
.nil)
(.cons (.ife (.cmp .eq (.slot 3) (.cst (.int 3)))
(.cons (.ret (.bin .add (.bin .add (.slot 1) (.cst (.str [124]))) (.slot 2)))
.nil)
.nil)
(.cons (.ife (.cmp .eq (.slot 3) (.cst (.int 4)))
(.cons (.ret (.bin .add (.bin .add (.sl (.slot 1) .none (.some (.bin .add (.meth .index (.slot 1) (.cons (.cst (.str [124])) .nil)) (.cst (.int 1))))) (.cst (.str [48]))) (.sl (.slot 1) (.some (.bin .add (.meth .index (.slot 1) (.cons (.cst (.str [124])) .nil)) (.cst (.int 1)))) .none)))
.nil)
.nil)
(.cons (.ret (.bin .add (.bin .add (.sl (.slot 1) .none (.some (.slot 4))) (.slot 2)) (.sl (.slot 1) (.some (.slot 4)) .none)))
.nil))))))))⟩
/-- 35: _law_right(state, signs, most) names 0:state 1:signs 2:most 3:machine 4:rows 5:guard 6:outs 7:texts 8:turn 9:bent 10:row 11:text -/
def P75_35 : Fd := ⟨3, 12,
(.cons (.set 3 (.call 24 (.cons (.slot 0) (.cons (.slot 1) (.cons (.bin .add (.cst (.int 1)) (.call 21 (.cons (.slot 0) (.cons (.slot 2) .nil)))) (.cons (.bin .add (.cst (.int 1)) (.call 21 (.cons (.slot 0) (.cons (.slot 2) .nil)))) .nil))))))
(.cons (.set 4 (.call 23 (.cons (.slot 0) (.cons (.bin .add (.cst (.int 1)) (.call 21 (.cons (.slot 0) (.cons (.slot 2) .nil)))) (.cons (.slot 1) .nil)))))
(.cons (.set 5 (.tup (.cons (.slot 1) (.cons (.slot 4) (.cons (.bi .tuple (.cons (.frz (.lc false (.slot 10) (.name 10) (.range1 (.bi .len (.cons (.slot 4) .nil))) (.some (.cmp .eq (.call 21 (.cons (.slot 0) (.cons (.cst (.int 2)) .nil))) (.cst (.int 1)))) [10])) .nil)) .nil)))))
(.cons (.set 6 (.meth .join (.cst (.str [59])) (.cons (.frz (.lc false (.meth .join (.cst (.str [44])) (.cons (.frz (.lc true (.slot 11) (.name 11) (.val (.slot 10)) .none [11])) .nil)) (.name 10) (.val (.ix (.slot 3) (.cst (.int 3)))) .none [10])) .nil)))
(.cons (.set 7 (.mut (.disp (.cons (.meth .join (.cst (.str [124])) (.cons (.frz (.disp (.cons (.slot 1) (.cons (.call 28 (.cons (.ix (.slot 3) (.cst (.int 1))) .nil)) (.cons (.call 28 (.cons (.ix (.slot 3) (.cst (.int 2))) .nil)) (.cons (.slot 6) .nil)))))) .nil)) .nil))))
(.cons (.ex (.meth .append (.slot 7) (.cons (.meth .join (.cst (.str [124])) (.cons (.frz (.disp (.cons (.slot 1) (.cons (.call 28 (.cons (.slot 4) .nil)) (.cons (.meth .join (.cst (.str [44])) (.cons (.frz (.lc false (.bi .str (.cons (.slot 10) .nil)) (.name 10) (.val (.ix (.slot 5) (.cst (.int 2)))) .none [10])) .nil)) .nil))))) .nil)) .nil)))
(.cons (.ife (.or (.cmp .ne (.call 10 (.cons (.slot 3) .nil)) (.ix (.slot 7) (.cst (.int 0)))) (.cmp .ne (.call 11 (.cons (.slot 5) .nil)) (.ix (.slot 7) (.cst (.int 1)))))
(.cons (.ret (.cst (.bl false)))
.nil)
.nil)
(.cons (.ife (.or (.cmp .ne (.call 17 (.cons (.ix (.slot 7) (.cst (.int 0))) .nil)) (.slot 3)) (.cmp .ne (.call 18 (.cons (.ix (.slot 7) (.cst (.int 1))) .nil)) (.slot 5)))
(.cons (.ret (.cst (.bl false)))
.nil)
.nil)
(.cons (.for_ (.name 8) (.range1 (.cst (.int 8)))
(.cons (.set 9 (.frz (.lc false (.call 34 (.cons (.slot 0) (.cons (.slot 11) .nil))) (.name 11) (.val (.slot 7)) .none [11])))
(.cons (.ife (.cmp .ne (.call 27 (.cons (.fnv 17) (.cons (.ix (.slot 9) (.cst (.int 0))) .nil))) (.call 32 (.cons (.ix (.slot 9) (.cst (.int 0))) .nil)))
(.cons (.ret (.cst (.bl false)))
.nil)
.nil)
(.cons (.ife (.cmp .ne (.call 27 (.cons (.fnv 18) (.cons (.ix (.slot 9) (.cst (.int 1))) .nil))) (.call 33 (.cons (.ix (.slot 9) (.cst (.int 1))) .nil)))
(.cons (.ret (.cst (.bl false)))
.nil)
.nil)
.nil))))
(.cons (.ret (.cmp .eq (.call 27 (.cons (.fnv 17) (.cons (.ix (.slot 7) (.cst (.int 1))) .nil))) (.call 32 (.cons (.ix (.slot 7) (.cst (.int 1))) .nil))))
.nil))))))))))⟩
/-- 36: law(script) names 0:script 1:state 2:bad 3:k 4:cell 5:machine 6:guard -/
def P75_36 : Fd := ⟨1, 7,
(.cons (.for_ (.tup (.cons (.name 3) (.cons (.name 4) .nil))) (.enum (.bin .add (.sl (.slot 0) .none (.some (.cst (.int 3)))) (.frz (.disp (.cons (.bi .sum (.cons (.slot 0) .nil)) .nil)))))
(.cons (.set 1 (.callk 20 (.cons (.slot 4) (.cons (.slot 3) .nil))))
(.cons (.ife (.not (.call 35 (.cons (.slot 1) (.cons (.call 22 (.cons (.slot 1) (.cons (.cst (.int 5)) .nil))) (.cons (.cst (.int 12)) .nil)))))
(.cons (.ret (.cst (.bl false)))
.nil)
.nil)
.nil)))
(.cons (.set 1 (.callk 20 (.cons (.ife (.cmp .ne (.slot 0) (.frz (.disp .nil))) (.ix (.slot 0) (.cst (.int 0))) (.cst (.int 0))) (.cons (.cst (.int 9)) .nil))))
(.cons (.par [5, 6] (.cons (.call 24 (.cons (.slot 1) (.cons (.cst (.str [97, 98])) (.cons (.cst (.int 60)) (.cons (.cst (.int 60)) .nil))))) (.cons (.tup (.cons (.cst (.str [97, 98])) (.cons (.call 23 (.cons (.slot 1) (.cons (.cst (.int 60)) (.cons (.cst (.str [97, 98])) .nil)))) (.cons (.tupr (.cst (.int 60))) .nil)))) .nil)))
(.cons (.ife (.or (.cmp .ne (.call 17 (.cons (.call 10 (.cons (.slot 5) .nil)) .nil)) (.slot 5)) (.cmp .ne (.call 18 (.cons (.call 11 (.cons (.slot 6) .nil)) .nil)) (.slot 6)))
(.cons (.ret (.cst (.bl false)))
.nil)
.nil)
(.cons (.for_ (.name 2) (.val (.tup (.cons (.cst .non) (.cons (.cst (.int 5)) (.cons (.tup (.cons (.cst (.str [97, 98])) .nil)) (.cons (.frz (.disp (.cons (.cst (.str [97])) .nil))) .nil))))))
(.cons (.ife (.or (.cmp .ne (.call 27 (.cons (.fnv 17) (.cons (.slot 2) .nil))) (.tup (.cons (.cst (.str [116, 101, 120, 116])) (.cons (.cst .non) .nil)))) (.cmp .ne (.call 27 (.cons (.fnv 18) (.cons (.slot 2) .nil))) (.tup (.cons (.cst (.str [116, 101, 120, 116])) (.cons (.cst .non) .nil)))))
(.cons (.ret (.cst (.bl false)))
.nil)
.nil)
(.cons (.ife (.or (.cmp .ne (.call 27 (.cons (.fnv 10) (.cons (.slot 2) .nil))) (.tup (.cons (.cst (.str [109, 97, 99, 104, 105, 110, 101])) (.cons (.cst .non) .nil)))) (.cmp .ne (.call 27 (.cons (.fnv 11) (.cons (.slot 2) .nil))) (.tup (.cons (.cst (.str [103, 117, 97, 114, 100])) (.cons (.cst .non) .nil)))))
(.cons (.ret (.cst (.bl false)))
.nil)
.nil)
.nil)))
(.cons (.ife (.cmp .ne (.call 27 (.cons (.fnv 10) (.cons (.tup (.cons (.cst (.str [97, 98])) (.cons (.tup (.cons (.tup (.cons (.cst (.int 0)) (.cons (.cst (.int 0)) .nil))) .nil)) (.cons (.tup (.cons (.tup (.cons (.cst (.int 0)) (.cons (.cst (.int 1)) .nil))) .nil)) (.cons (.tup .nil) .nil))))) .nil))) (.tup (.cons (.cst (.str [109, 97, 99, 104, 105, 110, 101])) (.cons (.cst (.str [114, 105, 103, 104, 116, 115])) .nil))))
(.cons (.ret (.cst (.bl false)))
.nil)
.nil)
(.cons (.ret (.and (.cmp .eq (.call 27 (.cons (.fnv 17) (.cons (.cst (.str [])) .nil))) (.tup (.cons (.cst (.str [116, 101, 120, 116])) (.cons (.cst (.str [108, 101, 102, 116, 115])) .nil)))) (.cmp .eq (.call 27 (.cons (.fnv 18) (.cons (.cst (.str [97, 98, 124, 48, 44, 48])) .nil))) (.tup (.cons (.cst (.str [116, 101, 120, 116])) (.cons (.cst (.str [103, 111, 111, 100])) .nil))))))
.nil)))))))⟩
def P75_top (i : Nat) : PySem.Stmt := PySem.Challenge.pw_playedalike_k75_texts_of_machines_and_gu.main.body.getD i (.Pass ⟨0, 0, 0, 0⟩)
def P75_ds : List DfD := [
  ⟨"is_whole", P75_top 9, ["thing", "least", "most"], P75_0⟩,
  ⟨"is_set", P75_top 10, ["thing", "known", "i"], P75_1⟩,
  ⟨"is_signs", P75_top 11, ["thing"], P75_2⟩,
  ⟨"are_rows", P75_top 13, ["thing", "many", "row", "number"], P75_3⟩,
  ⟨"is_told", P75_top 14, ["signs", "thing", "many", "text", "sign"], P75_4⟩,
  ⟨"wrong_part", P75_top 15, ["thing", "signs", "lefts", "rights", "outs", "row"], P75_5⟩,
  ⟨"need_machine", P75_top 16, ["machine", "part"], P75_6⟩,
  ⟨"wrong_guard", P75_top 18, ["thing", "signs", "rows", "good", "i", "row"], P75_7⟩,
  ⟨"need_guard", P75_top 19, ["guard", "part"], P75_8⟩,
  ⟨"rows_text", P75_top 23, ["rows", "row", "number"], P75_9⟩,
  ⟨"machine_text", P75_top 24, ["machine", "signs", "lefts", "rights", "outs", "row"], P75_10⟩,
  ⟨"guard_text", P75_top 25, ["guard", "signs", "rows", "good", "number"], P75_11⟩,
  ⟨"is_number", P75_top 26, ["text", "figure"], P75_12⟩,
  ⟨"numbers_by", P75_top 27, ["text", "part", "found", "word"], P75_13⟩,
  ⟨"rows_by", P75_top 28, ["text", "part", "row"], P75_14⟩,
  ⟨"parts_by", P75_top 29, ["text"], P75_15⟩,
  ⟨"need_part", P75_top 30, ["parts", "at", "names"], P75_16⟩,
  ⟨"read_machine", P75_top 31, ["text", "parts", "lefts", "rights", "outs", "machine", "row"], P75_17⟩,
  ⟨"read_guard", P75_top 32, ["text", "parts", "rows", "good", "guard"], P75_18⟩,
  ⟨"_law_mixed", P75_top 34, ["cell", "k", "number"], P75_19⟩,
  ⟨"_law_draw", P75_top 35, ["cell", "k"], P75_20⟩,
  ⟨"_law_digit", P75_top 36, ["state", "many", "found", "j"], P75_21⟩,
  ⟨"_law_signs", P75_top 37, ["state", "most", "turn", "every", "found", "some", "sign"], P75_22⟩,
  ⟨"_law_rows", P75_top 38, ["state", "many", "signs", "row", "sign"], P75_23⟩,
  ⟨"_law_sized", P75_top 39, ["state", "signs", "lefts", "rights", "outs", "left", "row", "sign", "some", "end"], P75_24⟩,
  ⟨"_law_rows_right", P75_top 40, ["rows", "signs", "row", "number"], P75_25⟩,
  ⟨"_law_shape", P75_top 41, ["thing", "signs", "row", "text", "sign"], P75_26⟩,
  ⟨"_law_caught", P75_top 42, ["asked", "thing", "e"], P75_27⟩,
  ⟨"_law_table", P75_top 43, ["rows", "row", "number"], P75_28⟩,
  ⟨"_law_numbers", P75_top 44, ["text", "words", "word", "sign"], P75_29⟩,
  ⟨"_law_read_table", P75_top 45, ["text", "rows", "row"], P75_30⟩,
  ⟨"_law_signs_right", P75_top 46, ["signs", "known", "bad", "at"], P75_31⟩,
  ⟨"_law_machine_due", P75_top 47, ["text", "thing", "parts", "tables", "at", "name", "rows", "row"], P75_32⟩,
  ⟨"_law_guard_due", P75_top 48, ["text", "parts", "rows", "good", "wrong", "at"], P75_33⟩,
  ⟨"_law_bent", P75_top 49, ["state", "text", "sign", "way", "at"], P75_34⟩,
  ⟨"_law_right", P75_top 50, ["state", "signs", "most", "machine", "rows", "guard", "outs", "texts", "turn", "bent", "row", "text"], P75_35⟩,
  ⟨"law", P75_top 51, ["script", "state", "bad", "k", "cell", "machine", "guard"], P75_36⟩
  ]
def P75_gl : List (PySem.Str × D) := [("ALL_SIGNS", (.str [97, 98, 99, 100, 101, 102, 103, 104, 105, 106, 107, 108, 109, 110, 111, 112, 113, 114, 115, 116, 117, 118, 119, 120, 121, 122, 48, 49, 50, 51, 52, 53, 54, 55, 56, 57, 46, 45, 35, 64, 36, 42, 43, 61])), ("MOST_SIGNS", (.int 8)), ("MOST_ROWS", (.int 60)), ("MACHINE_PARTS", (.ktup [(.str [115, 105, 103, 110, 115]), (.str [108, 101, 102, 116, 115]), (.str [114, 105, 103, 104, 116, 115]), (.str [111, 117, 116, 115])])), ("GUARD_PARTS", (.ktup [(.str [115, 105, 103, 110, 115]), (.str [114, 111, 119, 115]), (.str [103, 111, 111, 100])]))]
def P75_xs : List XcD := [⟨"BadMachine", "PlayError", "place", L2.inClass (P75_top 2) 0⟩, ⟨"BadGuard", "PlayError", "place", L2.inClass (P75_top 3) 0⟩, ⟨"BadText", "PlayError", "place", L2.inClass (P75_top 4) 0⟩]
def P75_dat : Dat := ⟨P75_ds, P75_gl, P75_xs⟩
-- law: def 36, statement 51; names of the top: __name__ PlayError BadMachine BadGuard BadText __name__ ALL_SIGNS MOST_SIGNS MOST_ROWS is_whole is_set is_signs __name__ are_rows is_told wrong_part need_machine __name__ wrong_guard need_guard __name__ MACHINE_PARTS GUARD_PARTS rows_text machine_text guard_text is_number numbers_by rows_by parts_by need_part read_machine read_guard __name__ _law_mixed _law_draw _law_digit _law_signs _law_rows _law_sized _law_rows_right _law_shape _law_caught _law_table _law_numbers _law_read_table _law_signs_right _law_machine_due _law_guard_due _law_bent _law_right law
end EV

section
namespace EV
def fs75 : List Fd := P75_dat.fs
end EV
end

section
set_option autoImplicit false
namespace EV
open PySem
local macro_rules | `(tactic| trivial) => `(tactic| repeat' (first
  | exact r_slot rfl | with_reducible exact r_cst | with_reducible exact r_glob | with_reducible exact r_fnv | with_reducible exact r_nil | with_reducible exact r_onone
  | (with_reducible apply r_cons)
  | (with_reducible apply r_bin)
  | (with_reducible apply r_cmp)
  | (with_reducible apply r_chain)
  | (with_reducible apply r_not)
  | (with_reducible apply r_isi)
  | (with_reducible apply r_and)
  | (with_reducible apply r_or)
  | (with_reducible apply r_ife2)
  | (with_reducible apply r_isN)
  | (with_reducible apply r_tup)
  | (with_reducible apply r_frz)
  | (with_reducible apply r_mut)
  | (with_reducible apply r_disp)
  | (with_reducible apply r_bi)
  | (with_reducible apply r_ix)
  | (with_reducible apply r_sl)
  | (with_reducible apply r_osome)
  | (with_reducible apply r_lc)
  | (with_reducible apply r_rng)
  | (with_reducible apply r_call)
  | (with_reducible apply r_dget)
  | (with_reducible apply q_ifret)
  | (with_reducible apply q_ifexc)
  | (with_reducible apply q_ret)
  | (with_reducible apply q_raise)
  | (with_reducible apply q_set)
  | (with_reducible apply q_ex)
  | with_reducible exact q_nil
  | ((with_reducible apply eq_use); with_reducible assumption)
  | ((with_reducible apply le_use); with_reducible assumption)
  | ((with_reducible apply okC_use); with_reducible assumption)
  | (apply eq_use; assumption)
  | exact Eq.refl _
  | (intro _)))
/-- is_set -/
def setB (t known : List Nat) : Bool := !decide (t = []) && (List.range t.length).all fun i => match t[i]? with
  | some c => decide (c ∈ known) && !decide (c ∈ t.take i)
  | none => false
theorem c_1 {n : Nat} {t known : List Nat} (hl : t.length ≤ big) : OkC (evFn fs75 (n + 1)) 1 [.str t, .str known] (.bl (setB t known)) := by
  refine okC_of (L1 := []) ?_ rfl rfl
  have lens := @len_s [] t hl
  apply run_at [some (.str t), some (.str known), none] (F := P75_1) rfl rfl rfl rfl
  · unfold P75_1; trivial
    · unfold big at hl; omega
    · rw [upto_len]; exact hl
    · refine comp_rng (g := fun i => .bl (match t[i]? with
        | some c => decide (c ∈ known) && !decide (c ∈ t.take i)
        | none => false)) fun i hi => ?_
      obtain ⟨c, hc⟩ : ∃ c, t[i]? = some c := ⟨_, List.getElem?_eq_getElem hi⟩
      have e1 := @ix_s [] t i c hl hc
      have e2 := @cut_s [] t i hl (by omega)
      simp only [hc]
      apply r_turn rfl
      trivial
    all_goals trivial
    · exact all_map _ _
  · simp only [setB]
    cases decide (t = []) <;> rfl
def ALL : List Nat := [97, 98, 99, 100, 101, 102, 103, 104, 105, 106, 107, 108, 109, 110, 111, 112, 113, 114, 115, 116, 117, 118, 119, 120, 121, 122, 48, 49, 50, 51, 52, 53, 54, 55, 56, 57, 46, 45, 35, 64, 36, 42, 43, 61]
def signsOK (t : List Nat) : Bool := decide (2 ≤ t.length) && decide (t.length ≤ 8) && setB t ALL
theorem c_2 {n : Nat} {t : List Nat} (hl : t.length ≤ big) : OkC (evFn fs75 (n + 2)) 2 [.str t] (.bl (signsOK t)) := by
  refine okC_of (L1 := []) ?_ rfl rfl
  have lens := @len_s [] t hl
  have e1 := @c_1 n t ALL hl
  unfold ALL at e1
  apply run_at [some (.str t)] (F := P75_2) rfl rfl rfl rfl
  · unfold P75_2; trivial
  · have h1 : decide ((2 : Int) ≤ (t.length : Int)) = decide (2 ≤ t.length) := decide_eq_decide.mpr (by omega)
    have h2 : decide ((t.length : Int) ≤ 8) = decide (t.length ≤ 8) := decide_eq_decide.mpr (by omega)
    rw [h1, h2]
    rfl
/-- is_number -/
def dig (c : Nat) : Bool := decide (c ∈ [48, 49, 50, 51, 52, 53, 54, 55, 56, 57])
def numOK (w : List Nat) : Bool := decide (1 ≤ w.length) && decide (w.length ≤ 3) && w.all dig && (decide (w = [48]) || !decide ([w.headD 0] = [48]))
theorem signs_map (w : List Nat) : signs w = w.map fun c => .str [c] := rfl
theorem ix_hd {L : Store} {t : List Nat} (h : t.length ≤ big) (hc : 1 ≤ t.length) : ixV L (.str t) (.int 0) = some (.str [t.headD 0]) := by
  cases t with
  | nil => simp at hc
  | cons c r => exact @ix_s L (c :: r) 0 c h rfl
theorem c_12 {n : Nat} {w : List Nat} (hl : w.length ≤ big) : OkC (evFn fs75 (n + 1)) 12 [.str w] (.bl (numOK w)) := by
  refine okC_of (L1 := []) ?_ rfl rfl
  have lens := @len_s [] w hl
  have h1 : decide ((1 : Int) ≤ (w.length : Int)) = decide (1 ≤ w.length) := decide_eq_decide.mpr (by omega)
  have h2 : decide ((w.length : Int) ≤ 3) = decide (w.length ≤ 3) := decide_eq_decide.mpr (by omega)
  have hs : (signs w).length ≤ big := by rw [signs_map, List.length_map]; exact hl
  have hc : compL (turnE (evFn fs75 n) false (.cmp .isin (.slot 1) (.cst (.str [48, 49, 50, 51, 52, 53, 54, 55, 56, 57]))) (.name 1) .none [1] [some (.str w), none]) (signs w) [] = .ok (w.map fun c => .bl (dig c)) [] := by
    rw [signs_map]
    refine comp_of fun c _ => ?_
    apply r_turn rfl
    trivial
  have ha := @all_map [] _ dig w
  apply run_at [some (.str w), none] (F := P75_12) rfl rfl rfl rfl
  · unfold P75_12; trivial
    rename_i h3 h4
    refine ix_hd hl ?_
    rw [h1, h2] at h3
    simp at h3
    omega
    trivial
  · rw [h1, h2]
    unfold numOK
    cases decide (1 ≤ w.length) <;> cases decide (w.length ≤ 3) <;> cases w.all dig <;> rfl
end EV
end

section
set_option autoImplicit false
namespace EV
open PySem
local macro_rules | `(tactic| trivial) => `(tactic| repeat' (first
  | exact r_slot rfl | with_reducible exact r_cst | with_reducible exact r_glob | with_reducible exact r_fnv | with_reducible exact r_nil | with_reducible exact r_onone
  | (with_reducible apply r_cons)
  | (with_reducible apply r_bin)
  | (with_reducible apply r_cmp)
  | (with_reducible apply r_chain)
  | (with_reducible apply r_not)
  | (with_reducible apply r_isi)
  | (with_reducible apply r_and)
  | (with_reducible apply r_or)
  | (with_reducible apply r_ife2)
  | (with_reducible apply r_isN)
  | (with_reducible apply r_tup)
  | (with_reducible apply r_frz)
  | (with_reducible apply r_mut)
  | (with_reducible apply r_disp)
  | (with_reducible apply r_bi)
  | (with_reducible apply r_ix)
  | (with_reducible apply r_sl)
  | (with_reducible apply r_osome)
  | (with_reducible apply r_lc)
  | (with_reducible apply r_rng)
  | (with_reducible apply r_call)
  | (with_reducible apply r_dget)
  | (with_reducible apply q_ifret)
  | (with_reducible apply q_ifexc)
  | (with_reducible apply q_ret)
  | (with_reducible apply q_raise)
  | (with_reducible apply q_set)
  | (with_reducible apply q_ex)
  | with_reducible exact q_nil
  | ((with_reducible apply eq_use); with_reducible assumption)
  | ((with_reducible apply le_use); with_reducible assumption)
  | ((with_reducible apply okC_use); with_reducible assumption)
  | (apply eq_use; assumption)
  | exact Eq.refl _
  | (intro _)))
theorem spl_lens (S : List Nat) : ∀ (t : List Nat) (k : Nat) (acc : List Nat), (∀ w ∈ TL.spl S k acc t, w.length ≤ acc.length + t.length) ∧ (TL.spl S k acc t).length ≤ t.length + 1
  | [], k, acc => by
    rw [TL.spl_nil]
    exact ⟨fun w h => by rw [List.mem_singleton.mp h]; exact Nat.le_add_right _ _, by simp⟩
  | c :: t, 0, acc => by
    unfold TL.spl
    split
    · obtain ⟨h1, h2⟩ := spl_lens S t (S.length - 1) []
      refine ⟨fun w h => ?_, by simp only [List.length_cons]; omega⟩
      rcases List.mem_cons.mp h with rfl | h
      · exact Nat.le_add_right _ _
      · have := h1 w h
        simp only [List.length_nil, List.length_cons] at *
        omega
    · obtain ⟨h1, h2⟩ := spl_lens S t 0 (acc ++ [c])
      refine ⟨fun w h => ?_, by simp only [List.length_cons]; omega⟩
      have := h1 w h
      simp only [List.length_append, List.length_cons, List.length_nil] at *
      omega
  | c :: t, k + 1, acc => by
    unfold TL.spl
    obtain ⟨h1, h2⟩ := spl_lens S t k acc
    refine ⟨fun w h => ?_, by simp only [List.length_cons]; omega⟩
    have := h1 w h
    simp only [List.length_cons]
    omega
/-- parts of a text -/
def cutAt (c : Nat) (t : List Nat) : List (List Nat) := TL.spl [c] 0 [] t
theorem cutAt_len {c : Nat} {t w : List Nat} (h : w ∈ cutAt c t) : w.length ≤ t.length := by
  have := (spl_lens [c] t 0 []).1 w h
  simpa using this
theorem cutAt_num (c : Nat) (t : List Nat) : (cutAt c t).length ≤ t.length + 1 := (spl_lens [c] t 0 []).2
theorem split_s {L : Store} {t : List Nat} {c : Nat} (hc : c < 256) (h : t.length + 2 ≤ big) : meV L .split (.str t) [.str [c]] = some (.lst ((cutAt c t).map .str)) := by
  unfold meV
  exact if_pos ⟨by simp, by simpa using hc, h⟩
def numV (w : List Nat) : Int := (NumText.digitsVal w : Nat)
theorem dig_iff (c : Nat) : dig c = (decide (48 ≤ c) && decide (c ≤ 57)) := by
  unfold dig
  rw [Bool.eq_iff_iff]
  simp only [decide_eq_true_eq, Bool.and_eq_true, List.mem_cons, List.not_mem_nil, or_false]
  omega
theorem int_s {L : Store} {w : List Nat} (h : numOK w = true) : biV L .int [.str w] = some (.int (numV w)) := by
  unfold numOK at h
  simp only [Bool.and_eq_true, decide_eq_true_eq] at h
  obtain ⟨⟨⟨h1, h2⟩, h3⟩, _⟩ := h
  have e := @SX.int_S w (by rw [← h3]; congr 1; funext c; exact (dig_iff c).symm) (by intro e; rw [e] at h1; simp at h1) (by omega)
  unfold biV
  simp only [if_pos (show w.length ≤ 640 by omega), e]
  rfl
/-- numbers_by -/
def numsOK (t : List Nat) : Bool := (cutAt 44 t).all numOK
def numsV (t : List Nat) : List Int := (cutAt 44 t).map numV
def intsD (l : List Int) : D := .tup (l.map .int)
theorem num_loop {n : Nat} {p : D} {a : Option D} {b : D → Env → Store → SR}
    (hb : b = fun d ρ L => match bindT (.name 3) d ρ with
      | some ρ' => evSs (evFn fs75 (n + 1)) (.cons (.ife (.not (.call 12 (.cons (.slot 3) .nil))) (.cons (.raise 2 (.slot 1)) .nil) .nil) (.cons (.ex (.meth .append (.slot 2) (.cons (.bi .int (.cons (.slot 3) .nil)) .nil))) .nil)) ρ' L
      | none => .bad) : ∀ {ws : List (List Nat)} {x : Option D} {acc : List D}, (∀ w ∈ ws, w.length ≤ big) → acc.length + ws.length < big →
    (ws.all numOK = true → ∃ y, forL b (ws.map .str) [a, some p, some (.obj 0), x] [.lst acc] = .next [a, some p, some (.obj 0), y] [.lst (acc ++ ws.map fun w => .int (numV w))]) ∧
    (ws.all numOK = false → ∃ ρ L, forL b (ws.map .str) [a, some p, some (.obj 0), x] [.lst acc] = .exc 2 p ρ L)
  | [], x, acc, _, _ => ⟨fun _ => ⟨x, by simp [forL_nil]⟩, fun h => by simp at h⟩
  | w :: ws, x, acc, hw, hl => by
    have c12 := @c_12 n w (hw w List.mem_cons_self)
    rw [List.map_cons, forL_cons, List.all_cons]
    simp only [List.length_cons] at hl
    cases e : numOK w with
    | false =>
      have : b (.str w) [a, some p, some (.obj 0), x] [.lst acc] = .exc 2 p [a, some p, some (.obj 0), some (.str w)] [.lst acc] := by
        rw [hb]
        show evSs _ _ [a, some p, some (.obj 0), some (.str w)] _ = _
        rw [e] at c12
        refine q_ife (p := true) (L1 := [.lst acc]) ?_ (fun _ => ?_) (fun h => absurd h (by decide))
        · exact r_not (p := false) (by trivial)
        · have : evSs (evFn fs75 (n + 1)) (.cons (.raise 2 (.slot 1)) .nil) [a, some p, some (.obj 0), some (.str w)] [.lst acc] = .exc 2 p [a, some p, some (.obj 0), some (.str w)] [.lst acc] := by trivial
          rw [this, seq_exc]
      rw [this]
      exact ⟨fun h => by simp at h, fun _ => ⟨_, _, rfl⟩⟩
    | true =>
      have : b (.str w) [a, some p, some (.obj 0), x] [.lst acc] = .next [a, some p, some (.obj 0), some (.str w)] [.lst (acc ++ [.int (numV w)])] := by
        rw [hb]
        show evSs _ _ [a, some p, some (.obj 0), some (.str w)] _ = _
        rw [e] at c12
        have iv := @int_s [.lst acc] w e
        refine q_ifr (p := false) (L1 := [.lst acc]) ?_ (fun h => absurd h (by decide)) (fun _ => ?_)
        · exact r_not (p := true) (by trivial)
        · refine q_ex (r_append (k := 0) (ds := acc) (L1 := [.lst acc]) (L2 := [.lst acc]) (y := .int (numV w)) ?_ rfl ?_ rfl (by omega)) ?_
          · trivial
          · trivial
          · trivial
      rw [this]
      obtain ⟨h1, h2⟩ := @num_loop n p a b hb ws (some (.str w)) (acc ++ [.int (numV w)]) (fun v hv => hw v (List.mem_cons_of_mem _ hv)) (by simp; omega)
      refine ⟨fun h => ?_, fun h => h2 (by simpa using h)⟩
      obtain ⟨y, hy⟩ := h1 (by simpa using h)
      exact ⟨y, by simp only [hy, List.append_assoc, List.map_cons, List.cons_append, List.nil_append]⟩
theorem tup_obj {L : Store} {k : Nat} {ds : List D} (h : L[k]? = some (.lst ds)) : biV L .tuple [.obj k] = some (.tup ds) := by
  unfold biV seqOf listOf
  simp only [h]
theorem c_13 {n : Nat} {t : List Nat} {p : List Nat} (hl : t.length + 2 ≤ big) : (numsOK t = true → OkC (evFn fs75 (n + 2)) 13 [.str t, .str p] (intsD (numsV t))) ∧ (numsOK t = false → ExC (evFn fs75 (n + 2)) 13 [.str t, .str p] 2 (.str p)) := by
  obtain ⟨h1, h2⟩ := @num_loop n (.str p) (some (.str t)) _ rfl (cutAt 44 t) none [] (fun w hw => Nat.le_trans (cutAt_len hw) (by omega)) (by have := cutAt_num 44 t; simp; omega)
  have sp := @split_s [.lst []] t 44 (by decide) hl
  constructor
  · intro h
    obtain ⟨y, hy⟩ := h1 h
    refine okC_of (L1 := [.lst ([] ++ (cutAt 44 t).map fun w => .int (numV w))]) ?_ rfl ?_
    · apply run_at [some (.str t), some (.str p), none, none] (F := P75_13) rfl rfl rfl rfl
      · unfold P75_13
        apply q_set
        · apply r_mut; apply r_disp; trivial; decide
        · apply q_for
          · apply r_vlst
            apply r_meth
            all_goals trivial
          · apply seq_of hy
            trivial
      · simp only [retS, intsD, numsV, List.nil_append, List.map_map]
        rfl
    · show purAll _ = true
      exact pur_of _ (fun _ => rfl) _
  · intro h
    obtain ⟨ρ, L, hy⟩ := h2 h
    refine exC_of (L1 := L) ?_ rfl rfl
    · apply run_at [some (.str t), some (.str p), none, none] (F := P75_13) rfl rfl rfl rfl
      · unfold P75_13
        apply q_set
        · apply r_mut; apply r_disp; trivial; decide
        · apply q_for
          · apply r_vlst
            apply r_meth
            all_goals trivial
          · exact seq_ofE hy
      · rfl
end EV
end

section
set_option autoImplicit false
namespace EV
open PySem
local macro_rules | `(tactic| trivial) => `(tactic| repeat' (first
  | exact r_slot rfl | with_reducible exact r_cst | with_reducible exact r_glob | with_reducible exact r_fnv | with_reducible exact r_nil | with_reducible exact r_onone
  | (with_reducible apply r_cons)
  | (with_reducible apply r_bin)
  | (with_reducible apply r_cmp)
  | (with_reducible apply r_chain)
  | (with_reducible apply r_not)
  | (with_reducible apply r_isi)
  | (with_reducible apply r_and)
  | (with_reducible apply r_or)
  | (with_reducible apply r_ife2)
  | (with_reducible apply r_isN)
  | (with_reducible apply r_tup)
  | (with_reducible apply r_frz)
  | (with_reducible apply r_mut)
  | (with_reducible apply r_disp)
  | (with_reducible apply r_bi)
  | (with_reducible apply r_ix)
  | (with_reducible apply r_sl)
  | (with_reducible apply r_osome)
  | (with_reducible apply r_lc)
  | (with_reducible apply r_rng)
  | (with_reducible apply r_call)
  | (with_reducible apply r_dget)
  | (with_reducible apply q_ifret)
  | (with_reducible apply q_ifexc)
  | (with_reducible apply q_ret)
  | (with_reducible apply q_raise)
  | (with_reducible apply q_set)
  | (with_reducible apply q_ex)
  | with_reducible exact q_nil
  | ((with_reducible apply eq_use); with_reducible assumption)
  | ((with_reducible apply le_use); with_reducible assumption)
  | ((with_reducible apply okC_use); with_reducible assumption)
  | (apply eq_use; assumption)
  | exact Eq.refl _
  | (intro _)))
def rowsD (l : List (List Int)) : D := .tup (l.map intsD)
def tabOK (t : List Nat) : Bool := (cutAt 59 t).all numsOK
def tabV (t : List Nat) : List (List Int) := (cutAt 59 t).map numsV
theorem intsD_pure (l : List Int) : (intsD l).pure = true := pur_of _ (fun _ => rfl) _
theorem rowsD_pure (l : List (List Int)) : (rowsD l).pure = true := pur_of _ intsD_pure _
theorem r_split {cf : Nat → List D → M D} {ρ : Env} {L L1 : Store} {a : E} {t : List Nat} {c : Nat} (h : evE cf a ρ L = .ok (.str t) L1) (hc : c < 256) (hl : t.length + 2 ≤ big) : evE cf (.meth .split a (.cons (.cst (.str [c])) .nil)) ρ L = .ok (.lst ((cutAt c t).map .str)) L1 :=
  r_meth h rfl (r_cons r_cst r_nil) (split_s hc hl)
theorem c_14 {n : Nat} {t : List Nat} {p : List Nat} (hl : t.length + 2 ≤ big) : (tabOK t = true → OkC (evFn fs75 (n + 3)) 14 [.str t, .str p] (rowsD (tabV t))) ∧ (tabOK t = false → ExC (evFn fs75 (n + 3)) 14 [.str t, .str p] 2 (.str p)) := by
  have hsz : ((cutAt 59 t).map D.str).length ≤ big := by rw [List.length_map]; have := cutAt_num 59 t; omega
  have hw : ∀ w ∈ cutAt 59 t, w.length + 2 ≤ big := fun w hw => by have := cutAt_len hw; omega
  have h1 : ∀ w ∈ cutAt 59 t, numsOK w = true → turnE (evFn fs75 (n + 2)) false (.call 13 (.cons (.slot 2) (.cons (.slot 1) .nil))) (.name 2) .none [2] [some (.str t), some (.str p), none] (.str w) [] = .ok (some (intsD (numsV w))) [] := fun w hm e => by
    have c := (@c_13 n w p (hw w hm)).1 e
    apply r_turn rfl
    trivial
  have h2 : ∀ w ∈ cutAt 59 t, numsOK w = false → turnE (evFn fs75 (n + 2)) false (.call 13 (.cons (.slot 2) (.cons (.slot 1) .nil))) (.name 2) .none [2] [some (.str t), some (.str p), none] (.str w) [] = .exc 2 (.str p) [] := fun w hm e => by
    have c := (@c_13 n w p (hw w hm)).2 e
    unfold turnE
    simp only [bindT, wipeD, evT, bind_ok, if_true]
    have : evE (evFn fs75 (n + 2)) (.call 13 (.cons (.slot 2) (.cons (.slot 1) .nil))) [some (.str t), some (.str p), some (.str w)] [] = .exc 2 (.str p) [] := r_callE (xs := [.str w, .str p]) (L1 := []) (by trivial) (c [])
    show noX false ((evE _ _ [some (.str t), some (.str p), some (.str w)] []).bind _) = _
    rw [this]
    rfl
  constructor
  · intro h
    have hc := comp_of (k := D.str) (g := fun w => intsD (numsV w)) (l := cutAt 59 t) fun w hm => h1 w hm (List.all_eq_true.mp h w hm)
    refine okC_of (L1 := []) ?_ rfl (rowsD_pure _)
    apply run_at [some (.str t), some (.str p), none] (F := P75_14) rfl rfl rfl rfl
    · unfold P75_14
      apply q_ret
      apply r_bi
      · apply r_cons
        · apply r_frz
          apply r_lc
          · apply r_vlst
            apply r_split
            · trivial
            · decide
            · exact hl
          · exact hsz
          · exact hc
        · trivial
      · rfl
    · simp only [retS, rowsD, tabV, List.map_map]
      rfl
  · intro h
    have hc := comp_exc (k := D.str) (g := fun w => intsD (numsV w)) (p := numsOK) (l := cutAt 59 t) h1 h2 h
    refine exC_of (L1 := []) ?_ rfl rfl
    apply run_at [some (.str t), some (.str p), none] (F := P75_14) rfl rfl rfl rfl
    · unfold P75_14
      apply q_retE
      apply r_biE
      apply r_consE
      apply r_frzE
      apply r_lcE
      · apply r_vlst
        apply r_split
        · trivial
        · decide
        · exact hl
      · exact hsz
      · exact hc
    · rfl
theorem c_15 {n : Nat} {t : List Nat} (hl : t.length + 2 ≤ big) : OkC (evFn fs75 (n + 1)) 15 [.str t] (.lst ((cutAt 124 t).map .str)) := by
  refine okC_of (L1 := []) ?_ rfl (pur_of _ (fun _ => rfl) _)
  have sp := @split_s [] t 124 (by decide) hl
  apply run_at [some (.str t)] (F := P75_15) rfl rfl rfl rfl
  · unfold P75_15
    apply q_skip
    · apply r_not (p := true); trivial
    · apply q_ret
      apply r_split
      · trivial
      · decide
      · exact hl
  · rfl
end EV
end

section
set_option autoImplicit false
namespace EV
open PySem
local macro_rules | `(tactic| trivial) => `(tactic| repeat' (first
  | exact r_slot rfl | with_reducible exact r_cst | with_reducible exact r_glob | with_reducible exact r_fnv | with_reducible exact r_nil | with_reducible exact r_onone
  | (with_reducible apply r_cons)
  | (with_reducible apply r_bin)
  | (with_reducible apply r_cmp)
  | (with_reducible apply r_chain)
  | (with_reducible apply r_not)
  | (with_reducible apply r_isi)
  | (with_reducible apply r_and)
  | (with_reducible apply r_or)
  | (with_reducible apply r_ife2)
  | (with_reducible apply r_isN)
  | (with_reducible apply r_tup)
  | (with_reducible apply r_frz)
  | (with_reducible apply r_mut)
  | (with_reducible apply r_disp)
  | (with_reducible apply r_bi)
  | (with_reducible apply r_ix)
  | (with_reducible apply r_sl)
  | (with_reducible apply r_osome)
  | (with_reducible apply r_lc)
  | (with_reducible apply r_rng)
  | (with_reducible apply r_call)
  | (with_reducible apply r_dget)
  | (with_reducible apply q_ifret)
  | (with_reducible apply q_ifexc)
  | (with_reducible apply q_ret)
  | (with_reducible apply q_raise)
  | (with_reducible apply q_set)
  | (with_reducible apply q_ex)
  | with_reducible exact q_nil
  | ((with_reducible apply eq_use); with_reducible assumption)
  | ((with_reducible apply le_use); with_reducible assumption)
  | ((with_reducible apply okC_use); with_reducible assumption)
  | (apply eq_use; assumption)
  | exact Eq.refl _
  | (intro _)))
/-! the law's own readers -/
theorem eq_nil {L : Store} {ds : List D} (h : shpAll 63 ds = true) : cmpV L .eq (.lst ds) (.lst []) = some ds.isEmpty := by
  unfold cmpV eqV
  simp only [derf, D.shp, h, shpAll, Bool.and_self, if_true, D.eqv]
  cases ds <;> rfl
theorem ne_nil {L : Store} {ds : List D} (h : shpAll 63 ds = true) : cmpV L .ne (.lst ds) (.lst []) = some (!ds.isEmpty) := by
  have := @eq_nil L ds h
  unfold cmpV at this ⊢
  simp only at this ⊢
  rw [this]
theorem filt_nil {α : Type} (g : α → Bool) (l : List α) : (l.filter fun a => !g a).isEmpty = l.all g := by
  induction l with
  | nil => rfl
  | cons a l ih => rw [List.filter_cons, List.all_cons]; cases g a <;> simp [ih]
theorem map_empty {α β : Type} (k : α → β) (l : List α) : (l.map k).isEmpty = l.isEmpty := by cases l <;> rfl
/-- [c for c in w if c not in known] != [] -/
theorem sieve {cf : Nat → List D → M D} {ρ : Env} {L : Store} {w known : List Nat} {s i : Nat} {e : E} (hw : ρ[s]? = some (some (.str w))) (hl : w.length ≤ big) (hi : i < ρ.length)
    (he : ∀ c : Nat, evE cf e ((ρ.set i none).set i (some (.str [c]))) L = .ok (.str known) L) :
    evE cf (.cmp .ne (.frz (.lc false (.slot i) (.name i) (.val (.slot s)) (.some (.cmp .notin (.slot i) e)) [i])) (.frz (.disp .nil))) ρ L = .ok (.bl (!(w.all fun c => decide (c ∈ known)))) L := by
  have hs : ∀ c : Nat, ((ρ.set i none).set i (some (.str [c])))[i]? = some (some (.str [c])) := fun c => by
    rw [List.getElem?_set_self (by rw [List.length_set]; exact hi)]
  have ht : ∀ c ∈ w, turnE cf false (.slot i) (.name i) (.some (.cmp .notin (.slot i) e)) [i] ρ (.str [c]) L = .ok (if (!decide (c ∈ known)) = true then some (.str [c]) else none) L := fun c _ => by
    refine r_turnT (L1 := L) (p := !decide (c ∈ known)) rfl ?_ ?_ ?_
    · exact r_cmp (r_slot (hs c)) (he c) rfl
    · intro h
      exact ⟨.str [c], r_slot (hs c), if_pos h⟩
    · intro h
      exact ⟨rfl, by rw [h]; rfl⟩
  have hc := comp_if (k := fun c => D.str [c]) ht
  have := @r_cmp cf ρ L L L (.frz (.lc false (.slot i) (.name i) (.val (.slot s)) (.some (.cmp .notin (.slot i) e)) [i])) (.frz (.disp .nil)) _ _ _ .ne (r_frz (r_lc (r_vstr (r_slot hw)) (by rw [signs_map, List.length_map]; exact hl) hc)) (r_frz (r_disp r_nil (by decide))) (ne_nil (shp_of 63 _ (fun _ => by unfold D.shp; rfl) _))
  rw [this, map_empty, filt_nil]
def DIG : List Nat := [48, 49, 50, 51, 52, 53, 54, 55, 56, 57]
theorem c_29 {n : Nat} {t : List Nat} (hl : t.length + 2 ≤ big) : OkC (evFn fs75 (n + 1)) 29 [.str t] (if numsOK t = true then intsD (numsV t) else .non) := by
  have hsz : ((cutAt 44 t).map D.str).length ≤ big := by rw [List.length_map]; have := cutAt_num 44 t; omega
  refine okC_of (L1 := []) ?_ rfl (by split <;> first | exact intsD_pure _ | rfl)
  have hb := @for_all (fun d ρ L => match bindT (.name 2) d ρ with
      | some ρ' => evSs (evFn fs75 n) ((.cons (.ife (.or (.cmp .eq (.slot 2) (.cst (.str []))) (.or (.cmp .gt (.bi .len (.cons (.slot 2) .nil)) (.cst (.int 3))) (.cmp .ne (.frz (.lc false (.slot 3) (.name 3) (.val (.slot 2)) (.some (.cmp .notin (.slot 3) (.cst (.str [48, 49, 50, 51, 52, 53, 54, 55, 56, 57])))) [3])) (.frz (.disp .nil)))))
(.cons (.ret (.cst .non))
.nil)
.nil)
(.cons (.ife (.and (.cmp .eq (.ix (.slot 2) (.cst (.int 0))) (.cst (.str [48]))) (.cmp .ne (.slot 2) (.cst (.str [48]))))
(.cons (.ret (.cst .non))
.nil)
.nil)
.nil))) ρ' L
      | none => .bad) _ D.str numOK (fun ρ => ∃ x y, ρ = [some (.str t), some (.lst ((cutAt 44 t).map .str)), x, y]) [] .non (cutAt 44 t) [some (.str t), some (.lst ((cutAt 44 t).map .str)), none, none] (fun w hm ρ hp => by
    obtain ⟨x, y, rfl⟩ := hp
    have hwl : w.length ≤ big := by have := cutAt_len hm; omega
    have lens := @len_s [] w hwl
    have sv := @sieve (evFn fs75 n) [some (.str t), some (.lst ((cutAt 44 t).map .str)), some (.str w), y] [] w DIG 2 3 (.cst (.str DIG)) rfl hwl (by simp) (fun c => r_cst)
    have h1 : decide ((3 : Int) < (w.length : Int)) = decide (3 < w.length) := decide_eq_decide.mpr (by omega)
    have : evSs (evFn fs75 n) ((.cons (.ife (.or (.cmp .eq (.slot 2) (.cst (.str []))) (.or (.cmp .gt (.bi .len (.cons (.slot 2) .nil)) (.cst (.int 3))) (.cmp .ne (.frz (.lc false (.slot 3) (.name 3) (.val (.slot 2)) (.some (.cmp .notin (.slot 3) (.cst (.str [48, 49, 50, 51, 52, 53, 54, 55, 56, 57])))) [3])) (.frz (.disp .nil)))))
(.cons (.ret (.cst .non))
.nil)
.nil)
(.cons (.ife (.and (.cmp .eq (.ix (.slot 2) (.cst (.int 0))) (.cst (.str [48]))) (.cmp .ne (.slot 2) (.cst (.str [48]))))
(.cons (.ret (.cst .non))
.nil)
.nil)
.nil))) [some (.str t), some (.lst ((cutAt 44 t).map .str)), some (.str w), y] [] = if (decide (w = []) || (decide (3 < w.length) || !(w.all dig))) = true then .ret .non [] else if (decide ([w.headD 0] = [48]) && !decide (w = [48])) = true then .ret .non [] else .next [some (.str t), some (.lst ((cutAt 44 t).map .str)), some (.str w), y] [] := by
      rw [← h1]
      apply q_ifret
      · apply r_or
        · trivial
        · intro _
          apply r_or
          · trivial
          · intro _; exact sv
      · trivial
      · intro h
        apply q_ifret
        · apply r_and
          · apply r_cmp
            · apply r_ix
              · trivial
              · trivial
              · refine ix_hd hwl ?_
                cases w with
                | nil => simp at h
                | cons c r => simp
            · trivial
            · trivial
          · trivial
        · trivial
        · trivial
    show (numOK w = true → ∃ ρ', _ ∧ evSs _ _ [some (.str t), some (.lst ((cutAt 44 t).map .str)), some (.str w), y] [] = _) ∧ (numOK w = false → evSs _ _ [some (.str t), some (.lst ((cutAt 44 t).map .str)), some (.str w), y] [] = _)
    rw [this]
    have hk : numOK w = (!(decide (w = []) || (decide (3 < w.length) || !(w.all dig))) && !(decide ([w.headD 0] = [48]) && !decide (w = [48]))) := by
      unfold numOK
      have e1 : decide (1 ≤ w.length) = !decide (w = []) := by cases w <;> simp
      have e2 : decide (w.length ≤ 3) = !decide (3 < w.length) := by rw [Bool.eq_iff_iff]; simp
      rw [e1, e2]
      cases decide (w = []) <;> cases decide (3 < w.length) <;> cases w.all dig <;> cases decide (w = [48]) <;> cases decide ([w.headD 0] = [48]) <;> rfl
    rw [hk]
    cases (decide (w = []) || (decide (3 < w.length) || !(w.all dig))) with
    | true => exact ⟨fun h => by simp at h, fun _ => rfl⟩
    | false =>
      cases (decide ([w.headD 0] = [48]) && !decide (w = [48])) with
      | true => exact ⟨fun h => by simp at h, fun _ => rfl⟩
      | false => exact ⟨fun _ => ⟨_, ⟨_, _, rfl⟩, rfl⟩, fun h => by simp at h⟩) ⟨none, none, rfl⟩
  apply run_at [some (.str t), none, none, none] (F := P75_29) rfl rfl rfl rfl (X := if numsOK t = true then .ret (intsD (numsV t)) [] else .ret .non [])
  · unfold P75_29
    apply q_set
    · apply r_split
      · trivial
      · decide
      · exact hl
    · apply q_for
      · apply r_vlst; trivial
      · cases e : numsOK t with
        | false => exact (seq_ofR (hb.2 e)).trans (by simp)
        | true =>
          obtain ⟨_, ⟨x, y, rfl⟩, h2⟩ := hb.1 e
          refine (seq_of h2 ?_).trans (if_pos rfl).symm
          have hc := comp_of (k := D.str) (g := fun w => D.int (numV w)) (L := []) (f := turnE (evFn fs75 n) false (.bi .int (.cons (.slot 2) .nil)) (.name 2) .none [2] [some (.str t), some (.lst ((cutAt 44 t).map .str)), x, y]) (l := cutAt 44 t) fun w hm => by
            have iv := @int_s [] w (List.all_eq_true.mp e w hm)
            apply r_turn rfl
            trivial
          refine q_ret (r_bi (r_cons (r_frz (r_lc (r_vlst (r_slot rfl)) hsz hc)) r_nil) ?_)
          simp only [intsD, numsV, List.map_map]
          rfl
  · cases numsOK t <;> rfl
end EV
end

section
set_option autoImplicit false
namespace EV
open PySem
local macro_rules | `(tactic| trivial) => `(tactic| repeat' (first
  | exact r_slot rfl | with_reducible exact r_cst | with_reducible exact r_glob | with_reducible exact r_fnv | with_reducible exact r_nil | with_reducible exact r_onone
  | (with_reducible apply r_cons)
  | (with_reducible apply r_bin)
  | (with_reducible apply r_cmp)
  | (with_reducible apply r_chain)
  | (with_reducible apply r_not)
  | (with_reducible apply r_isi)
  | (with_reducible apply r_and)
  | (with_reducible apply r_or)
  | (with_reducible apply r_ife2)
  | (with_reducible apply r_isN)
  | (with_reducible apply r_tup)
  | (with_reducible apply r_frz)
  | (with_reducible apply r_mut)
  | (with_reducible apply r_disp)
  | (with_reducible apply r_bi)
  | (with_reducible apply r_ix)
  | (with_reducible apply r_sl)
  | (with_reducible apply r_osome)
  | (with_reducible apply r_lc)
  | (with_reducible apply r_rng)
  | (with_reducible apply r_call)
  | (with_reducible apply r_dget)
  | (with_reducible apply q_ifret)
  | (with_reducible apply q_ifexc)
  | (with_reducible apply q_ret)
  | (with_reducible apply q_raise)
  | (with_reducible apply q_set)
  | (with_reducible apply q_ex)
  | with_reducible exact q_nil
  | ((with_reducible apply eq_use); with_reducible assumption)
  | ((with_reducible apply le_use); with_reducible assumption)
  | ((with_reducible apply okC_use); with_reducible assumption)
  | (apply eq_use; assumption)
  | exact Eq.refl _
  | (intro _)))
/-- read_table -/
theorem c_30 {n : Nat} {t : List Nat} (hl : t.length + 2 ≤ big) : OkC (evFn fs75 (n + 2)) 30 [.str t] (if tabOK t = true then rowsD (tabV t) else .non) := by
  have hsz : ((cutAt 59 t).map D.str).length ≤ big := by rw [List.length_map]; have := cutAt_num 59 t; omega
  refine okC_of (L1 := []) ?_ rfl (by split <;> first | exact rowsD_pure _ | rfl)
  have hc := comp_of (k := D.str) (g := fun w => if numsOK w = true then intsD (numsV w) else .non) (L := []) (f := turnE (evFn fs75 (n + 1)) false (.call 29 (.cons (.slot 2) .nil)) (.name 2) .none [2] [some (.str t), none, none]) (l := cutAt 59 t) fun w hm => by
    have c := @c_29 n w (by have := cutAt_len hm; omega)
    apply r_turn rfl
    trivial
  have hn : ∀ (L : Store) (l : List (List Nat)), cmpV L .isin .non (.lst (l.map fun w => if numsOK w = true then intsD (numsV w) else .non)) = some (!l.all numsOK) := fun L l => by
    unfold cmpV inV
    simp only [seqOf, listOf]
    have hs : shpAll 63 (l.map fun w => if numsOK w = true then intsD (numsV w) else .non) = true := shp_of 63 _ (fun w => by
      split
      · unfold intsD D.shp; exact shp_ints _ _
      · unfold D.shp; rfl) l
    have ha : (l.map fun w => if numsOK w = true then intsD (numsV w) else .non).any (fun d => d.eqv .non) = !l.all numsOK := by
      rw [List.any_map]
      induction l with
      | nil => rfl
      | cons w l ih =>
        rw [List.any_cons, List.all_cons, ih (shp_of 63 _ (fun w => by
          split
          · unfold intsD D.shp; exact shp_ints _ _
          · unfold D.shp; rfl) l)]
        simp only [Function.comp]
        cases numsOK w with
        | true => simp [intsD, D.eqv]
        | false => simp [D.eqv]
    rw [ha]
    split
    · rfl
    · rw [hs]; rfl
  apply run_at [some (.str t), none, none] (F := P75_30) rfl rfl rfl rfl (X := if tabOK t = true then .ret (rowsD (tabV t)) [] else .ret .non [])
  · unfold P75_30
    apply q_set
    · apply r_frz
      apply r_lc
      · apply r_vlst
        apply r_split
        · trivial
        · decide
        · exact hl
      · exact hsz
      · exact hc
    · have h1 := hn [] (cutAt 59 t)
      cases e : tabOK t with
      | false =>
        have e' : (cutAt 59 t).all numsOK = false := e
        rw [e'] at h1
        exact (q_ret (r_ife (x := .non) (p := true) (r_cmp r_cst (r_slot rfl) h1) (fun _ => r_cst) (fun h => absurd h (by decide)))).trans (by simp)
      | true =>
        have e' : (cutAt 59 t).all numsOK = true := e
        rw [e'] at h1
        refine (q_ret (r_ife (x := rowsD (tabV t)) (p := false) (r_cmp r_cst (r_slot rfl) h1) (fun h => absurd h (by decide)) (fun _ => r_bi (r_cons (r_slot rfl) r_nil) ?_))).trans (if_pos rfl).symm
        show some (D.tup _) = _
        congr 2
        rw [tabV, List.map_map]
        refine List.map_congr_left fun w hm => ?_
        rw [if_pos (List.all_eq_true.mp e' w hm)]
        rfl
  · cases tabOK t <;> rfl
end EV
end

section
set_option autoImplicit false
namespace EV
open PySem
local macro_rules | `(tactic| trivial) => `(tactic| repeat' (first
  | exact r_slot rfl | with_reducible exact r_cst | with_reducible exact r_glob | with_reducible exact r_fnv | with_reducible exact r_nil | with_reducible exact r_onone
  | (with_reducible apply r_cons)
  | (with_reducible apply r_bin)
  | (with_reducible apply r_cmp)
  | (with_reducible apply r_chain)
  | (with_reducible apply r_not)
  | (with_reducible apply r_isi)
  | (with_reducible apply r_and)
  | (with_reducible apply r_or)
  | (with_reducible apply r_ife2)
  | (with_reducible apply r_isN)
  | (with_reducible apply r_tup)
  | (with_reducible apply r_frz)
  | (with_reducible apply r_mut)
  | (with_reducible apply r_disp)
  | (with_reducible apply r_bi)
  | (with_reducible apply r_ix)
  | (with_reducible apply r_sl)
  | (with_reducible apply r_osome)
  | (with_reducible apply r_lc)
  | (with_reducible apply r_rng)
  | (with_reducible apply r_call)
  | (with_reducible apply r_dget)
  | (with_reducible apply q_ifret)
  | (with_reducible apply q_ifexc)
  | (with_reducible apply q_ret)
  | (with_reducible apply q_raise)
  | (with_reducible apply q_set)
  | (with_reducible apply q_ex)
  | with_reducible exact q_nil
  | ((with_reducible apply eq_use); with_reducible assumption)
  | ((with_reducible apply le_use); with_reducible assumption)
  | ((with_reducible apply okC_use); with_reducible assumption)
  | (apply eq_use; assumption)
  | exact Eq.refl _
  | (intro _)))
/-- rows: at least one, at most sixty, each of m numbers below their count -/
def rowOK (k m : Nat) (row : List Int) : Bool := decide (row.length = m) && row.all fun x => decide (0 ≤ x) && decide (x < (k : Int))
def rowsOK (l : List (List Int)) (m : Nat) : Bool := decide (1 ≤ l.length) && decide (l.length ≤ 60) && l.all (rowOK l.length m)
theorem len_t {L : Store} {ds : List D} : biV L .len [.tup ds] = some (.int ds.length) := rfl
theorem c_25 {n : Nat} {l : List (List Int)} {s : List Nat} (hs : s.length ≤ big) : OkC (evFn fs75 (n + 1)) 25 [rowsD l, .str s] (.bl (rowsOK l s.length)) := by
  refine okC_of (L1 := []) ?_ (by rw [purAll_cons, rowsD_pure]; rfl) rfl
  have lens := @len_s [] s hs
  have hin := fun (row : List Int) (y : Option D) => @for_all (fun d ρ L => match bindT (.name 3) d ρ with
      | some ρ' => evSs (evFn fs75 n) ((.cons (.ife (.or (.not (.isi (.slot 3) .int)) (.or (.isi (.slot 3) .bool) (.not (.chain .le .lt (.cst (.int 0)) (.slot 3) (.bi .len (.cons (.slot 0) .nil))))))
(.cons (.ret (.cst (.bl false)))
.nil)
.nil)
.nil)) ρ' L
      | none => .bad) _ D.int (fun x => decide (0 ≤ x) && decide (x < (l.length : Int))) (fun ρ => ∃ y, ρ = [some (rowsD l), some (.str s), some (intsD row), y]) [] (.bl false) row [some (rowsD l), some (.str s), some (intsD row), y] (fun x hm ρ hp => by
    obtain ⟨y, rfl⟩ := hp
    have ll : biV [] .len [rowsD l] = some (.int l.length) := by unfold rowsD; rw [len_t, List.length_map]
    have : evSs (evFn fs75 n) ((.cons (.ife (.or (.not (.isi (.slot 3) .int)) (.or (.isi (.slot 3) .bool) (.not (.chain .le .lt (.cst (.int 0)) (.slot 3) (.bi .len (.cons (.slot 0) .nil))))))
(.cons (.ret (.cst (.bl false)))
.nil)
.nil)
.nil)) [some (rowsD l), some (.str s), some (intsD row), some (.int x)] [] = if (!(decide (0 ≤ x) && decide (x < (l.length : Int)))) = true then .ret (.bl false) [] else .next [some (rowsD l), some (.str s), some (intsD row), some (.int x)] [] := by
      apply q_ifret
      · apply r_or (p := false)
        · trivial
        · intro _
          apply r_or (p := false)
          · trivial
          · intro _; exact r_not (r_chain r_cst (r_slot rfl) rfl (r_bi (r_cons (r_slot rfl) r_nil) ll) rfl)
      · trivial
      · trivial
    show (_ → ∃ ρ', _ ∧ evSs _ _ [some (rowsD l), some (.str s), some (intsD row), some (.int x)] [] = _) ∧ (_ → evSs _ _ [some (rowsD l), some (.str s), some (intsD row), some (.int x)] [] = _)
    rw [this]
    cases (decide (0 ≤ x) && decide (x < (l.length : Int))) with
    | false => exact ⟨fun h => by simp at h, fun _ => rfl⟩
    | true => exact ⟨fun _ => ⟨_, ⟨_, rfl⟩, rfl⟩, fun h => by simp at h⟩) ⟨y, rfl⟩
  have hout := @for_all (fun d ρ L => match bindT (.name 2) d ρ with
      | some ρ' => evSs (evFn fs75 n) ((.cons (.ife (.or (.not (.isi (.slot 2) .tuple)) (.cmp .ne (.bi .len (.cons (.slot 2) .nil)) (.bi .len (.cons (.slot 1) .nil))))
(.cons (.ret (.cst (.bl false)))
.nil)
.nil)
(.cons (.for_ (.name 3) (.val (.slot 2))
(.cons (.ife (.or (.not (.isi (.slot 3) .int)) (.or (.isi (.slot 3) .bool) (.not (.chain .le .lt (.cst (.int 0)) (.slot 3) (.bi .len (.cons (.slot 0) .nil))))))
(.cons (.ret (.cst (.bl false)))
.nil)
.nil)
.nil))
.nil))) ρ' L
      | none => .bad) _ intsD (rowOK l.length s.length) (fun ρ => ∃ x y, ρ = [some (rowsD l), some (.str s), x, y]) [] (.bl false) l [some (rowsD l), some (.str s), none, none] (fun row hm ρ hp => by
    obtain ⟨x, y, rfl⟩ := hp
    obtain ⟨i1, i2⟩ := hin row y
    have lr : biV [] .len [intsD row] = some (.int row.length) := by unfold intsD; rw [len_t, List.length_map]
    have ht : evE (evFn fs75 n) (.or (.not (.isi (.slot 2) .tuple)) (.cmp .ne (.bi .len (.cons (.slot 2) .nil)) (.bi .len (.cons (.slot 1) .nil)))) [some (rowsD l), some (.str s), some (intsD row), y] [] = .ok (.bl (!decide (row.length = s.length))) [] := by
      have := @r_or (evFn fs75 n) [some (rowsD l), some (.str s), some (intsD row), y] [] [] (.not (.isi (.slot 2) .tuple)) (.cmp .ne (.bi .len (.cons (.slot 2) .nil)) (.bi .len (.cons (.slot 1) .nil))) false (!decide ((row.length : Int) = (s.length : Int))) (r_not (p := true) (r_isi (r_slot rfl) rfl)) (fun _ => r_cmp (r_bi (r_cons (r_slot rfl) r_nil) lr) (r_bi (r_cons (r_slot rfl) r_nil) lens) rfl)
      rw [this, Bool.false_or, decide_eq_decide.mpr (Int.ofNat_inj)]
    show (_ → ∃ ρ', _ ∧ evSs _ _ [some (rowsD l), some (.str s), some (intsD row), y] [] = _) ∧ (_ → evSs _ _ [some (rowsD l), some (.str s), some (intsD row), y] [] = _)
    unfold rowOK
    cases e : decide (row.length = s.length) with
    | false =>
      rw [e] at ht
      exact ⟨fun h => by simp at h, fun _ => q_take ht (q_ret r_cst)⟩
    | true =>
      rw [e] at ht
      rw [Bool.true_and]
      refine ⟨fun h => ?_, fun h => ?_⟩
      · obtain ⟨_, ⟨z, rfl⟩, h2⟩ := i1 h
        exact ⟨_, ⟨_, _, rfl⟩, q_skip ht (q_for (r_vtup (r_slot rfl)) (seq_of h2 q_nil))⟩
      · exact q_skip ht (q_for (r_vtup (r_slot rfl)) (seq_ofR (i2 h)))) ⟨none, none, rfl⟩
  have ll : biV [] .len [rowsD l] = some (.int l.length) := by unfold rowsD; rw [len_t, List.length_map]
  have h1 : decide ((1 : Int) ≤ (l.length : Int)) = decide (1 ≤ l.length) := decide_eq_decide.mpr (by omega)
  have h2 : decide ((l.length : Int) ≤ 60) = decide (l.length ≤ 60) := decide_eq_decide.mpr (by omega)
  apply run_at [some (rowsD l), some (.str s), none, none] (F := P75_25) rfl rfl rfl rfl (X := .ret (.bl (rowsOK l s.length)) [])
  · unfold P75_25 rowsOK
    have ht : evE (evFn fs75 n) (.or (.not (.isi (.slot 0) .tuple)) (.not (.chain .le .le (.cst (.int 1)) (.bi .len (.cons (.slot 0) .nil)) (.cst (.int 60))))) [some (rowsD l), some (.str s), none, none] [] = .ok (.bl (!(decide (1 ≤ l.length) && decide (l.length ≤ 60)))) [] := by
      rw [← h1, ← h2]
      exact r_or (p := false) (q := !(decide ((1 : Int) ≤ (l.length : Int)) && decide ((l.length : Int) ≤ 60))) (r_not (p := true) (r_isi (r_slot rfl) rfl)) (fun _ => r_not (r_chain r_cst (r_bi (r_cons (r_slot rfl) r_nil) ll) rfl r_cst rfl))
    cases e : (decide (1 ≤ l.length) && decide (l.length ≤ 60)) with
    | false =>
      rw [e] at ht
      exact q_take ht (q_ret r_cst)
    | true =>
      rw [e] at ht
      refine q_skip ht (q_for (r_vtup (r_slot rfl)) ?_)
      rw [Bool.true_and]
      cases e2 : l.all (rowOK l.length s.length) with
      | false => exact seq_ofR (hout.2 e2)
      | true =>
        obtain ⟨_, ⟨x, y, rfl⟩, h2⟩ := hout.1 e2
        exact seq_of h2 (q_ret r_cst)
  · rfl
end EV
end

section
set_option autoImplicit false
namespace EV
open PySem
local macro_rules | `(tactic| trivial) => `(tactic| repeat' (first
  | exact r_slot rfl | with_reducible exact r_cst | with_reducible exact r_glob | with_reducible exact r_fnv | with_reducible exact r_nil | with_reducible exact r_onone
  | (with_reducible apply r_cons)
  | (with_reducible apply r_bin)
  | (with_reducible apply r_cmp)
  | (with_reducible apply r_chain)
  | (with_reducible apply r_not)
  | (with_reducible apply r_isi)
  | (with_reducible apply r_and)
  | (with_reducible apply r_or)
  | (with_reducible apply r_ife2)
  | (with_reducible apply r_isN)
  | (with_reducible apply r_tup)
  | (with_reducible apply r_frz)
  | (with_reducible apply r_mut)
  | (with_reducible apply r_disp)
  | (with_reducible apply r_bi)
  | (with_reducible apply r_ix)
  | (with_reducible apply r_sl)
  | (with_reducible apply r_osome)
  | (with_reducible apply r_lc)
  | (with_reducible apply r_rng)
  | (with_reducible apply r_call)
  | (with_reducible apply r_dget)
  | (with_reducible apply q_ifret)
  | (with_reducible apply q_ifexc)
  | (with_reducible apply q_ret)
  | (with_reducible apply q_raise)
  | (with_reducible apply q_set)
  | (with_reducible apply q_ex)
  | with_reducible exact q_nil
  | ((with_reducible apply eq_use); with_reducible assumption)
  | ((with_reducible apply le_use); with_reducible assumption)
  | ((with_reducible apply okC_use); with_reducible assumption)
  | (apply eq_use; assumption)
  | exact Eq.refl _
  | (intro _)))
/-- 31: signs_right is signsOK -/
theorem c_31 {n : Nat} {s : List Nat} (hs : s.length ≤ big) : OkC (evFn fs75 (n + 1)) 31 [.str s] (.bl (signsOK s)) := by
  refine okC_of (L1 := []) ?_ rfl rfl
  have lens := @len_s [] s hs
  have h1 : decide ((2 : Int) ≤ (s.length : Int)) = decide (2 ≤ s.length) := decide_eq_decide.mpr (by omega)
  have h2 : decide ((s.length : Int) ≤ 8) = decide (s.length ≤ 8) := decide_eq_decide.mpr (by omega)
  have ht : ∀ i ∈ List.range s.length, turnE (evFn fs75 n) false (.slot 3) (.name 3) (.some (.or (.cmp .notin (.ix (.slot 0) (.slot 3)) (.slot 1)) (.cmp .isin (.ix (.slot 0) (.slot 3)) (.sl (.slot 0) .none (.some (.slot 3)))))) [3] [some (.str s), some (.str ALL), none, none] (.int (i : Int)) [] = .ok (if (!(match s[i]? with
        | some c => decide (c ∈ ALL) && !decide (c ∈ s.take i)
        | none => false)) = true then some (.int (i : Int)) else none) [] := fun i hi => by
    have hi' := List.mem_range.mp hi
    obtain ⟨c, hc⟩ : ∃ c, s[i]? = some c := ⟨_, List.getElem?_eq_getElem hi'⟩
    have e1 := @ix_s [] s i c hs hc
    have e2 := @cut_s [] s i hs (by omega)
    simp only [hc]
    refine r_turnT (L1 := []) (p := !decide (c ∈ ALL) || decide (c ∈ s.take i)) (ρ' := [some (.str s), some (.str ALL), none, some (.int (i : Int))]) rfl ?_ ?_ ?_
    · exact r_or (r_cmp (r_ix (r_slot rfl) (r_slot rfl) e1) (r_slot rfl) rfl) fun _ => r_cmp (r_ix (r_slot rfl) (r_slot rfl) e1) (r_sl (r_slot rfl) r_onone (r_osome (r_slot rfl)) e2) rfl
    · intro h
      refine ⟨.int i, r_slot rfl, if_pos ?_⟩
      rw [← h]
      cases decide (c ∈ ALL) <;> cases decide (c ∈ s.take i) <;> rfl
    · intro h
      refine ⟨rfl, if_neg ?_⟩
      revert h
      cases decide (c ∈ ALL) <;> cases decide (c ∈ s.take i) <;> decide
  have hc := comp_if (k := fun i : Nat => D.int i) ht
  rw [← upto0] at hc
  apply run_at [some (.str s), none, none, none] (F := P75_31) rfl rfl rfl rfl (X := .ret (.bl (signsOK s)) [])
  · unfold P75_31
    refine q_set r_cst (q_set (r_frz (r_lc (r_rng (r_bi (r_cons (r_slot rfl) r_nil) lens) (by unfold big at hs; omega)) (by rw [Int.toNat_natCast, upto_len]; exact hs) hc)) ?_)
    have hz : cmpV [] .eq (.lst (((List.range s.length).filter fun i => !(match s[i]? with
        | some c => decide (c ∈ ALL) && !decide (c ∈ s.take i)
        | none => false)).map fun i : Nat => D.int i)) (.lst []) = some ((List.range s.length).all fun i => match s[i]? with
        | some c => decide (c ∈ ALL) && !decide (c ∈ s.take i)
        | none => false) := by
      rw [eq_nil (shp_of 63 _ (fun _ => by unfold D.shp; rfl) _), map_empty, filt_nil]
    have := @r_and (evFn fs75 n) [some (.str s), some (.str ALL), some (.lst (((List.range s.length).filter fun i => !(match s[i]? with
        | some c => decide (c ∈ ALL) && !decide (c ∈ s.take i)
        | none => false)).map fun i : Nat => D.int i)), none] [] [] (.chain .le .le (.cst (.int 2)) (.bi .len (.cons (.slot 0) .nil)) (.cst (.int 8))) (.cmp .eq (.slot 2) (.frz (.disp .nil))) _ _ (r_chain r_cst (r_bi (r_cons (r_slot rfl) r_nil) lens) rfl r_cst rfl) (fun _ => r_cmp (r_slot rfl) (r_frz (r_disp r_nil (by decide))) hz)
    refine (q_ret this).trans ?_
    rw [h1, h2]
    congr 2
    unfold signsOK setB
    cases s with
    | nil => rfl
    | cons c r =>
      have hd : (!decide (c :: r = [])) = true := by simp
      rw [hd, Bool.true_and] <;> rfl
  · rfl
end EV
end

section
namespace EV
open PySem
local macro_rules | `(tactic| trivial) => `(tactic| simp (config := {contextual := true, maxSteps := 1000000, implicitDefEqProofs := false}) (disch := first | with_reducible assumption | omega | (simp only [List.length_map, List.length_set, upto_len, List.length_cons, List.length_nil, List.length_append, big, Bool.not_eq_true, Bool.not_eq_true', Bool.not_eq_false', Bool.and_eq_true, decide_eq_true_eq, decide_eq_false_iff_not] at *; omega)) only [x_slot, x_cst, x_glob, x_fnv, x_bin, x_neg, x_not, x_cmp, x_chain, x_isN, x_notN, x_and, x_or, x_ife, x_tup, x_frz, x_mut, x_call, x_callk, x_callv, x_bi, x_split, x_join, x_index, x_append, x_ix, x_dget, x_sl, x_isi, x_dnew, x_xfld, x_tupr, x_nil, x_cons, x_onone, x_osome, x_tnone, x_tsome, x_knil, x_kcons, x_disp, x_lc, x_fsl, x_rev, x_cat, x_lis, x_val, x_rng, x_rng2, x_enum, x_zip, x_turn, x_comp, y_nil, y_cons, y_set, y_par, y_asg, y_setIx, y_setK, y_ex, y_ife, y_body, y_for, y_forW, y_turn, y_done, y_ret, y_retN, y_raise, y_pass, y_brk, y_cont, y_try, y_hs, kBin2, kBin1, kCmp2, kCmp1, kBool, kNot, kNeg, kCh3, kCh2, kCh1b, kCh1, kIsN, kNotN, kAnd, kOr, kIfe, kTup, kFrz, kMut, kCall, kCallk, kCallv, kBi, kMe2, kMe1, kAp3, kAp2, kAp1, kIx2, kIx1, kDg2, kDg1, kSl3, kSl2, kSl1, kIsi, kDnew, kTupr, kEs2, kEs1, kInt, kTst, kK4, kK3, kK2, kK1, kDisp, kLc, kFs4, kFs3, kFs2, kFs1, kRev2, kRev, kCat4, kCat3, kCat2, kCat1, kLis, kVal, kRng, kRng2b, kRng2, kEnum, kZip2, kZip1, kSome, kTn2, kTn1, jSeq, jSet, jPar, jAsg, jSx3, jSx2, jSx1, jSk3, jSk2, jSk1, jEx, jIf, jBody, jFor, jExc, bind_ok, bind_exc, bind_bad, then_ok, then_exc, then_bad, seq_next, seq_ret, seq_exc, seq_brk, seq_cont, seq_bad, optR_some, blR_some, slotR_some, condR_t, condR_f, condS_t, condS_f, condR_bl, condS_bl, join_and, join_or, bind_ite, then_ite, seq_ite, negR_int, notR_bl, boolR_bl, isNon_non, isNon_int, isNon_str, isNon_tup, isNon_lst, isNon_obj, sizR_0, sizR_1, sizR_2, sizR_3, sizR_4, sizR_5, sizR_6, sizR_7, sizR_8, sizR_ok, intR_int, tstR_bl, recvA_obj, recvL_lst, appR_obj, appL_ok, setKS_obj, setKO_str, setIxS_obj, valO_lst, valR_obj, recvS_str, xfR_ok, tuprR_int, lstR_some, valR_lst, valR_tup, valR_ktup, valR_str, rngR_int, rng2R_int, enumR_lst, zipR_lst, zipR_tup, callvR_ok, noX_ok, noX_ite, noX_f, bindT_name, bindT_tup, bindT_ktup, bindTs_nil, bindTs_cons, wipe_nil, wipe_cons, envS_some, envB_some, loop_next, loop_cont, loop_brk, loop_ret, loop_exc, loop_ite, tryS_exc, tryS_ret, tryS_next, endH_ret, retS_next, retS_ret, retS_exc, retS_ite, setAll, o_isi_int_non, o_isi_int_bl, o_isi_int_int, o_isi_int_str, o_isi_int_tup, o_isi_int_ktup, o_isi_int_lst, o_isi_str_non, o_isi_str_bl, o_isi_str_int, o_isi_str_str, o_isi_str_tup, o_isi_str_ktup, o_isi_str_lst, o_isi_bool_non, o_isi_bool_bl, o_isi_bool_int, o_isi_bool_str, o_isi_bool_tup, o_isi_bool_ktup, o_isi_bool_lst, o_isi_tuple_non, o_isi_tuple_bl, o_isi_tuple_int, o_isi_tuple_str, o_isi_tuple_tup, o_isi_tuple_ktup, o_isi_tuple_lst, o_isi_list_non, o_isi_list_bl, o_isi_list_int, o_isi_list_str, o_isi_list_tup, o_isi_list_ktup, o_isi_list_lst, o_add_ii, o_sub_ii, o_add_ss, o_add_tt, o_add_ll, o_mul_il, o_mul_ir, o_pow_ii, o_dget, dictG_str, dictG_int, keyOf_s, keyOf_i, getset, dnewR_3, o_mod_ii, o_fdiv_ii, o_eq_int, o_eq_str, o_eq_bl, o_ne_int, o_ne_str, o_ne_bl, o_lt_i, o_le_i, o_gt_i, o_ge_i, o_in_s, o_nin_s, o_eq_d, o_ne_d, o_len_s, o_len_t, o_len_kt, o_len_l, o_tup_l, o_tup_t, oTup_l, oLen_l, oIx_l, oLst_l, o_tup_o, o_len_o, o_all, o_any, o_str_i, o_int_i, o_sum, o_join, o_join_t, o_split, atI_0, atI_1, atI_2, atI_3, o_ix_t, o_ix_kt, o_ix_l, o_ix_o, o_ix_s, o_sl_s, o_sl_t, o_sl_l, o_lof_l, o_sof_l, o_sof_t, o_lof_o, List.getElem?_cons_zero, List.getElem?_cons_succ, List.set_cons_zero, List.set_cons_succ, Option.bind_some, List.length_cons, List.length_nil, if_true, if_false, Bool.not_true, Bool.not_false, Bool.and_true, Bool.true_and, Bool.and_false, Bool.false_and, Bool.or_true, Bool.true_or, Bool.or_false, Bool.false_or, Bool.not_not, ite_true, ite_false, reduceIte, Nat.reduceAdd, Int.reduceAdd, Int.reduceSub, Int.reduceMod, Int.reduceMul, Nat.reduceLT, reduceCtorEq, startD, List.map_cons, List.map_nil, List.replicate_succ, List.replicate_zero, List.cons_append, List.nil_append, Nat.reduceSub, decide_true, decide_false, true_and, and_true, eq_self, Int.reduceEq, Int.reduceNe, Int.reduceLT, Int.reduceLE, Nat.reduceEqDiff, Int.reduceToNat, Nat.reduceLeDiff, List.length_map, signs_mp, join_opt, ne_nil_s, ne_nil_i, ne_nil_n, isEmpty_filt, upto_z, compL_nil, Int.toNat_natCast, id_eq, List.length_set, cst0, cst1, cst2, cst3, cst4, cst5, cst6, ne_eq, not_true_eq_false, not_false_eq_true, *])
local macro_rules | `(tactic| bv_omega) => `(tactic| (first | rfl | (simp [-List.all_eq_true] at *; done) | (simp [-List.all_eq_true] at *; omega) | (simp [-List.all_eq_true] at *; grind)))
/-! ### the draws of every law: mixed, draw, digit -/
def fdMixed : Fd := ⟨2, 3,
(.cons (.set 2 (.bin .add (.bin .add (.bin .mod (.slot 0) (.ix (.frz (.disp (.cons (.cst (.int 1000000007)) (.cons (.cst (.int 998244353)) (.cons (.cst (.int 2147483629)) (.cons (.cst (.int 1000000009)) .nil)))))) (.bin .mod (.slot 1) (.cst (.int 4))))) (.bin .mul (.cst (.int 7919)) (.slot 1))) (.cst (.int 13))))
(.cons (.ret (.bin .mod (.bin .mul (.bin .mod (.bin .mul (.slot 2) (.slot 2)) (.cst (.int 2147483647))) (.cst (.int 48271))) (.cst (.int 2147483647))))
.nil))⟩
def fdDraw : Fd := ⟨2, 2,
(.cons (.ret (.dnew false (.cons (.cst (.str [108, 101, 102, 116])) (.ife (.cmp .ge (.slot 0) (.bin .pow (.cst (.int 10)) (.cst (.int 18)))) (.slot 0) (.cst (.int 0))) (.cons (.cst (.str [99, 101, 108, 108])) (.slot 0) (.cons (.cst (.str [116, 117, 114, 110, 115])) (.bin .mul (.cst (.int 1000)) (.slot 1)) .nil)))))
.nil)⟩
def fdDigit (im : Nat) : Fd := ⟨2, 4,
(.cons (.ife (.cmp .eq (.dget (.slot 0) (.cst (.str [108, 101, 102, 116]))) (.cst (.int 0)))
(.cons (.for_ (.name 3) (.range1 (.cst (.int 4)))
(.cons (.setK (.slot 0) (.cst (.str [116, 117, 114, 110, 115])) (.bin .add (.dget (.slot 0) (.cst (.str [116, 117, 114, 110, 115]))) (.cst (.int 1))))
(.cons (.setK (.slot 0) (.cst (.str [108, 101, 102, 116])) (.bin .add (.bin .mul (.dget (.slot 0) (.cst (.str [108, 101, 102, 116]))) (.cst (.int 2147483647))) (.call im (.cons (.dget (.slot 0) (.cst (.str [99, 101, 108, 108]))) (.cons (.dget (.slot 0) (.cst (.str [116, 117, 114, 110, 115]))) .nil)))))
.nil)))
.nil)
.nil)
(.cons (.set 2 (.bin .mod (.dget (.slot 0) (.cst (.str [108, 101, 102, 116]))) (.slot 1)))
(.cons (.setK (.slot 0) (.cst (.str [108, 101, 102, 116])) (.bin .fdiv (.dget (.slot 0) (.cst (.str [108, 101, 102, 116]))) (.slot 1)))
(.cons (.ret (.slot 2))
.nil))))⟩
def modV (k : Int) : Int := if k % 4 = 0 then 1000000007 else if k % 4 = 1 then 998244353 else if k % 4 = 2 then 2147483629 else 1000000009
def mixV (c k : Int) : Int := (c % modV k + 7919 * k + 13) * (c % modV k + 7919 * k + 13) % 2147483647 * 48271 % 2147483647
theorem modV_pos (k : Int) : 0 < modV k ∧ modV k ≤ 2147483629 := by
  unfold modV
  split
  · decide
  · split
    · decide
    · split <;> decide
theorem modV_ix (k : Int) : L2.atI [D.int 1000000007, .int 998244353, .int 2147483629, .int 1000000009] (k % 4) = some (.int (modV k)) := by
  have : k % 4 = 0 ∨ k % 4 = 1 ∨ k % 4 = 2 ∨ k % 4 = 3 := by omega
  unfold modV
  rcases this with h | h | h | h <;> rw [h]
  · exact atI_0
  · exact atI_1
  · exact atI_2
  · exact atI_3
theorem d_mixed {fs : List Fd} {im : Nat} (hm : fs[im]? = some fdMixed) {n : Nat} {c k : Int} (h0 : 0 ≤ k) (h1 : k ≤ 281474976710660) : ∀ L, callF (evFn fs (n + 1)) im [.int c, .int k] L = .ok (.int (mixV c k)) L := by
  refine callF_of (L1 := []) (run_to fdMixed hm rfl ?_) rfl rfl
  unfold fdMixed mixV
  have hi := modV_ix k
  obtain ⟨hp, hq⟩ := modV_pos k
  have e1 := Int.emod_nonneg c (show modV k ≠ 0 by omega)
  have e2 := Int.emod_lt_of_pos c hp
  have b1 : -18446744073709551616 < c % modV k + 7919 * k + 13 := by omega
  have b2 : c % modV k + 7919 * k + 13 < 18446744073709551616 := by omega
  clear h0 h1
  trivial
theorem upto_4 : upto 0 4 = [.int 0, .int 1, .int 2, .int 3] := rfl
theorem vl {le ce tu : Int} : valK (stL le ce tu) (.inr (SX.S [108, 101, 102, 116])) = some (.int le) := val_left
theorem vt {le ce tu : Int} : valK (stL le ce tu) (.inr (SX.S [116, 117, 114, 110, 115])) = some (.int tu) := val_turn
theorem vc {le ce tu : Int} : valK (stL le ce tu) (.inr (SX.S [99, 101, 108, 108])) = some (.int ce) := val_cell
theorem pl {le ce tu x : Int} : putK (stL le ce tu) (.inr (SX.S [108, 101, 102, 116])) (.int x) = stL x ce tu := put_left
theorem pt {le ce tu x : Int} : putK (stL le ce tu) (.inr (SX.S [116, 117, 114, 110, 115])) (.int x) = stL le ce x := put_turn
theorem stL_len {le ce tu : Int} : (stL le ce tu).length = 3 := rfl
/-- a state with B draws to come -/
def DrS (B : Nat) (o : O) : Prop := ∃ le ce tu : Int, o = .dK (stL le ce tu) ∧ 0 ≤ tu ∧ tu + 4 * B ≤ 281474976710656
theorem DrS.pure {B : Nat} {o : O} (h : DrS B o) : o.pure = true := by
  obtain ⟨le, ce, tu, rfl, _⟩ := h
  rfl
theorem DrS.less {B C : Nat} {o : O} (h : DrS B o) (k : C ≤ B) : DrS C o := by
  obtain ⟨le, ce, tu, rfl, h1, h2⟩ := h
  exact ⟨le, ce, tu, rfl, h1, by omega⟩
theorem storeP_set {L : Store} {p : Nat} {o : O} (h : storeP L = true) (ho : o.pure = true) : storeP (L.set p o) = true := by
  unfold storeP at *
  rw [List.all_eq_true] at *
  intro x hx
  rcases List.mem_or_eq_of_mem_set hx with h1 | rfl
  · exact h x h1
  · exact ho
theorem storeP_app {L K : Store} (h : storeP L = true) (k : storeP K = true) : storeP (L ++ K) = true := by
  unfold storeP at *
  rw [List.all_append, h, k]; rfl
theorem storeP_take {L : Store} {n : Nat} (h : storeP L = true) : storeP (L.take n) = true := by
  unfold storeP at *
  rw [List.all_eq_true] at *
  intro x hx
  exact h x (List.mem_of_mem_take hx)
/-- p is a state with B draws to come, in a store of plain objects -/
structure Dr (p B : Nat) (L : Store) : Prop where
  lt : p < L.length
  at_ : ∃ o, L[p]? = some o ∧ DrS B o
  pu : storeP L = true
theorem Dr.less {p B C : Nat} {L : Store} (h : Dr p B L) (k : C ≤ B) : Dr p C L := by
  obtain ⟨h1, ⟨o, h2, h3⟩, h4⟩ := h
  exact ⟨h1, ⟨o, h2, h3.less k⟩, h4⟩
theorem Dr.set {p B C : Nat} {L : Store} {o : O} (h : Dr p B L) (k : DrS C o) : Dr p C (L.set p o) :=
  ⟨by rw [List.length_set]; exact h.lt, ⟨o, List.getElem?_set_self h.lt, k⟩, storeP_set h.pu k.pure⟩
theorem callF_imp {cf : Nat → List D → M D} {f : Nat} {xs : List D} {L L1 : Store} {d : D} (p : purAll xs = false) (h : cf f xs L = .ok d L1) (hs : storeP (L1.take L.length) = true) (pd : d.pure = true) : callF cf f xs L = .ok d (L1.take L.length) := by
  unfold callF
  rw [if_neg (by rw [p]; decide), h]
  have : frozen L.length d L1 = some d := by
    cases d <;> first | (simp only [frozen]; rw [if_pos pd]) | (simp [D.pure] at pd)
  simp only [this, hs, if_true]
theorem take_set_self {L : Store} {p : Nat} {o : O} : (L.set p o).take L.length = L.set p o := List.take_of_length_le (by rw [List.length_set]; exact Nat.le_refl _)
theorem setKO_st {ρ : Env} {x : D} {k : Nat} {w : List Nat} {le ce tu : Int} {L : Store} : setKO ρ x (.str w) k (some (.dK (stL le ce tu))) L = .next ρ (L.set k (.dK (putK (stL le ce tu) (.inr (SX.S w)) x))) := setKO_str (by rw [stL_len]; decide)
theorem mul_z {x : Int} : 0 * 2147483647 + x = x := by omega
def bigV (ce tu : Int) : Int := ((mixV ce (tu + 1) * 2147483647 + mixV ce (tu + 1 + 1)) * 2147483647 + mixV ce (tu + 1 + 1 + 1)) * 2147483647 + mixV ce (tu + 1 + 1 + 1 + 1)
local macro_rules | `(tactic| trivial) => `(tactic| simp (config := {contextual := true, maxSteps := 1000000, implicitDefEqProofs := false}) (disch := first | with_reducible assumption | omega | (simp only [List.length_map, List.length_set, upto_len, List.length_cons, List.length_nil, List.length_append, big, Bool.not_eq_true, Bool.not_eq_true', Bool.not_eq_false', Bool.and_eq_true, decide_eq_true_eq, decide_eq_false_iff_not] at *; omega)) only [x_slot, x_cst, x_glob, x_fnv, x_bin, x_neg, x_not, x_cmp, x_chain, x_isN, x_notN, x_and, x_or, x_ife, x_tup, x_frz, x_mut, x_call, x_callk, x_callv, x_bi, x_split, x_join, x_index, x_append, x_ix, x_dget, x_sl, x_isi, x_dnew, x_xfld, x_tupr, x_nil, x_cons, x_onone, x_osome, x_tnone, x_tsome, x_knil, x_kcons, x_disp, x_lc, x_fsl, x_rev, x_cat, x_lis, x_val, x_rng, x_rng2, x_enum, x_zip, x_turn, x_comp, y_nil, y_cons, y_set, y_par, y_asg, y_setIx, y_setK, y_ex, y_ife, y_body, y_for, y_forW, y_turn, y_done, y_ret, y_retN, y_raise, y_pass, y_brk, y_cont, y_try, y_hs, kBin2, kBin1, kCmp2, kCmp1, kBool, kNot, kNeg, kCh3, kCh2, kCh1b, kCh1, kIsN, kNotN, kAnd, kOr, kIfe, kTup, kFrz, kMut, kCall, kCallk, kCallv, kBi, kMe2, kMe1, kAp3, kAp2, kAp1, kIx2, kIx1, kDg2, kDg1, kSl3, kSl2, kSl1, kIsi, kDnew, kTupr, kEs2, kEs1, kInt, kTst, kK4, kK3, kK2, kK1, kDisp, kLc, kFs4, kFs3, kFs2, kFs1, kRev2, kRev, kCat4, kCat3, kCat2, kCat1, kLis, kVal, kRng, kRng2b, kRng2, kEnum, kZip2, kZip1, kSome, kTn2, kTn1, jSeq, jSet, jPar, jAsg, jSx3, jSx2, jSx1, jSk3, jSk2, jSk1, jEx, jIf, jBody, jFor, jExc, bind_ok, bind_exc, bind_bad, then_ok, then_exc, then_bad, seq_next, seq_ret, seq_exc, seq_brk, seq_cont, seq_bad, optR_some, blR_some, slotR_some, condR_t, condR_f, condS_t, condS_f, condR_bl, condS_bl, join_and, join_or, bind_ite, then_ite, seq_ite, negR_int, notR_bl, boolR_bl, isNon_non, isNon_int, isNon_str, isNon_tup, isNon_lst, isNon_obj, sizR_0, sizR_1, sizR_2, sizR_3, sizR_4, sizR_5, sizR_6, sizR_7, sizR_8, sizR_ok, intR_int, tstR_bl, recvA_obj, recvL_lst, appR_obj, appL_ok, setKS_obj, setKO_str, setIxS_obj, valO_lst, valR_obj, recvS_str, xfR_ok, tuprR_int, lstR_some, valR_lst, valR_tup, valR_ktup, valR_str, rngR_int, rng2R_int, enumR_lst, zipR_lst, zipR_tup, callvR_ok, noX_ok, noX_ite, noX_f, bindT_name, bindT_tup, bindT_ktup, bindTs_nil, bindTs_cons, wipe_nil, wipe_cons, envS_some, envB_some, loop_next, loop_cont, loop_brk, loop_ret, loop_exc, loop_ite, tryS_exc, tryS_ret, tryS_next, endH_ret, retS_next, retS_ret, retS_exc, retS_ite, setAll, o_isi_int_non, o_isi_int_bl, o_isi_int_int, o_isi_int_str, o_isi_int_tup, o_isi_int_ktup, o_isi_int_lst, o_isi_str_non, o_isi_str_bl, o_isi_str_int, o_isi_str_str, o_isi_str_tup, o_isi_str_ktup, o_isi_str_lst, o_isi_bool_non, o_isi_bool_bl, o_isi_bool_int, o_isi_bool_str, o_isi_bool_tup, o_isi_bool_ktup, o_isi_bool_lst, o_isi_tuple_non, o_isi_tuple_bl, o_isi_tuple_int, o_isi_tuple_str, o_isi_tuple_tup, o_isi_tuple_ktup, o_isi_tuple_lst, o_isi_list_non, o_isi_list_bl, o_isi_list_int, o_isi_list_str, o_isi_list_tup, o_isi_list_ktup, o_isi_list_lst, o_add_ii, o_sub_ii, o_add_ss, o_add_tt, o_add_ll, o_mul_il, o_mul_ir, o_pow_ii, o_dget, dictG_str, dictG_int, keyOf_s, keyOf_i, getset, dnewR_3, o_mod_ii, o_fdiv_ii, o_eq_int, o_eq_str, o_eq_bl, o_ne_int, o_ne_str, o_ne_bl, o_lt_i, o_le_i, o_gt_i, o_ge_i, o_in_s, o_nin_s, o_eq_d, o_ne_d, o_len_s, o_len_t, o_len_kt, o_len_l, o_tup_l, o_tup_t, oTup_l, oLen_l, oIx_l, oLst_l, o_tup_o, o_len_o, o_all, o_any, o_str_i, o_int_i, o_sum, o_join, o_join_t, o_split, atI_0, atI_1, atI_2, atI_3, o_ix_t, o_ix_kt, o_ix_l, o_ix_o, o_ix_s, o_sl_s, o_sl_t, o_sl_l, o_lof_l, o_sof_l, o_sof_t, o_lof_o, List.getElem?_cons_zero, List.getElem?_cons_succ, List.set_cons_zero, List.set_cons_succ, Option.bind_some, List.length_cons, List.length_nil, if_true, if_false, Bool.not_true, Bool.not_false, Bool.and_true, Bool.true_and, Bool.and_false, Bool.false_and, Bool.or_true, Bool.true_or, Bool.or_false, Bool.false_or, Bool.not_not, ite_true, ite_false, reduceIte, Nat.reduceAdd, Int.reduceAdd, Int.reduceSub, Int.reduceMod, Int.reduceMul, Nat.reduceLT, reduceCtorEq, startD, List.map_cons, List.map_nil, List.replicate_succ, List.replicate_zero, List.cons_append, List.nil_append, Nat.reduceSub, decide_true, decide_false, true_and, and_true, eq_self, Int.reduceEq, Int.reduceNe, Int.reduceLT, Int.reduceLE, Nat.reduceEqDiff, Int.reduceToNat, Nat.reduceLeDiff, List.length_map, signs_mp, join_opt, ne_nil_s, ne_nil_i, ne_nil_n, isEmpty_filt, upto_z, compL_nil, Int.toNat_natCast, id_eq, List.length_set, cst0, cst1, cst2, cst3, cst4, cst5, cst6, ne_eq, not_true_eq_false, not_false_eq_true, setKO_st, Int.zero_mul, Int.zero_add, List.set_set, upto_4, vl, vt, vc, pl, pt, stL_len, *])
theorem d_digit {fs : List Fd} {im id : Nat} (hm : fs[im]? = some fdMixed) (hd : fs[id]? = some (fdDigit im)) {n p B : Nat} {m : Int} {L : Store} (h : Dr p (B + 1) L) (h0 : 0 < m) (h1 : m < 1073741824) :
    ∃ d o, callF (evFn fs (n + 2)) id [.obj p, .int m] L = .ok (.int d) (L.set p o) ∧ 0 ≤ d ∧ d < m ∧ Dr p B (L.set p o) := by
  obtain ⟨hp, ⟨o, ho, le, ce, tu, rfl, ht, hb⟩, hs⟩ := h
  have em := fun c k a b => @d_mixed fs im hm n c k a b
  have key : ∃ d le' tu', evFn fs (n + 2) id [.obj p, .int m] L = .ok (.int d) (L.set p (.dK (stL le' ce tu'))) ∧ 0 ≤ d ∧ d < m ∧ 0 ≤ tu' ∧ tu' ≤ tu + 4 := by
    by_cases hz : le = 0
    · subst hz
      have c1 := em ce (tu + 1) (by omega) (by omega)
      have c2 := em ce (tu + 1 + 1) (by omega) (by omega)
      have c3 := em ce (tu + 1 + 1 + 1) (by omega) (by omega)
      have c4 := em ce (tu + 1 + 1 + 1 + 1) (by omega) (by omega)
      have t0 : 0 ≤ tu + 1 + 1 + 1 + 1 := by omega
      clear em hb ht
      refine ⟨bigV ce tu % m, bigV ce tu / m, tu + 1 + 1 + 1 + 1, run_to (fdDigit im) hd rfl ?_, Int.emod_nonneg _ (by omega), Int.emod_lt_of_pos _ h0, t0, by omega⟩
      unfold fdDigit bigV
      trivial
    · refine ⟨le % m, le / m, tu, run_to (fdDigit im) hd rfl ?_, Int.emod_nonneg _ (by omega), Int.emod_lt_of_pos _ h0, ht, by omega⟩
      clear em hb ht
      unfold fdDigit
      trivial
  obtain ⟨d, le', tu', e, d0, d1, t0, t1⟩ := key
  have hk : DrS B (.dK (stL le' ce tu')) := ⟨le', ce, tu', rfl, t0, by omega⟩
  refine ⟨d, .dK (stL le' ce tu'), ?_, d0, d1, ⟨by rw [List.length_set]; exact hp, ⟨_, List.getElem?_set_self hp, hk⟩, storeP_set hs hk.pure⟩⟩
  have := callF_imp (cf := evFn fs (n + 2)) (f := id) (xs := [.obj p, .int m]) (L := L) rfl e (by rw [take_set_self]; exact storeP_set hs hk.pure) rfl
  rw [take_set_self] at this
  exact this
theorem callK_of {cf : Nat → List D → M D} {f : Nat} {xs : List D} {k : Nat} {L1 : Store} {o : O} (p : purAll xs = true) (h : cf f xs [] = .ok (.obj k) L1) (ho : L1[k]? = some o) (po : o.pure = true) : ∀ L, callK cf f xs L = .ok (.obj L.length) (L ++ [o]) := by
  intro L
  unfold callK
  rw [if_pos p, h]
  simp only [ho, po, if_true]
theorem put0 {a : D} {k : _root_.L2.Key} : putK [] k a = [(k, a)] := by simp [putK, valK]
theorem put3 {a b c : Int} : putK (putK [((.inr (SX.S [108, 101, 102, 116]) : _root_.L2.Key), D.int a)] (.inr (SX.S [99, 101, 108, 108])) (.int b)) (.inr (SX.S [116, 117, 114, 110, 115])) (.int c) = stL a b c := by
  show putK (putK [(kLeft, D.int a)] kCell (.int b)) kTurn (.int c) = stL a b c
  simp [putK, valK, stL, kLC, kLT, kCT, kLC.symm, kLT.symm, kCT.symm]
local macro_rules | `(tactic| trivial) => `(tactic| simp (config := {contextual := true, maxSteps := 1000000, implicitDefEqProofs := false}) (disch := first | with_reducible assumption | omega | (simp only [List.length_map, List.length_set, upto_len, List.length_cons, List.length_nil, List.length_append, big, Bool.not_eq_true, Bool.not_eq_true', Bool.not_eq_false', Bool.and_eq_true, decide_eq_true_eq, decide_eq_false_iff_not] at *; omega)) only [x_slot, x_cst, x_glob, x_fnv, x_bin, x_neg, x_not, x_cmp, x_chain, x_isN, x_notN, x_and, x_or, x_ife, x_tup, x_frz, x_mut, x_call, x_callk, x_callv, x_bi, x_split, x_join, x_index, x_append, x_ix, x_dget, x_sl, x_isi, x_dnew, x_xfld, x_tupr, x_nil, x_cons, x_onone, x_osome, x_tnone, x_tsome, x_knil, x_kcons, x_disp, x_lc, x_fsl, x_rev, x_cat, x_lis, x_val, x_rng, x_rng2, x_enum, x_zip, x_turn, x_comp, y_nil, y_cons, y_set, y_par, y_asg, y_setIx, y_setK, y_ex, y_ife, y_body, y_for, y_forW, y_turn, y_done, y_ret, y_retN, y_raise, y_pass, y_brk, y_cont, y_try, y_hs, kBin2, kBin1, kCmp2, kCmp1, kBool, kNot, kNeg, kCh3, kCh2, kCh1b, kCh1, kIsN, kNotN, kAnd, kOr, kIfe, kTup, kFrz, kMut, kCall, kCallk, kCallv, kBi, kMe2, kMe1, kAp3, kAp2, kAp1, kIx2, kIx1, kDg2, kDg1, kSl3, kSl2, kSl1, kIsi, kDnew, kTupr, kEs2, kEs1, kInt, kTst, kK4, kK3, kK2, kK1, kDisp, kLc, kFs4, kFs3, kFs2, kFs1, kRev2, kRev, kCat4, kCat3, kCat2, kCat1, kLis, kVal, kRng, kRng2b, kRng2, kEnum, kZip2, kZip1, kSome, kTn2, kTn1, jSeq, jSet, jPar, jAsg, jSx3, jSx2, jSx1, jSk3, jSk2, jSk1, jEx, jIf, jBody, jFor, jExc, bind_ok, bind_exc, bind_bad, then_ok, then_exc, then_bad, seq_next, seq_ret, seq_exc, seq_brk, seq_cont, seq_bad, optR_some, blR_some, slotR_some, condR_t, condR_f, condS_t, condS_f, condR_bl, condS_bl, join_and, join_or, bind_ite, then_ite, seq_ite, negR_int, notR_bl, boolR_bl, isNon_non, isNon_int, isNon_str, isNon_tup, isNon_lst, isNon_obj, sizR_0, sizR_1, sizR_2, sizR_3, sizR_4, sizR_5, sizR_6, sizR_7, sizR_8, sizR_ok, intR_int, tstR_bl, recvA_obj, recvL_lst, appR_obj, appL_ok, setKS_obj, setKO_str, setIxS_obj, valO_lst, valR_obj, recvS_str, xfR_ok, tuprR_int, lstR_some, valR_lst, valR_tup, valR_ktup, valR_str, rngR_int, rng2R_int, enumR_lst, zipR_lst, zipR_tup, callvR_ok, noX_ok, noX_ite, noX_f, bindT_name, bindT_tup, bindT_ktup, bindTs_nil, bindTs_cons, wipe_nil, wipe_cons, envS_some, envB_some, loop_next, loop_cont, loop_brk, loop_ret, loop_exc, loop_ite, tryS_exc, tryS_ret, tryS_next, endH_ret, retS_next, retS_ret, retS_exc, retS_ite, setAll, o_isi_int_non, o_isi_int_bl, o_isi_int_int, o_isi_int_str, o_isi_int_tup, o_isi_int_ktup, o_isi_int_lst, o_isi_str_non, o_isi_str_bl, o_isi_str_int, o_isi_str_str, o_isi_str_tup, o_isi_str_ktup, o_isi_str_lst, o_isi_bool_non, o_isi_bool_bl, o_isi_bool_int, o_isi_bool_str, o_isi_bool_tup, o_isi_bool_ktup, o_isi_bool_lst, o_isi_tuple_non, o_isi_tuple_bl, o_isi_tuple_int, o_isi_tuple_str, o_isi_tuple_tup, o_isi_tuple_ktup, o_isi_tuple_lst, o_isi_list_non, o_isi_list_bl, o_isi_list_int, o_isi_list_str, o_isi_list_tup, o_isi_list_ktup, o_isi_list_lst, o_add_ii, o_sub_ii, o_add_ss, o_add_tt, o_add_ll, o_mul_il, o_mul_ir, o_pow_ii, o_dget, dictG_str, dictG_int, keyOf_s, keyOf_i, getset, dnewR_3, o_mod_ii, o_fdiv_ii, o_eq_int, o_eq_str, o_eq_bl, o_ne_int, o_ne_str, o_ne_bl, o_lt_i, o_le_i, o_gt_i, o_ge_i, o_in_s, o_nin_s, o_eq_d, o_ne_d, o_len_s, o_len_t, o_len_kt, o_len_l, o_tup_l, o_tup_t, oTup_l, oLen_l, oIx_l, oLst_l, o_tup_o, o_len_o, o_all, o_any, o_str_i, o_int_i, o_sum, o_join, o_join_t, o_split, atI_0, atI_1, atI_2, atI_3, o_ix_t, o_ix_kt, o_ix_l, o_ix_o, o_ix_s, o_sl_s, o_sl_t, o_sl_l, o_lof_l, o_sof_l, o_sof_t, o_lof_o, List.getElem?_cons_zero, List.getElem?_cons_succ, List.set_cons_zero, List.set_cons_succ, Option.bind_some, List.length_cons, List.length_nil, if_true, if_false, Bool.not_true, Bool.not_false, Bool.and_true, Bool.true_and, Bool.and_false, Bool.false_and, Bool.or_true, Bool.true_or, Bool.or_false, Bool.false_or, Bool.not_not, ite_true, ite_false, reduceIte, Nat.reduceAdd, Int.reduceAdd, Int.reduceSub, Int.reduceMod, Int.reduceMul, Nat.reduceLT, reduceCtorEq, startD, List.map_cons, List.map_nil, List.replicate_succ, List.replicate_zero, List.cons_append, List.nil_append, Nat.reduceSub, decide_true, decide_false, true_and, and_true, eq_self, Int.reduceEq, Int.reduceNe, Int.reduceLT, Int.reduceLE, Nat.reduceEqDiff, Int.reduceToNat, Nat.reduceLeDiff, List.length_map, signs_mp, join_opt, ne_nil_s, ne_nil_i, ne_nil_n, isEmpty_filt, upto_z, compL_nil, Int.toNat_natCast, id_eq, List.length_set, cst0, cst1, cst2, cst3, cst4, cst5, cst6, ne_eq, not_true_eq_false, not_false_eq_true, setKO_st, Int.zero_mul, Int.zero_add, List.set_set, upto_4, vl, vt, vc, pl, pt, stL_len, put0, put3, *])
theorem d_draw {fs : List Fd} {ix : Nat} (hd : fs[ix]? = some fdDraw) {n B : Nat} {c k : Int} (h0 : 0 ≤ k) (h1 : k ≤ 1000) (hB : B ≤ 10000000000000) : ∃ o, (∀ L, callK (evFn fs (n + 1)) ix [.int c, .int k] L = .ok (.obj L.length) (L ++ [o])) ∧ DrS B o := by
  refine ⟨.dK (stL (if (10 : Int) ^ (18 : Int).toNat ≤ c then c else 0) c (1000 * k)), callK_of (L1 := [.dK (stL (if (10 : Int) ^ (18 : Int).toNat ≤ c then c else 0) c (1000 * k))]) (k := 0) rfl (run_to fdDraw hd rfl ?_) rfl rfl, _, _, _, rfl, by omega, by omega⟩
  have p3 : (10 : Int).natAbs < 18446744073709551616 := by decide
  unfold fdDraw
  by_cases hc : (10 : Int) ^ (18 : Int).toNat ≤ c
  · have hc' : (10 : Int) ^ 18 ≤ c := hc
    trivial
  · have hc' : ¬ (10 : Int) ^ 18 ≤ c := hc
    trivial
/-! ### comprehensions and loops that draw -/
theorem comp_stc {f : D → M (Option D)} {α β : Type} {k : α → D} {g : β → D} {I : Nat → Store → Prop} {Q : β → Prop} (c : Nat) : ∀ {l : List α} {n : Nat} {L : Store},
    (∀ a ∈ l, ∀ n L, I (n + c) L → ∃ x L', f (k a) L = .ok (some (g x)) L' ∧ I n L' ∧ Q x) → I (n + c * l.length) L →
    ∃ (xs : List β) (L' : Store), compL f (l.map k) L = .ok (xs.map g) L' ∧ I n L' ∧ xs.length = l.length ∧ ∀ x ∈ xs, Q x
  | [], n, L, h, hi => ⟨[], L, rfl, by simpa using hi, rfl, fun x hx => absurd hx (by simp)⟩
  | a :: l, n, L, h, hi => by
    obtain ⟨x, L1, e1, i1, q1⟩ := h a List.mem_cons_self (n + c * l.length) L (by rw [List.length_cons, Nat.mul_succ, ← Nat.add_assoc] at hi; exact hi)
    obtain ⟨xs, L2, e2, i2, l2, q2⟩ := comp_stc c (fun y hy => h y (List.mem_cons_of_mem _ hy)) i1
    refine ⟨x :: xs, L2, ?_, i2, by rw [List.length_cons, List.length_cons, l2], fun y hy => ?_⟩
    · rw [List.map_cons, compL_cons, e1]
      simp only [R.bind]
      rw [e2]
      rfl
    · rcases List.mem_cons.mp hy with rfl | hy
      · exact q1
      · exact q2 y hy
/-- with a test that draws: some of them stay -/
theorem comp_stf {f : D → M (Option D)} {α : Type} {k : α → D} {g : α → D} {I : Nat → Store → Prop} (c : Nat) : ∀ {l : List α} {n : Nat} {L : Store},
    (∀ a ∈ l, ∀ n L, I (n + c) L → ∃ (b : Bool) (L' : Store), f (k a) L = .ok (if b = true then some (g a) else none) L' ∧ I n L') → I (n + c * l.length) L →
    ∃ (xs : List α) (L' : Store), compL f (l.map k) L = .ok (xs.map g) L' ∧ I n L' ∧ xs.Sublist l
  | [], n, L, h, hi => ⟨[], L, rfl, by simpa using hi, List.Sublist.refl _⟩
  | a :: l, n, L, h, hi => by
    obtain ⟨b, L1, e1, i1⟩ := h a List.mem_cons_self (n + c * l.length) L (by rw [List.length_cons, Nat.mul_succ, ← Nat.add_assoc] at hi; exact hi)
    obtain ⟨xs, L2, e2, i2, q2⟩ := comp_stf c (fun y hy => h y (List.mem_cons_of_mem _ hy)) i1
    cases b with
    | true =>
      refine ⟨a :: xs, L2, ?_, i2, q2.cons_cons a⟩
      rw [List.map_cons, compL_cons, e1]
      simp only [R.bind, if_true]
      rw [e2]
      rfl
    | false =>
      refine ⟨xs, L2, ?_, i2, q2.cons a⟩
      rw [List.map_cons, compL_cons, e1]
      simp only [R.bind]
      rw [e2]
      rfl
/-- a loop that runs through, by turns -/
theorem for_stw {b : D → Env → Store → SR} {α : Type} {k : α → D} {I : List α → Nat → Env → Store → Prop} (c : Nat) {w : List α} (h : ∀ (d : List α) (a : α) (r : List α), w = d ++ a :: r → ∀ n ρ L, I d (n + c) ρ L → ∃ ρ' L', b (k a) ρ L = .next ρ' L' ∧ I (d ++ [a]) n ρ' L') : ∀ {l d : List α} {n : Nat} {ρ : Env} {L : Store}, w = d ++ l →
    I d (n + c * l.length) ρ L → ∃ ρ' L', forL b (l.map k) ρ L = .next ρ' L' ∧ I w n ρ' L'
  | [], d, n, ρ, L, hw, hi => ⟨ρ, L, rfl, by rw [hw, List.append_nil]; simpa using hi⟩
  | a :: l, d, n, ρ, L, hw, hi => by
    obtain ⟨ρ1, L1, e, i1⟩ := h d a l hw (n + c * l.length) ρ L (by rw [List.length_cons, Nat.mul_succ, ← Nat.add_assoc] at hi; exact hi)
    rw [List.map_cons, forL_cons, e]
    exact for_stw c h (l := l) (d := d ++ [a]) (by rw [hw, List.append_assoc]; rfl) i1
theorem for_st {b : D → Env → Store → SR} {α : Type} {k : α → D} {I : List α → Nat → Env → Store → Prop} (c : Nat) {w : List α} {n : Nat} {ρ : Env} {L : Store} (hi : I [] (n + c * w.length) ρ L) (h : ∀ (d : List α) (a : α) (r : List α), w = d ++ a :: r → ∀ n ρ L, I d (n + c) ρ L → ∃ ρ' L', b (k a) ρ L = .next ρ' L' ∧ I (d ++ [a]) n ρ' L') : ∃ ρ' L', forL b (w.map k) ρ L = .next ρ' L' ∧ I w n ρ' L' := for_stw c h rfl hi
/-- the caller's store but for the state -/
def DrF (p : Nat) (L0 : Store) (n : Nat) (L : Store) : Prop := (∃ o, L = L0.set p o) ∧ Dr p n L
theorem DrF.refl {p n : Nat} {L : Store} (h : Dr p n L) : DrF p L n L := by
  obtain ⟨o, ho, _⟩ := h.at_
  refine ⟨⟨o, ?_⟩, h⟩
  obtain ⟨hp, e⟩ := List.getElem?_eq_some_iff.mp ho
  rw [← e, List.set_getElem_self]
theorem DrF.step {p n m : Nat} {L0 L : Store} {o : O} (h : DrF p L0 n L) (k : Dr p m (L.set p o)) : DrF p L0 m (L.set p o) := by
  obtain ⟨⟨o', rfl⟩, _⟩ := h
  exact ⟨⟨o, List.set_set ..⟩, k⟩
theorem DrF.less {p n m : Nat} {L0 L : Store} (h : DrF p L0 n L) (k : m ≤ n) : DrF p L0 m L := ⟨h.1, h.2.less k⟩
theorem DrF.len {p n : Nat} {L0 L : Store} (h : DrF p L0 n L) : L.length = L0.length := by
  obtain ⟨⟨o, rfl⟩, _⟩ := h
  exact List.length_set
/-- a call that draws -/
theorem callF_dr {cf : Nat → List D → M D} {f p n : Nat} {xs : List D} {L L1 : Store} {d : D} (hp : purAll xs = false) (h : cf f xs L = .ok d L1) (hd : DrF p L n (L1.take L.length)) (pd : d.pure = true) : ∃ o, callF cf f xs L = .ok d (L.set p o) ∧ Dr p n (L.set p o) := by
  have := callF_imp hp h hd.2.pu pd
  obtain ⟨⟨o, e⟩, k⟩ := hd
  rw [e] at this k
  exact ⟨o, this, k⟩

end EV
end

section
namespace EV
open PySem
local macro_rules | `(tactic| trivial) => `(tactic| simp (config := {contextual := true, maxSteps := 1000000, implicitDefEqProofs := false}) (disch := first | with_reducible assumption | omega | (simp only [List.length_map, List.length_set, upto_len, List.length_cons, List.length_nil, List.length_append, big, Bool.not_eq_true, Bool.not_eq_true', Bool.not_eq_false', Bool.and_eq_true, decide_eq_true_eq, decide_eq_false_iff_not] at *; omega)) only [x_slot, x_cst, x_glob, x_fnv, x_bin, x_neg, x_not, x_cmp, x_chain, x_isN, x_notN, x_and, x_or, x_ife, x_tup, x_frz, x_mut, x_call, x_callk, x_callv, x_bi, x_split, x_join, x_index, x_append, x_ix, x_dget, x_sl, x_isi, x_dnew, x_xfld, x_tupr, x_nil, x_cons, x_onone, x_osome, x_tnone, x_tsome, x_knil, x_kcons, x_disp, x_lc, x_fsl, x_rev, x_cat, x_lis, x_val, x_rng, x_rng2, x_enum, x_zip, x_turn, x_comp, y_nil, y_cons, y_set, y_par, y_asg, y_setIx, y_setK, y_ex, y_ife, y_body, y_for, y_forW, y_turn, y_done, y_ret, y_retN, y_raise, y_pass, y_brk, y_cont, y_try, y_hs, kBin2, kBin1, kCmp2, kCmp1, kBool, kNot, kNeg, kCh3, kCh2, kCh1b, kCh1, kIsN, kNotN, kAnd, kOr, kIfe, kTup, kFrz, kMut, kCall, kCallk, kCallv, kBi, kMe2, kMe1, kAp3, kAp2, kAp1, kIx2, kIx1, kDg2, kDg1, kSl3, kSl2, kSl1, kIsi, kDnew, kTupr, kEs2, kEs1, kInt, kTst, kK4, kK3, kK2, kK1, kDisp, kLc, kFs4, kFs3, kFs2, kFs1, kRev2, kRev, kCat4, kCat3, kCat2, kCat1, kLis, kVal, kRng, kRng2b, kRng2, kEnum, kZip2, kZip1, kSome, kTn2, kTn1, jSeq, jSet, jPar, jAsg, jSx3, jSx2, jSx1, jSk3, jSk2, jSk1, jEx, jIf, jBody, jFor, jExc, bind_ok, bind_exc, bind_bad, then_ok, then_exc, then_bad, seq_next, seq_ret, seq_exc, seq_brk, seq_cont, seq_bad, optR_some, blR_some, slotR_some, condR_t, condR_f, condS_t, condS_f, condR_bl, condS_bl, join_and, join_or, bind_ite, then_ite, seq_ite, negR_int, notR_bl, boolR_bl, isNon_non, isNon_int, isNon_str, isNon_tup, isNon_lst, isNon_obj, sizR_0, sizR_1, sizR_2, sizR_3, sizR_4, sizR_5, sizR_6, sizR_7, sizR_8, sizR_ok, intR_int, tstR_bl, recvA_obj, recvL_lst, appR_obj, appL_ok, setKS_obj, setKO_str, setIxS_obj, valO_lst, valR_obj, recvS_str, xfR_ok, tuprR_int, lstR_some, valR_lst, valR_tup, valR_ktup, valR_str, rngR_int, rng2R_int, enumR_lst, zipR_lst, zipR_tup, callvR_ok, noX_ok, noX_ite, noX_f, bindT_name, bindT_tup, bindT_ktup, bindTs_nil, bindTs_cons, wipe_nil, wipe_cons, envS_some, envB_some, loop_next, loop_cont, loop_brk, loop_ret, loop_exc, loop_ite, tryS_exc, tryS_ret, tryS_next, endH_ret, retS_next, retS_ret, retS_exc, retS_ite, setAll, o_isi_int_non, o_isi_int_bl, o_isi_int_int, o_isi_int_str, o_isi_int_tup, o_isi_int_ktup, o_isi_int_lst, o_isi_str_non, o_isi_str_bl, o_isi_str_int, o_isi_str_str, o_isi_str_tup, o_isi_str_ktup, o_isi_str_lst, o_isi_bool_non, o_isi_bool_bl, o_isi_bool_int, o_isi_bool_str, o_isi_bool_tup, o_isi_bool_ktup, o_isi_bool_lst, o_isi_tuple_non, o_isi_tuple_bl, o_isi_tuple_int, o_isi_tuple_str, o_isi_tuple_tup, o_isi_tuple_ktup, o_isi_tuple_lst, o_isi_list_non, o_isi_list_bl, o_isi_list_int, o_isi_list_str, o_isi_list_tup, o_isi_list_ktup, o_isi_list_lst, o_add_ii, o_sub_ii, o_add_ss, o_add_tt, o_add_ll, o_mul_il, o_mul_ir, o_pow_ii, o_dget, dictG_str, dictG_int, keyOf_s, keyOf_i, getset, dnewR_3, o_mod_ii, o_fdiv_ii, o_eq_int, o_eq_str, o_eq_bl, o_ne_int, o_ne_str, o_ne_bl, o_lt_i, o_le_i, o_gt_i, o_ge_i, o_in_s, o_nin_s, o_eq_d, o_ne_d, o_len_s, o_len_t, o_len_kt, o_len_l, o_tup_l, o_tup_t, oTup_l, oLen_l, oIx_l, oLst_l, o_tup_o, o_len_o, o_all, o_any, o_str_i, o_int_i, o_sum, o_join, o_join_t, o_split, atI_0, atI_1, atI_2, atI_3, o_ix_t, o_ix_kt, o_ix_l, o_ix_o, o_ix_s, o_sl_s, o_sl_t, o_sl_l, o_lof_l, o_sof_l, o_sof_t, o_lof_o, List.getElem?_cons_zero, List.getElem?_cons_succ, List.set_cons_zero, List.set_cons_succ, Option.bind_some, List.length_cons, List.length_nil, if_true, if_false, Bool.not_true, Bool.not_false, Bool.and_true, Bool.true_and, Bool.and_false, Bool.false_and, Bool.or_true, Bool.true_or, Bool.or_false, Bool.false_or, Bool.not_not, ite_true, ite_false, reduceIte, Nat.reduceAdd, Int.reduceAdd, Int.reduceSub, Int.reduceMod, Int.reduceMul, Nat.reduceLT, reduceCtorEq, startD, List.map_cons, List.map_nil, List.replicate_succ, List.replicate_zero, List.cons_append, List.nil_append, Nat.reduceSub, decide_true, decide_false, true_and, and_true, eq_self, Int.reduceEq, Int.reduceNe, Int.reduceLT, Int.reduceLE, Nat.reduceEqDiff, Int.reduceToNat, Nat.reduceLeDiff, List.length_map, signs_mp, join_opt, ne_nil_s, ne_nil_i, ne_nil_n, isEmpty_filt, upto_z, compL_nil, Int.toNat_natCast, id_eq, List.length_set, cst0, cst1, cst2, cst3, cst4, cst5, cst6, ne_eq, not_true_eq_false, not_false_eq_true, *])
local macro_rules | `(tactic| bv_omega) => `(tactic| (first | rfl | (simp [-List.all_eq_true] at *; done) | (simp [-List.all_eq_true] at *; omega) | (simp [-List.all_eq_true] at *; grind)))
def fdRows (id : Nat) : Fd := ⟨3, 5,
(.cons (.ret (.bi .tuple (.cons (.frz (.lc false (.bi .tuple (.cons (.frz (.lc true (.call id (.cons (.slot 0) (.cons (.slot 1) .nil))) (.name 4) (.val (.slot 2)) .none [4])) .nil)) (.name 3) (.range1 (.slot 1)) .none [3])) .nil)))
.nil)⟩
theorem callF_dr' {cf : Nat → List D → M D} {f p n : Nat} {xs : List D} {L L1 : Store} {d : D} (hp : purAll xs = false) (h : cf f xs L = .ok d L1) (hd : DrF p L n L1) (pd : d.pure = true) : ∃ o, callF cf f xs L = .ok d (L.set p o) ∧ Dr p n (L.set p o) := by
  refine callF_dr hp h ?_ pd
  rw [← hd.len, List.take_length]
  exact hd
theorem pur_ints (r : List Int) : (D.tup (r.map .int)).pure = true := pur_of _ (fun _ => rfl) _
theorem pur_rows (l : List (List Int)) : (D.tup (l.map fun r => .tup (r.map .int))).pure = true := pur_of _ (fun r => pur_ints r) _
theorem d_rows {fs : List Fd} {im id ir : Nat} (hm : fs[im]? = some fdMixed) (hd : fs[id]? = some (fdDigit im)) (hr : fs[ir]? = some (fdRows id)) {n p B many : Nat} {s : List Nat} {L : Store}
    (h : Dr p (B + s.length * many) L) (h0 : 0 < many) (h1 : many ≤ 1000) (hs : s.length ≤ 1000) :
    ∃ (l : List (List Int)) (o : O), callF (evFn fs (n + 3)) ir [.obj p, .int many, .str s] L = .ok (.tup (l.map fun r => .tup (r.map .int))) (L.set p o) ∧ Dr p B (L.set p o) ∧ l.length = many ∧ ∀ r ∈ l, r.length = s.length ∧ ∀ x ∈ r, 0 ≤ x ∧ x < many := by
  have inner : ∀ (i : Int) N L', DrF p L (N + s.length) L' → ∃ (r : List Int) (L'' : Store), compL (turnE (evFn fs (n + 2)) true (.call id (.cons (.slot 0) (.cons (.slot 1) .nil))) (.name 4) .none [4] [some (.obj p), some (.int many), some (.str s), some (.int i), none]) (s.map fun c => .str [c]) L' = .ok (r.map .int) L'' ∧ DrF p L N L'' ∧ r.length = s.length ∧ ∀ x ∈ r, 0 ≤ x ∧ x < many := by
    intro i N L' hL
    refine comp_stc (I := DrF p L) 1 (fun c hc N L' hI => ?_) (by rw [Nat.one_mul]; exact hL)
    obtain ⟨d, o, e, d0, d1, hD⟩ := d_digit hm hd (n := n) (m := (many : Int)) hI.2 (by omega) (by omega)
    refine ⟨d, L'.set p o, ?_, hI.step hD, d0, d1⟩
    trivial
  have outer : ∃ (l : List (List Int)) (L' : Store), compL (turnE (evFn fs (n + 2)) false (.bi .tuple (.cons (.frz (.lc true (.call id (.cons (.slot 0) (.cons (.slot 1) .nil))) (.name 4) (.val (.slot 2)) .none [4])) .nil)) (.name 3) .none [3] [some (.obj p), some (.int many), some (.str s), none, none]) (upto 0 many) L = .ok (l.map fun r => .tup (r.map .int)) L' ∧ DrF p L B L' ∧ l.length = many ∧ ∀ r ∈ l, r.length = s.length ∧ ∀ x ∈ r, 0 ≤ x ∧ x < many := by
    rw [upto0]
    have := comp_stc (f := turnE (evFn fs (n + 2)) false (.bi .tuple (.cons (.frz (.lc true (.call id (.cons (.slot 0) (.cons (.slot 1) .nil))) (.name 4) (.val (.slot 2)) .none [4])) .nil)) (.name 3) .none [3] [some (.obj p), some (.int many), some (.str s), none, none]) (k := fun i : Nat => D.int (i : Int)) (g := fun r : List Int => D.tup (r.map .int)) (I := DrF p L) (Q := fun r => r.length = s.length ∧ ∀ x ∈ r, 0 ≤ x ∧ x < (many : Int)) s.length (l := List.range many) (n := B) (L := L) (fun i hi N L' hI => ?_) (by rw [List.length_range]; exact DrF.refl h)
    · obtain ⟨xs, L', e, i, l, q⟩ := this
      exact ⟨xs, L', e, i, by rw [l, List.length_range], q⟩
    · obtain ⟨r, L'', e, i, l, q⟩ := inner (i : Int) N L' hI
      refine ⟨r, L'', ?_, i, l, q⟩
      trivial
  obtain ⟨l, L', e, hF, hl, q⟩ := outer
  obtain ⟨o, c, hD⟩ := callF_dr' (cf := evFn fs (n + 3)) (f := ir) (xs := [.obj p, .int many, .str s]) (L := L) rfl (run_to (fdRows id) hr rfl (Y := .ok (.tup (l.map fun r => .tup (r.map .int))) L') (by
    unfold fdRows
    trivial)) hF (pur_rows l)
  exact ⟨l, o, c, hD, hl, q⟩

end EV
end

section
namespace EV
open PySem
local macro_rules | `(tactic| trivial) => `(tactic| simp (config := {contextual := true, maxSteps := 1000000, implicitDefEqProofs := false}) (disch := first | with_reducible assumption | omega | (simp only [List.length_map, List.length_set, upto_len, List.length_cons, List.length_nil, List.length_append, big, Bool.not_eq_true, Bool.not_eq_true', Bool.not_eq_false', Bool.and_eq_true, decide_eq_true_eq, decide_eq_false_iff_not] at *; omega)) only [x_slot, x_cst, x_glob, x_fnv, x_bin, x_neg, x_not, x_cmp, x_chain, x_isN, x_notN, x_and, x_or, x_ife, x_tup, x_frz, x_mut, x_call, x_callk, x_callv, x_bi, x_split, x_join, x_index, x_append, x_ix, x_dget, x_sl, x_isi, x_dnew, x_xfld, x_tupr, x_nil, x_cons, x_onone, x_osome, x_tnone, x_tsome, x_knil, x_kcons, x_disp, x_lc, x_fsl, x_rev, x_cat, x_lis, x_val, x_rng, x_rng2, x_enum, x_zip, x_turn, x_comp, y_nil, y_cons, y_set, y_par, y_asg, y_setIx, y_setK, y_ex, y_ife, y_body, y_for, y_forW, y_turn, y_done, y_ret, y_retN, y_raise, y_pass, y_brk, y_cont, y_try, y_hs, kBin2, kBin1, kCmp2, kCmp1, kBool, kNot, kNeg, kCh3, kCh2, kCh1b, kCh1, kIsN, kNotN, kAnd, kOr, kIfe, kTup, kFrz, kMut, kCall, kCallk, kCallv, kBi, kMe2, kMe1, kAp3, kAp2, kAp1, kIx2, kIx1, kDg2, kDg1, kSl3, kSl2, kSl1, kIsi, kDnew, kTupr, kEs2, kEs1, kInt, kTst, kK4, kK3, kK2, kK1, kDisp, kLc, kFs4, kFs3, kFs2, kFs1, kRev2, kRev, kCat4, kCat3, kCat2, kCat1, kLis, kVal, kRng, kRng2b, kRng2, kEnum, kZip2, kZip1, kSome, kTn2, kTn1, jSeq, jSet, jPar, jAsg, jSx3, jSx2, jSx1, jSk3, jSk2, jSk1, jEx, jIf, jBody, jFor, jExc, bind_ok, bind_exc, bind_bad, then_ok, then_exc, then_bad, seq_next, seq_ret, seq_exc, seq_brk, seq_cont, seq_bad, optR_some, blR_some, slotR_some, condR_t, condR_f, condS_t, condS_f, condR_bl, condS_bl, join_and, join_or, bind_ite, then_ite, seq_ite, negR_int, notR_bl, boolR_bl, isNon_non, isNon_int, isNon_str, isNon_tup, isNon_lst, isNon_obj, sizR_0, sizR_1, sizR_2, sizR_3, sizR_4, sizR_5, sizR_6, sizR_7, sizR_8, sizR_ok, intR_int, tstR_bl, recvA_obj, recvL_lst, appR_obj, appL_ok, setKS_obj, setKO_str, setIxS_obj, valO_lst, valR_obj, recvS_str, xfR_ok, tuprR_int, lstR_some, valR_lst, valR_tup, valR_ktup, valR_str, rngR_int, rng2R_int, enumR_lst, zipR_lst, zipR_tup, callvR_ok, noX_ok, noX_ite, noX_f, bindT_name, bindT_tup, bindT_ktup, bindTs_nil, bindTs_cons, wipe_nil, wipe_cons, envS_some, envB_some, loop_next, loop_cont, loop_brk, loop_ret, loop_exc, loop_ite, tryS_exc, tryS_ret, tryS_next, endH_ret, retS_next, retS_ret, retS_exc, retS_ite, setAll, o_isi_int_non, o_isi_int_bl, o_isi_int_int, o_isi_int_str, o_isi_int_tup, o_isi_int_ktup, o_isi_int_lst, o_isi_str_non, o_isi_str_bl, o_isi_str_int, o_isi_str_str, o_isi_str_tup, o_isi_str_ktup, o_isi_str_lst, o_isi_bool_non, o_isi_bool_bl, o_isi_bool_int, o_isi_bool_str, o_isi_bool_tup, o_isi_bool_ktup, o_isi_bool_lst, o_isi_tuple_non, o_isi_tuple_bl, o_isi_tuple_int, o_isi_tuple_str, o_isi_tuple_tup, o_isi_tuple_ktup, o_isi_tuple_lst, o_isi_list_non, o_isi_list_bl, o_isi_list_int, o_isi_list_str, o_isi_list_tup, o_isi_list_ktup, o_isi_list_lst, o_add_ii, o_sub_ii, o_add_ss, o_add_tt, o_add_ll, o_mul_il, o_mul_ir, o_pow_ii, o_dget, dictG_str, dictG_int, keyOf_s, keyOf_i, getset, dnewR_3, o_mod_ii, o_fdiv_ii, o_eq_int, o_eq_str, o_eq_bl, o_ne_int, o_ne_str, o_ne_bl, o_lt_i, o_le_i, o_gt_i, o_ge_i, o_in_s, o_nin_s, o_eq_d, o_ne_d, o_len_s, o_len_t, o_len_kt, o_len_l, o_tup_l, o_tup_t, oTup_l, oLen_l, oIx_l, oLst_l, o_tup_o, o_len_o, o_all, o_any, o_str_i, o_int_i, o_sum, o_join, o_join_t, o_split, atI_0, atI_1, atI_2, atI_3, o_ix_t, o_ix_kt, o_ix_l, o_ix_o, o_ix_s, o_sl_s, o_sl_t, o_sl_l, o_lof_l, o_sof_l, o_sof_t, o_lof_o, List.getElem?_cons_zero, List.getElem?_cons_succ, List.set_cons_zero, List.set_cons_succ, Option.bind_some, List.length_cons, List.length_nil, if_true, if_false, Bool.not_true, Bool.not_false, Bool.and_true, Bool.true_and, Bool.and_false, Bool.false_and, Bool.or_true, Bool.true_or, Bool.or_false, Bool.false_or, Bool.not_not, ite_true, ite_false, reduceIte, Nat.reduceAdd, Int.reduceAdd, Int.reduceSub, Int.reduceMod, Int.reduceMul, Nat.reduceLT, reduceCtorEq, startD, List.map_cons, List.map_nil, List.replicate_succ, List.replicate_zero, List.cons_append, List.nil_append, Nat.reduceSub, decide_true, decide_false, true_and, and_true, eq_self, Int.reduceEq, Int.reduceNe, Int.reduceLT, Int.reduceLE, Nat.reduceEqDiff, Int.reduceToNat, Nat.reduceLeDiff, List.length_map, signs_mp, join_opt, ne_nil_s, ne_nil_i, ne_nil_n, isEmpty_filt, upto_z, compL_nil, Int.toNat_natCast, id_eq, List.length_set, cst0, cst1, cst2, cst3, cst4, cst5, cst6, ne_eq, not_true_eq_false, not_false_eq_true, *])
local macro_rules | `(tactic| bv_omega) => `(tactic| (first | rfl | (simp [-List.all_eq_true] at *; done) | (simp [-List.all_eq_true] at *; omega) | (simp [-List.all_eq_true] at *; grind)))
def ev8 : List Nat := [97, 98, 46, 35, 64, 36, 43, 48]
def fdSigns (id : Nat) : Fd := ⟨2, 7,
(.cons (.asg (.tup (.cons (.name 3) (.cons (.name 4) .nil))) (.tup (.cons (.cst (.str ev8)) (.cons (.cst (.str [])) .nil))))
(.cons (.for_ (.name 2) (.range1 (.bin .add (.cst (.int 2)) (.call id (.cons (.slot 0) (.cons (.bin .sub (.slot 1) (.cst (.int 1))) .nil)))))
(.cons (.set 5 (.frz (.lc false (.slot 6) (.name 6) (.val (.slot 3)) (.some (.cmp .notin (.slot 6) (.slot 4))) [6])))
(.cons (.set 4 (.bin .add (.slot 4) (.ix (.slot 5) (.call id (.cons (.slot 0) (.cons (.bi .len (.cons (.slot 5) .nil)) .nil))))))
.nil)))
(.cons (.ret (.slot 4))
.nil)))⟩
theorem less_one {c : Nat} : ∀ {l : List Nat}, l.Nodup → l.length ≤ (l.filter fun x => !decide (x = c)).length + 1
  | [], _ => by simp
  | x :: l, h => by
    obtain ⟨h1, h2⟩ := List.nodup_cons.mp h
    by_cases e : x = c
    · subst e
      have : (l.filter fun y => !decide (y = x)) = l := List.filter_eq_self.mpr fun y hy => by
        have : y ≠ x := fun e => h1 (e ▸ hy)
        simp [this]
      rw [List.filter_cons]
      simp [this]
    · have := less_one (c := c) h2
      rw [List.filter_cons]
      simp [e]
      omega
theorem less_all {l : List Nat} (h : l.Nodup) : ∀ f : List Nat, l.length ≤ (l.filter fun x => !decide (x ∈ f)).length + f.length
  | [] => by
    have : (l.filter fun x => !decide (x ∈ ([] : List Nat))) = l := List.filter_eq_self.mpr fun y hy => by simp
    rw [this]
    exact Nat.le_add_right _ _
  | c :: f => by
    have h1 := less_all h f
    have h2 := less_one (c := c) (l := l.filter fun x => !decide (x ∈ f)) (h.filter _)
    have : (l.filter fun x => !decide (x ∈ f)).filter (fun x => !decide (x = c)) = l.filter fun x => !decide (x ∈ c :: f) := by
      rw [List.filter_filter]
      congr 1
      funext x
      rw [Bool.eq_iff_iff]
      simp
    rw [this] at h2
    simp only [List.length_cons]
    omega
theorem d_signs {fs : List Fd} {im id ix : Nat} (hm : fs[im]? = some fdMixed) (hd : fs[id]? = some (fdDigit im)) (hx : fs[ix]? = some (fdSigns id)) {n p B most : Nat} {L : Store}
    (h : Dr p (B + 9) L) (h0 : 2 ≤ most) (h1 : most ≤ 8) :
    ∃ (s : List Nat) (o : O), callF (evFn fs (n + 3)) ix [.obj p, .int most] L = .ok (.str s) (L.set p o) ∧ Dr p B (L.set p o) ∧ 2 ≤ s.length ∧ s.length ≤ most ∧ s.Nodup ∧ ∀ c ∈ s, c ∈ ev8 := by
  obtain ⟨d, o, e, d0, d1, hD⟩ := d_digit hm hd (n := n) (m := (most : Int) - 1) h (by omega) (by omega)
  have hF := (DrF.refl h).step hD
  obtain ⟨j, rfl⟩ := Int.eq_ofNat_of_zero_le d0
  have l8 : ev8.length = 8 := rfl
  have n8 : ev8.Nodup := by decide
  have hj : j + 2 ≤ 8 := by omega
  have turn : ∀ (ds : List Nat) (a : Nat), a ∈ List.range (2 + j) → ∀ N ρ L', (ds.length < 8 ∧ ∃ f v w, ρ = [some (.obj p), some (.int most), v, some (.str ev8), some (.str f), w, none] ∧ f.length = ds.length ∧ f.Nodup ∧ ∀ c ∈ f, c ∈ ev8) ∧ DrF p L (N + 1) L' →
      ∃ ρ' L'', bodyF (evFn fs (n + 2)) (.name 2) (.cons (.set 5 (.frz (.lc false (.slot 6) (.name 6) (.val (.slot 3)) (.some (.cmp .notin (.slot 6) (.slot 4))) [6])))
(.cons (.set 4 (.bin .add (.slot 4) (.ix (.slot 5) (.call id (.cons (.slot 0) (.cons (.bi .len (.cons (.slot 5) .nil)) .nil))))))
.nil)) (.int (a : Int)) ρ L' = .next ρ' L'' ∧ (∃ f v w, ρ' = [some (.obj p), some (.int most), v, some (.str ev8), some (.str f), w, none] ∧ f.length = ds.length + 1 ∧ f.Nodup ∧ ∀ c ∈ f, c ∈ ev8) ∧ DrF p L N L'' := by
    rintro ds a ha N ρ L' ⟨⟨hl, f, v, w, rfl, hf, hn, hc⟩, hI⟩
    have hp := less_all n8 f
    rw [l8] at hp
    have hq : (ev8.filter fun c => !decide (c ∈ f)).length ≤ 8 := List.length_filter_le _ _
    obtain ⟨d, o', e', e0, e1, hD'⟩ := d_digit hm hd (n := n) (m := ((ev8.filter fun c => !decide (c ∈ f)).length : Nat)) hI.2 (by omega) (by omega)
    obtain ⟨i, rfl⟩ := Int.eq_ofNat_of_zero_le e0
    have hi : i < (ev8.filter fun c => !decide (c ∈ f)).length := by omega
    obtain ⟨m1, m2⟩ := List.mem_filter.mp (List.getElem_mem hi)
    have hx : L2.atI ((ev8.filter fun c => !decide (c ∈ f)).map fun c => D.str [c]) (i : Int) = some (.str [(ev8.filter fun c => !decide (c ∈ f))[i]]) := L2.atI_nat (by rw [List.getElem?_map, List.getElem?_eq_getElem hi]; rfl)
    generalize (ev8.filter fun c => !decide (c ∈ f))[i] = g at *
    refine ⟨[some (.obj p), some (.int most), some (.int a), some (.str ev8), some (.str (f ++ [g])), some (.lst ((ev8.filter fun c => !decide (c ∈ f)).map fun c => D.str [c])), none], L'.set p o', ?_, ⟨f ++ [g], _, _, rfl, by simp [hf], ?_, ?_⟩, hI.step hD'⟩
    · trivial
      rw [comp_if (k := fun c => D.str [c]) (g := fun c => .str [c]) (p := fun c => !decide (c ∈ f))]
      · trivial
      · intro c hc
        trivial
    · have : g ∉ f := by simpa using m2
      rw [List.nodup_append]
      refine ⟨hn, by simp, fun a ha b hb => ?_⟩
      rw [List.mem_singleton.mp hb]
      exact fun e => this (e ▸ ha)
    · intro c hc'
      rcases List.mem_append.mp hc' with h | h
      · exact hc c h
      · rw [List.mem_singleton.mp h]; exact m1
  have loop := for_st (b := bodyF (evFn fs (n + 2)) (.name 2) (.cons (.set 5 (.frz (.lc false (.slot 6) (.name 6) (.val (.slot 3)) (.some (.cmp .notin (.slot 6) (.slot 4))) [6])))
(.cons (.set 4 (.bin .add (.slot 4) (.ix (.slot 5) (.call id (.cons (.slot 0) (.cons (.bi .len (.cons (.slot 5) .nil)) .nil))))))
.nil))) (k := fun i : Nat => D.int (i : Int)) (I := fun ds N ρ L' => (∃ f v w, ρ = [some (.obj p), some (.int most), v, some (.str ev8), some (.str f), w, none] ∧ f.length = ds.length ∧ f.Nodup ∧ ∀ c ∈ f, c ∈ ev8) ∧ DrF p L N L') 1 (w := List.range (2 + j)) (n := B) (ρ := [some (.obj p), some (.int most), none, some (.str ev8), some (.str []), none, none]) (L := L.set p o)
    ⟨⟨[], _, _, rfl, rfl, List.nodup_nil, fun c hc => absurd hc (by simp)⟩, hF.less (by rw [List.length_range]; omega)⟩
    (fun d a r hw N ρ L' hI => by
      have hl := congrArg List.length hw
      rw [List.length_range, List.length_append, List.length_cons] at hl
      have ha : a ∈ List.range (2 + j) := by rw [hw]; simp
      obtain ⟨ρ', L'', e1, q, i⟩ := turn d a ha N ρ L' ⟨⟨by omega, hI.1⟩, hI.2⟩
      refine ⟨ρ', L'', e1, ?_, i⟩
      rw [List.length_append]
      exact q)
  obtain ⟨ρ', L', el, ⟨s, v, w, rfl, sl, sn, sc⟩, hL⟩ := loop
  rw [List.length_range] at sl
  obtain ⟨o', c, hD'⟩ := callF_dr' (cf := evFn fs (n + 3)) (f := ix) (xs := [.obj p, .int most]) (L := L) rfl (run_to (fdSigns id) hx rfl (Y := .ok (.str s) L') (by
    have el' := el
    rw [← upto0] at el'
    have q : ((2 : Int) + (j : Int)).toNat = 2 + j := by omega
    unfold fdSigns
    trivial)) hL rfl
  exact ⟨s, o', c, hD', by omega, by omega, sn, sc⟩

end EV
end

section
namespace EV
open PySem
local macro_rules | `(tactic| trivial) => `(tactic| simp (config := {contextual := true, maxSteps := 1000000, implicitDefEqProofs := false}) (disch := first | with_reducible assumption | omega | (simp only [List.length_map, List.length_set, upto_len, List.length_cons, List.length_nil, List.length_append, big, Bool.not_eq_true, Bool.not_eq_true', Bool.not_eq_false', Bool.and_eq_true, decide_eq_true_eq, decide_eq_false_iff_not] at *; omega)) only [x_slot, x_cst, x_glob, x_fnv, x_bin, x_neg, x_not, x_cmp, x_chain, x_isN, x_notN, x_and, x_or, x_ife, x_tup, x_frz, x_mut, x_call, x_callk, x_callv, x_bi, x_split, x_join, x_index, x_append, x_ix, x_dget, x_sl, x_isi, x_dnew, x_xfld, x_tupr, x_nil, x_cons, x_onone, x_osome, x_tnone, x_tsome, x_knil, x_kcons, x_disp, x_lc, x_fsl, x_rev, x_cat, x_lis, x_val, x_rng, x_rng2, x_enum, x_zip, x_turn, x_comp, y_nil, y_cons, y_set, y_par, y_asg, y_setIx, y_setK, y_ex, y_ife, y_body, y_for, y_forW, y_turn, y_done, y_ret, y_retN, y_raise, y_pass, y_brk, y_cont, y_try, y_hs, kBin2, kBin1, kCmp2, kCmp1, kBool, kNot, kNeg, kCh3, kCh2, kCh1b, kCh1, kIsN, kNotN, kAnd, kOr, kIfe, kTup, kFrz, kMut, kCall, kCallk, kCallv, kBi, kMe2, kMe1, kAp3, kAp2, kAp1, kIx2, kIx1, kDg2, kDg1, kSl3, kSl2, kSl1, kIsi, kDnew, kTupr, kEs2, kEs1, kInt, kTst, kK4, kK3, kK2, kK1, kDisp, kLc, kFs4, kFs3, kFs2, kFs1, kRev2, kRev, kCat4, kCat3, kCat2, kCat1, kLis, kVal, kRng, kRng2b, kRng2, kEnum, kZip2, kZip1, kSome, kTn2, kTn1, jSeq, jSet, jPar, jAsg, jSx3, jSx2, jSx1, jSk3, jSk2, jSk1, jEx, jIf, jBody, jFor, jExc, bind_ok, bind_exc, bind_bad, then_ok, then_exc, then_bad, seq_next, seq_ret, seq_exc, seq_brk, seq_cont, seq_bad, optR_some, blR_some, slotR_some, condR_t, condR_f, condS_t, condS_f, condR_bl, condS_bl, join_and, join_or, bind_ite, then_ite, seq_ite, negR_int, notR_bl, boolR_bl, isNon_non, isNon_int, isNon_str, isNon_tup, isNon_lst, isNon_obj, sizR_0, sizR_1, sizR_2, sizR_3, sizR_4, sizR_5, sizR_6, sizR_7, sizR_8, sizR_ok, intR_int, tstR_bl, recvA_obj, recvL_lst, appR_obj, appL_ok, setKS_obj, setKO_str, setIxS_obj, valO_lst, valR_obj, recvS_str, xfR_ok, tuprR_int, lstR_some, valR_lst, valR_tup, valR_ktup, valR_str, rngR_int, rng2R_int, enumR_lst, zipR_lst, zipR_tup, callvR_ok, noX_ok, noX_ite, noX_f, bindT_name, bindT_tup, bindT_ktup, bindTs_nil, bindTs_cons, wipe_nil, wipe_cons, envS_some, envB_some, loop_next, loop_cont, loop_brk, loop_ret, loop_exc, loop_ite, tryS_exc, tryS_ret, tryS_next, endH_ret, retS_next, retS_ret, retS_exc, retS_ite, setAll, o_isi_int_non, o_isi_int_bl, o_isi_int_int, o_isi_int_str, o_isi_int_tup, o_isi_int_ktup, o_isi_int_lst, o_isi_str_non, o_isi_str_bl, o_isi_str_int, o_isi_str_str, o_isi_str_tup, o_isi_str_ktup, o_isi_str_lst, o_isi_bool_non, o_isi_bool_bl, o_isi_bool_int, o_isi_bool_str, o_isi_bool_tup, o_isi_bool_ktup, o_isi_bool_lst, o_isi_tuple_non, o_isi_tuple_bl, o_isi_tuple_int, o_isi_tuple_str, o_isi_tuple_tup, o_isi_tuple_ktup, o_isi_tuple_lst, o_isi_list_non, o_isi_list_bl, o_isi_list_int, o_isi_list_str, o_isi_list_tup, o_isi_list_ktup, o_isi_list_lst, o_add_ii, o_sub_ii, o_add_ss, o_add_tt, o_add_ll, o_mul_il, o_mul_ir, o_pow_ii, o_dget, dictG_str, dictG_int, keyOf_s, keyOf_i, getset, dnewR_3, o_mod_ii, o_fdiv_ii, o_eq_int, o_eq_str, o_eq_bl, o_ne_int, o_ne_str, o_ne_bl, o_lt_i, o_le_i, o_gt_i, o_ge_i, o_in_s, o_nin_s, o_eq_d, o_ne_d, o_len_s, o_len_t, o_len_kt, o_len_l, o_tup_l, o_tup_t, oTup_l, oLen_l, oIx_l, oLst_l, o_tup_o, o_len_o, o_all, o_any, o_str_i, o_int_i, o_sum, o_join, o_join_t, o_split, atI_0, atI_1, atI_2, atI_3, o_ix_t, o_ix_kt, o_ix_l, o_ix_o, o_ix_s, o_sl_s, o_sl_t, o_sl_l, o_lof_l, o_sof_l, o_sof_t, o_lof_o, List.getElem?_cons_zero, List.getElem?_cons_succ, List.set_cons_zero, List.set_cons_succ, Option.bind_some, List.length_cons, List.length_nil, if_true, if_false, Bool.not_true, Bool.not_false, Bool.and_true, Bool.true_and, Bool.and_false, Bool.false_and, Bool.or_true, Bool.true_or, Bool.or_false, Bool.false_or, Bool.not_not, ite_true, ite_false, reduceIte, Nat.reduceAdd, Int.reduceAdd, Int.reduceSub, Int.reduceMod, Int.reduceMul, Nat.reduceLT, reduceCtorEq, startD, List.map_cons, List.map_nil, List.replicate_succ, List.replicate_zero, List.cons_append, List.nil_append, Nat.reduceSub, decide_true, decide_false, true_and, and_true, eq_self, Int.reduceEq, Int.reduceNe, Int.reduceLT, Int.reduceLE, Nat.reduceEqDiff, Int.reduceToNat, Nat.reduceLeDiff, List.length_map, signs_mp, join_opt, ne_nil_s, ne_nil_i, ne_nil_n, isEmpty_filt, upto_z, compL_nil, Int.toNat_natCast, id_eq, List.length_set, cst0, cst1, cst2, cst3, cst4, cst5, cst6, ne_eq, not_true_eq_false, not_false_eq_true, *])
local macro_rules | `(tactic| bv_omega) => `(tactic| (first | rfl | (simp [-List.all_eq_true] at *; done) | (simp [-List.all_eq_true] at *; omega) | (simp [-List.all_eq_true] at *; grind)))
/-! ### stores with own lists behind the caller's -/
/-- L': the caller's store but for the state, and behind it what is the def's own -/
structure DrM (p : Nat) (L0 : Store) (n : Nat) (L : Store) : Prop where
  fr : ∃ o, L.take L0.length = L0.set p o
  dr : Dr p n L
  lt : p < L0.length
theorem DrM.le {p n : Nat} {L0 L : Store} (h : DrM p L0 n L) : L0.length ≤ L.length := by
  obtain ⟨o, e⟩ := h.fr
  have := congrArg List.length e
  rw [List.length_take, List.length_set] at this
  omega
theorem DrM.of {p n : Nat} {L : Store} (h : Dr p n L) : DrM p L n L := by
  obtain ⟨⟨o, e⟩, k⟩ := DrF.refl h
  exact ⟨⟨o, by rw [List.take_length]; exact e⟩, h, h.lt⟩
theorem DrM.less {p n m : Nat} {L0 L : Store} (h : DrM p L0 n L) (k : m ≤ n) : DrM p L0 m L := ⟨h.fr, h.dr.less k, h.lt⟩
theorem DrM.step {p n m : Nat} {L0 L : Store} {o : O} (h : DrM p L0 n L) (k : Dr p m (L.set p o)) : DrM p L0 m (L.set p o) := by
  obtain ⟨⟨o', e⟩, _, hl⟩ := h
  refine ⟨⟨o, ?_⟩, k, hl⟩
  rw [List.take_set, e, List.set_set]
theorem DrM.app {p n : Nat} {L0 L : Store} {x : O} (h : DrM p L0 n L) (hx : x.pure = true) : DrM p L0 n (L ++ [x]) := by
  have hle := h.le
  obtain ⟨⟨o', e⟩, ⟨h1, ⟨o, h2, h3⟩, h4⟩, hl⟩ := h
  refine ⟨⟨o', ?_⟩, ⟨by rw [List.length_append]; omega, ⟨o, ?_, h3⟩, storeP_app h4 (by simp [storeP, hx])⟩, hl⟩
  · rw [List.take_append_of_le_length hle, e]
  · rw [List.getElem?_append_left h1, h2]
theorem DrM.own {p n k : Nat} {L0 L : Store} {x : O} (h : DrM p L0 n L) (hk : L0.length ≤ k) (hx : x.pure = true) : DrM p L0 n (L.set k x) := by
  obtain ⟨⟨o', e⟩, ⟨h1, ⟨o, h2, h3⟩, h4⟩, hl⟩ := h
  refine ⟨⟨o', ?_⟩, ⟨by rw [List.length_set]; exact h1, ⟨o, ?_, h3⟩, storeP_set h4 hx⟩, hl⟩
  · rw [List.take_set_of_le hk, e]
  · rw [List.getElem?_set_ne (by omega), h2]
theorem DrM.toF {p n : Nat} {L0 L : Store} (h : DrM p L0 n L) : DrF p L0 n (L.take L0.length) := by
  obtain ⟨⟨o', e⟩, ⟨h1, ⟨o, h2, h3⟩, h4⟩, hl⟩ := h
  refine ⟨⟨o', e⟩, ⟨by rw [e, List.length_set]; exact hl, ⟨o, ?_, h3⟩, storeP_take h4⟩⟩
  rw [List.getElem?_take_of_lt hl, h2]
theorem set_at {L : Store} {p k : Nat} {o : O} (h : k ≠ p) : (L.set p o)[k]? = L[k]? := List.getElem?_set_ne (fun e => h e.symm)
theorem join_one : ∀ cs : List Nat, TL.joinL [] (cs.map fun c => [c]) = cs
  | [] => rfl
  | [a] => rfl
  | a :: b :: r => by
    have := join_one (b :: r)
    simp only [List.map_cons] at *
    unfold TL.joinL
    rw [this]
    rfl
theorem lens_one : ∀ cs : List Nat, lens (cs.map fun c => [c]) = cs.length
  | [] => rfl
  | a :: r => by
    have := lens_one r
    simp only [lens, List.map_cons, List.sum_cons, List.length_cons, List.length_nil] at *
    omega
theorem o_join_c {L : Store} {cs : List Nat} (h : cs.length ≤ 16777216) : meV L .join (.str []) [.lst (cs.map fun c => .str [c])] = some (.str cs) := by
  have := @o_join L Nat (fun c => [c]) cs [] (by rw [lens_one]; simpa using h)
  rw [join_one] at this
  exact this

end EV
end

section
namespace EV
open PySem
local macro_rules | `(tactic| trivial) => `(tactic| simp (config := {contextual := true, maxSteps := 1000000, implicitDefEqProofs := false}) (disch := first | with_reducible assumption | omega | (simp only [List.length_map, List.length_set, upto_len, List.length_cons, List.length_nil, List.length_append, big, Bool.not_eq_true, Bool.not_eq_true', Bool.not_eq_false', Bool.and_eq_true, decide_eq_true_eq, decide_eq_false_iff_not] at *; omega)) only [x_slot, x_cst, x_glob, x_fnv, x_bin, x_neg, x_not, x_cmp, x_chain, x_isN, x_notN, x_and, x_or, x_ife, x_tup, x_frz, x_mut, x_call, x_callk, x_callv, x_bi, x_split, x_join, x_index, x_append, x_ix, x_dget, x_sl, x_isi, x_dnew, x_xfld, x_tupr, x_nil, x_cons, x_onone, x_osome, x_tnone, x_tsome, x_knil, x_kcons, x_disp, x_lc, x_fsl, x_rev, x_cat, x_lis, x_val, x_rng, x_rng2, x_enum, x_zip, x_turn, x_comp, y_nil, y_cons, y_set, y_par, y_asg, y_setIx, y_setK, y_ex, y_ife, y_body, y_for, y_forW, y_turn, y_done, y_ret, y_retN, y_raise, y_pass, y_brk, y_cont, y_try, y_hs, kBin2, kBin1, kCmp2, kCmp1, kBool, kNot, kNeg, kCh3, kCh2, kCh1b, kCh1, kIsN, kNotN, kAnd, kOr, kIfe, kTup, kFrz, kMut, kCall, kCallk, kCallv, kBi, kMe2, kMe1, kAp3, kAp2, kAp1, kIx2, kIx1, kDg2, kDg1, kSl3, kSl2, kSl1, kIsi, kDnew, kTupr, kEs2, kEs1, kInt, kTst, kK4, kK3, kK2, kK1, kDisp, kLc, kFs4, kFs3, kFs2, kFs1, kRev2, kRev, kCat4, kCat3, kCat2, kCat1, kLis, kVal, kRng, kRng2b, kRng2, kEnum, kZip2, kZip1, kSome, kTn2, kTn1, jSeq, jSet, jPar, jAsg, jSx3, jSx2, jSx1, jSk3, jSk2, jSk1, jEx, jIf, jBody, jFor, jExc, bind_ok, bind_exc, bind_bad, then_ok, then_exc, then_bad, seq_next, seq_ret, seq_exc, seq_brk, seq_cont, seq_bad, optR_some, blR_some, slotR_some, condR_t, condR_f, condS_t, condS_f, condR_bl, condS_bl, join_and, join_or, bind_ite, then_ite, seq_ite, negR_int, notR_bl, boolR_bl, isNon_non, isNon_int, isNon_str, isNon_tup, isNon_lst, isNon_obj, sizR_0, sizR_1, sizR_2, sizR_3, sizR_4, sizR_5, sizR_6, sizR_7, sizR_8, sizR_ok, intR_int, tstR_bl, recvA_obj, recvL_lst, appR_obj, appL_ok, setKS_obj, setKO_str, setIxS_obj, valO_lst, valR_obj, recvS_str, xfR_ok, tuprR_int, lstR_some, valR_lst, valR_tup, valR_ktup, valR_str, rngR_int, rng2R_int, enumR_lst, zipR_lst, zipR_tup, callvR_ok, noX_ok, noX_ite, noX_f, bindT_name, bindT_tup, bindT_ktup, bindTs_nil, bindTs_cons, wipe_nil, wipe_cons, envS_some, envB_some, loop_next, loop_cont, loop_brk, loop_ret, loop_exc, loop_ite, tryS_exc, tryS_ret, tryS_next, endH_ret, retS_next, retS_ret, retS_exc, retS_ite, setAll, o_isi_int_non, o_isi_int_bl, o_isi_int_int, o_isi_int_str, o_isi_int_tup, o_isi_int_ktup, o_isi_int_lst, o_isi_str_non, o_isi_str_bl, o_isi_str_int, o_isi_str_str, o_isi_str_tup, o_isi_str_ktup, o_isi_str_lst, o_isi_bool_non, o_isi_bool_bl, o_isi_bool_int, o_isi_bool_str, o_isi_bool_tup, o_isi_bool_ktup, o_isi_bool_lst, o_isi_tuple_non, o_isi_tuple_bl, o_isi_tuple_int, o_isi_tuple_str, o_isi_tuple_tup, o_isi_tuple_ktup, o_isi_tuple_lst, o_isi_list_non, o_isi_list_bl, o_isi_list_int, o_isi_list_str, o_isi_list_tup, o_isi_list_ktup, o_isi_list_lst, o_add_ii, o_sub_ii, o_add_ss, o_add_tt, o_add_ll, o_mul_il, o_mul_ir, o_pow_ii, o_dget, dictG_str, dictG_int, keyOf_s, keyOf_i, getset, dnewR_3, o_mod_ii, o_fdiv_ii, o_eq_int, o_eq_str, o_eq_bl, o_ne_int, o_ne_str, o_ne_bl, o_lt_i, o_le_i, o_gt_i, o_ge_i, o_in_s, o_nin_s, o_eq_d, o_ne_d, o_len_s, o_len_t, o_len_kt, o_len_l, o_tup_l, o_tup_t, oTup_l, oLen_l, oIx_l, oLst_l, o_tup_o, o_len_o, o_all, o_any, o_str_i, o_int_i, o_sum, o_join, o_join_t, o_split, atI_0, atI_1, atI_2, atI_3, o_ix_t, o_ix_kt, o_ix_l, o_ix_o, o_ix_s, o_sl_s, o_sl_t, o_sl_l, o_lof_l, o_sof_l, o_sof_t, o_lof_o, List.getElem?_cons_zero, List.getElem?_cons_succ, List.set_cons_zero, List.set_cons_succ, Option.bind_some, List.length_cons, List.length_nil, if_true, if_false, Bool.not_true, Bool.not_false, Bool.and_true, Bool.true_and, Bool.and_false, Bool.false_and, Bool.or_true, Bool.true_or, Bool.or_false, Bool.false_or, Bool.not_not, ite_true, ite_false, reduceIte, Nat.reduceAdd, Int.reduceAdd, Int.reduceSub, Int.reduceMod, Int.reduceMul, Nat.reduceLT, reduceCtorEq, startD, List.map_cons, List.map_nil, List.replicate_succ, List.replicate_zero, List.cons_append, List.nil_append, Nat.reduceSub, decide_true, decide_false, true_and, and_true, eq_self, Int.reduceEq, Int.reduceNe, Int.reduceLT, Int.reduceLE, Nat.reduceEqDiff, Int.reduceToNat, Nat.reduceLeDiff, List.length_map, signs_mp, join_opt, ne_nil_s, ne_nil_i, ne_nil_n, isEmpty_filt, upto_z, compL_nil, Int.toNat_natCast, id_eq, List.length_set, cst0, cst1, cst2, cst3, cst4, cst5, cst6, ne_eq, not_true_eq_false, not_false_eq_true, *])
local macro_rules | `(tactic| bv_omega) => `(tactic| (first | rfl | (simp [-List.all_eq_true] at *; done) | (simp [-List.all_eq_true] at *; omega) | (simp [-List.all_eq_true] at *; grind)))
def fdSized (id ir : Nat) : Fd := ⟨4, 10,
(.cons (.set 4 (.mut (.disp .nil)))
(.cons (.for_ (.name 5) (.range1 (.slot 2))
(.cons (.set 6 (.mut (.disp .nil)))
(.cons (.for_ (.name 7) (.val (.slot 1))
(.cons (.set 8 (.frz (.lc false (.ix (.frz (.disp (.cons (.slot 7) (.cons (.ix (.slot 1) (.call id (.cons (.slot 0) (.cons (.bi .len (.cons (.slot 1) .nil)) .nil)))) .nil)))) (.call id (.cons (.slot 0) (.cons (.cst (.int 2)) .nil)))) (.name 9) (.range1 (.slot 3)) .none [9])))
(.cons (.ex (.meth .append (.slot 6) (.cons (.meth .join (.cst (.str [])) (.cons (.slot 8) .nil)) .nil)))
.nil)))
(.cons (.ex (.meth .append (.slot 4) (.cons (.bi .tuple (.cons (.slot 6) .nil)) .nil)))
.nil))))
(.cons (.ret (.tup (.cons (.slot 1) (.cons (.call ir (.cons (.slot 0) (.cons (.slot 2) (.cons (.slot 1) .nil)))) (.cons (.call ir (.cons (.slot 0) (.cons (.slot 3) (.cons (.slot 1) .nil)))) (.cons (.bi .tuple (.cons (.slot 4) .nil)) .nil))))))
.nil)))⟩
def TxtOK (s : List Nat) (rg : Nat) (t : List Nat) : Prop := t.length = rg ∧ ∀ c ∈ t, c ∈ s
def RowOK (s : List Nat) (rg : Nat) (x : List (List Nat)) : Prop := x.length = s.length ∧ ∀ t ∈ x, TxtOK s rg t
/-- one text drawn -/
theorem d_sized {fs : List Fd} {im id ir ix : Nat} (hm : fs[im]? = some fdMixed) (hd : fs[id]? = some (fdDigit im)) (hr : fs[ir]? = some (fdRows id)) (hx : fs[ix]? = some (fdSized id ir)) {n p B lf rg : Nat} {s : List Nat} {L : Store}
    (h : Dr p (B + s.length * lf + s.length * rg + (2 * rg * s.length) * lf) L) (l0 : 0 < lf) (l1 : lf ≤ 1000) (r0 : 0 < rg) (r1 : rg ≤ 1000) (hs0 : 0 < s.length) (hs : s.length ≤ 1000) :
    ∃ (l r : List (List Int)) (os : List (List (List Nat))) (o : O), callF (evFn fs (n + 4)) ix [.obj p, .str s, .int lf, .int rg] L = .ok (.tup [.str s, .tup (l.map fun r => .tup (r.map .int)), .tup (r.map fun r => .tup (r.map .int)), .tup (os.map fun x => .tup (x.map .str))]) (L.set p o) ∧ Dr p B (L.set p o) ∧
      (l.length = lf ∧ ∀ x ∈ l, x.length = s.length ∧ ∀ y ∈ x, 0 ≤ y ∧ y < lf) ∧ (r.length = rg ∧ ∀ x ∈ r, x.length = s.length ∧ ∀ y ∈ x, 0 ≤ y ∧ y < rg) ∧ (os.length = lf ∧ ∀ x ∈ os, RowOK s rg x) := by
  have hp := h.lt
  -- one text
  have text : ∀ (c : Nat), c ∈ s → ∀ (a z : Option D) (w : Nat) (N : Nat) (K : Store) (ts : List (List Nat)), DrM p L (N + 2 * rg) K → ∀ (os : List (List (List Nat))), L.length < w → K[L.length]? = some (.lst (os.map fun x => .tup (x.map .str))) → K[w]? = some (.lst (ts.map .str)) →
      ∃ (t : List Nat) (K' : Store), compL (turnE (evFn fs (n + 3)) false (.ix (.frz (.disp (.cons (.slot 7) (.cons (.ix (.slot 1) (.call id (.cons (.slot 0) (.cons (.bi .len (.cons (.slot 1) .nil)) .nil)))) .nil)))) (.call id (.cons (.slot 0) (.cons (.cst (.int 2)) .nil)))) (.name 9) .none [9] [some (.obj p), some (.str s), some (.int lf), some (.int rg), some (.obj L.length), a, some (.obj w), some (.str [c]), z, none]) (upto 0 rg) K = .ok (t.map fun c => .str [c]) K' ∧ TxtOK s rg t ∧ DrM p L N K' ∧ K'[L.length]? = some (.lst (os.map fun x => .tup (x.map .str))) ∧ K'[w]? = some (.lst (ts.map .str)) ∧ K'.length = K.length := by
    intro c hc a z w N K ts hK os hw hk1 hk2
    rw [upto0]
    have := comp_stc (f := turnE (evFn fs (n + 3)) false (.ix (.frz (.disp (.cons (.slot 7) (.cons (.ix (.slot 1) (.call id (.cons (.slot 0) (.cons (.bi .len (.cons (.slot 1) .nil)) .nil)))) .nil)))) (.call id (.cons (.slot 0) (.cons (.cst (.int 2)) .nil)))) (.name 9) .none [9] [some (.obj p), some (.str s), some (.int lf), some (.int rg), some (.obj L.length), a, some (.obj w), some (.str [c]), z, none]) (k := fun i : Nat => D.int (i : Int)) (g := fun c : Nat => D.str [c]) (I := fun N K' => DrM p L N K' ∧ K'[L.length]? = some (.lst (os.map fun x => .tup (x.map .str))) ∧ K'[w]? = some (.lst (ts.map .str)) ∧ K'.length = K.length) (Q := fun c => c ∈ s) 2 (l := List.range rg) (n := N) (L := K)
      (fun i hi N K ⟨hI, j1, j2, j3⟩ => ?_) ⟨by rw [List.length_range]; exact hK, hk1, hk2, rfl⟩
    · obtain ⟨t, K', e, ⟨i1, i2, i3, i4⟩, l, q⟩ := this
      exact ⟨t, K', e, ⟨by rw [l, List.length_range], q⟩, i1, i2, i3, i4⟩
    · obtain ⟨d, o, e1, d0, d1, hD⟩ := d_digit hm hd (n := n + 1) (m := (s.length : Int)) hI.dr (by omega) (by omega)
      obtain ⟨d', o', e2, d0', d1', hD'⟩ := d_digit hm hd (n := n + 1) (m := 2) hD (by omega) (by omega)
      obtain ⟨j, rfl⟩ := Int.eq_ofNat_of_zero_le d0
      have hj : j < s.length := by omega
      have hx : L2.atI s (j : Int) = some s[j] := L2.atI_nat (List.getElem?_eq_getElem hj)
      have hmem : s[j] ∈ s := List.getElem_mem hj
      generalize s[j] = g at *
      have hd2 : d' = 0 ∨ d' = 1 := by omega
      have zz : DrM p L N ((K.set p o).set p o') := (hI.step hD).step hD'
      have p1 : p ≠ L.length := by omega
      have p2 : p ≠ w := by omega
      have q1 : ((K.set p o).set p o')[L.length]? = some (.lst (os.map fun x => .tup (x.map .str))) := by rw [set_at (Ne.symm p1), set_at (Ne.symm p1)]; exact j1
      have q2 : ((K.set p o).set p o')[w]? = some (.lst (ts.map .str)) := by rw [set_at (Ne.symm p2), set_at (Ne.symm p2)]; exact j2
      rcases hd2 with rfl | rfl
      · refine ⟨c, (K.set p o).set p o', ?_, ⟨zz, q1, q2, by rw [List.length_set, List.length_set]; exact j3⟩, hc⟩
        trivial
      · refine ⟨g, (K.set p o).set p o', ?_, ⟨zz, q1, q2, by rw [List.length_set, List.length_set]; exact j3⟩, hmem⟩
        trivial
  have opure : ∀ os : List (List (List Nat)), (O.lst (os.map fun x => .tup (x.map .str))).pure = true := fun os => pur_of (fun x : List (List Nat) => D.tup (x.map .str)) (fun x => pur_of D.str (fun _ => rfl) x) os
  have tpure : ∀ ts : List (List Nat), (O.lst (ts.map .str)).pure = true := fun ts => pur_of D.str (fun _ => rfl) ts
  -- one row
  have row : ∀ (i : Int) (N : Nat) (K : Store) (os : List (List (List Nat))) (u v w z : Option D), os.length ≤ 1000 → DrM p L (N + 2 * rg * s.length) K → L.length < K.length → K[L.length]? = some (.lst (os.map fun x => .tup (x.map .str))) →
      ∃ (ρ' : Env) (K' : Store) (x : List (List Nat)), bodyF (evFn fs (n + 3)) (.name 5) (.cons (.set 6 (.mut (.disp .nil)))
(.cons (.for_ (.name 7) (.val (.slot 1))
(.cons (.set 8 (.frz (.lc false (.ix (.frz (.disp (.cons (.slot 7) (.cons (.ix (.slot 1) (.call id (.cons (.slot 0) (.cons (.bi .len (.cons (.slot 1) .nil)) .nil)))) .nil)))) (.call id (.cons (.slot 0) (.cons (.cst (.int 2)) .nil)))) (.name 9) (.range1 (.slot 3)) .none [9])))
(.cons (.ex (.meth .append (.slot 6) (.cons (.meth .join (.cst (.str [])) (.cons (.slot 8) .nil)) .nil)))
.nil)))
(.cons (.ex (.meth .append (.slot 4) (.cons (.bi .tuple (.cons (.slot 6) .nil)) .nil)))
.nil))) (.int i) [some (.obj p), some (.str s), some (.int lf), some (.int rg), some (.obj L.length), u, v, w, z, none] K = .next ρ' K' ∧ (∃ u v w z, ρ' = [some (.obj p), some (.str s), some (.int lf), some (.int rg), some (.obj L.length), u, v, w, z, none]) ∧ RowOK s rg x ∧ DrM p L N K' ∧ L.length < K'.length ∧ K'[L.length]? = some (.lst ((os ++ [x]).map fun x => .tup (x.map .str))) := by
    intro i N K os u v w z hos hK hlt hk
    have hK1 := hK.app (x := .lst []) rfl
    have hk1 : (K ++ [.lst []])[L.length]? = some (.lst (os.map fun x => .tup (x.map .str))) := by rw [List.getElem?_append_left hlt]; exact hk
    have hk2 : (K ++ [O.lst []])[K.length]? = some (.lst []) := by simp
    have loop := for_st (b := bodyF (evFn fs (n + 3)) (.name 7) (.cons (.set 8 (.frz (.lc false (.ix (.frz (.disp (.cons (.slot 7) (.cons (.ix (.slot 1) (.call id (.cons (.slot 0) (.cons (.bi .len (.cons (.slot 1) .nil)) .nil)))) .nil)))) (.call id (.cons (.slot 0) (.cons (.cst (.int 2)) .nil)))) (.name 9) (.range1 (.slot 3)) .none [9])))
(.cons (.ex (.meth .append (.slot 6) (.cons (.meth .join (.cst (.str [])) (.cons (.slot 8) .nil)) .nil)))
.nil))) (k := fun c : Nat => D.str [c]) (I := fun ds N ρ K' => ∃ (ts : List (List Nat)) (w z : Option D), ρ = [some (.obj p), some (.str s), some (.int lf), some (.int rg), some (.obj L.length), some (.int i), some (.obj K.length), w, z, none] ∧ ts.length = ds.length ∧ (∀ t ∈ ts, TxtOK s rg t) ∧ DrM p L N K' ∧ K'[L.length]? = some (.lst (os.map fun x => .tup (x.map .str))) ∧ K'[K.length]? = some (.lst (ts.map .str)) ∧ K.length < K'.length) (2 * rg) (w := s) (n := N) (ρ := [some (.obj p), some (.str s), some (.int lf), some (.int rg), some (.obj L.length), some (.int i), some (.obj K.length), w, z, none]) (L := K ++ [.lst []])
      ⟨[], w, z, rfl, rfl, by simp, hK1, hk1, hk2, by simp⟩ (fun ds c r hw N ρ K' hI => by
        obtain ⟨ts, w, z, rfl, hts, hto, h1, h2, h3, h4⟩ := hI
        have hc : c ∈ s := by rw [hw]; simp
        have hl := congrArg List.length hw
        rw [List.length_append, List.length_cons] at hl
        obtain ⟨t, K2, e, ht, g1, g2, g3, g4⟩ := text c hc (some (.int i)) z K.length N K' ts h1 os hlt h2 h3
        have q2 : (K2.set K.length (O.lst (ts.map .str ++ [.str t])))[L.length]? = some (.lst (os.map fun x => .tup (x.map .str))) := by rw [List.getElem?_set_ne (by omega)]; exact g2
        have q3 : (K2.set K.length (O.lst (ts.map .str ++ [.str t])))[K.length]? = some (.lst ((ts ++ [t]).map .str)) := by rw [List.getElem?_set_self (by omega), List.map_append]; rfl
        have tl : t.length ≤ 1000 := by rw [ht.1]; exact r1
        have hl' : ts.length < 16777216 := by omega
        have hts' : (ts ++ [t]).length = (ds ++ [c]).length := by simp [hts]
        clear hw hl hts
        have jc := fun L => @o_join_c L t (by omega)
        refine ⟨[some (.obj p), some (.str s), some (.int lf), some (.int rg), some (.obj L.length), some (.int i), some (.obj K.length), some (.str [c]), some (.lst (t.map fun c => .str [c])), none], K2.set K.length (.lst (ts.map .str ++ [.str t])), ?_, ts ++ [t], _, _, rfl, hts', ?_, g1.own (by omega) (by have := tpure (ts ++ [t]); rw [List.map_append] at this; exact this), q2, q3, by rw [List.length_set]; omega⟩
        · trivial
        · intro x hx
          rcases List.mem_append.mp hx with h | h
          · exact hto x h
          · rw [List.mem_singleton.mp h]; exact ht)
    obtain ⟨ρ', K', e, ts, w', z', rfl, hts, hto, h1, h2, h3, h4⟩ := loop
    have hlk : L.length < K'.length := by omega
    refine ⟨[some (.obj p), some (.str s), some (.int lf), some (.int rg), some (.obj L.length), some (.int i), some (.obj K.length), w', z', none], K'.set L.length (.lst (os.map (fun x => .tup (x.map .str)) ++ [.tup (ts.map .str)])), ts, ?_, ⟨_, _, _, _, rfl⟩, ⟨hts, hto⟩, h1.own (Nat.le_refl _) (by have := opure (os ++ [ts]); rw [List.map_append] at this; exact this), by rw [List.length_set]; exact hlk, by rw [List.getElem?_set_self hlk, List.map_append]; rfl⟩
    trivial
  have loop := for_st (b := bodyF (evFn fs (n + 3)) (.name 5) (.cons (.set 6 (.mut (.disp .nil)))
(.cons (.for_ (.name 7) (.val (.slot 1))
(.cons (.set 8 (.frz (.lc false (.ix (.frz (.disp (.cons (.slot 7) (.cons (.ix (.slot 1) (.call id (.cons (.slot 0) (.cons (.bi .len (.cons (.slot 1) .nil)) .nil)))) .nil)))) (.call id (.cons (.slot 0) (.cons (.cst (.int 2)) .nil)))) (.name 9) (.range1 (.slot 3)) .none [9])))
(.cons (.ex (.meth .append (.slot 6) (.cons (.meth .join (.cst (.str [])) (.cons (.slot 8) .nil)) .nil)))
.nil)))
(.cons (.ex (.meth .append (.slot 4) (.cons (.bi .tuple (.cons (.slot 6) .nil)) .nil)))
.nil)))) (k := fun i : Nat => D.int (i : Int)) (I := fun ds N ρ K => ∃ (os : List (List (List Nat))), (∃ u v w z, ρ = [some (.obj p), some (.str s), some (.int lf), some (.int rg), some (.obj L.length), u, v, w, z, none]) ∧ os.length = ds.length ∧ (∀ x ∈ os, RowOK s rg x) ∧ DrM p L N K ∧ L.length < K.length ∧ K[L.length]? = some (.lst (os.map fun x => .tup (x.map .str)))) (2 * rg * s.length) (w := List.range lf) (n := B + s.length * lf + s.length * rg) (ρ := [some (.obj p), some (.str s), some (.int lf), some (.int rg), some (.obj L.length), none, none, none, none, none]) (L := L ++ [.lst []])
    ⟨[], ⟨_, _, _, _, rfl⟩, rfl, by simp, by rw [List.length_range]; exact (DrM.of h).app rfl, by simp, by simp⟩ (fun ds a r hw N ρ K hI => by
      obtain ⟨os, ⟨u, v, w, z, rfl⟩, hos, hro, h1, h2, h3⟩ := hI
      have hl := congrArg List.length hw
      rw [List.length_range, List.length_append, List.length_cons] at hl
      clear hw
      obtain ⟨ρ', K', x, e, hρ, hx, g1, g2, g3⟩ := row (a : Int) N K os u v w z (by omega) h1 h2 h3
      refine ⟨ρ', K', e, os ++ [x], hρ, by simp [hos], ?_, g1, g2, g3⟩
      intro y hy
      rcases List.mem_append.mp hy with h | h
      · exact hro y h
      · rw [List.mem_singleton.mp h]; exact hx)
  obtain ⟨ρ', K, e, os, ⟨u, v, w, z, rfl⟩, hos, hro, h1, h2, h3⟩ := loop
  rw [List.length_range] at hos
  obtain ⟨l, o1, e1, D1, ll, lq⟩ := d_rows hm hd hr (n := n) (p := p) (B := B + s.length * rg) (many := lf) (s := s) (L := K) (h1.dr.less (by omega)) l0 l1 hs
  have m1 := h1.step D1
  obtain ⟨r, o2, e2, D2, rl, rq⟩ := d_rows hm hd hr (n := n) (p := p) (B := B) (many := rg) (s := s) (L := K.set p o1) D1 r0 r1 hs
  have m2 := m1.step D2
  have p1 : L.length ≠ p := by omega
  have q1 : ((K.set p o1).set p o2)[L.length]? = some (.lst (os.map fun x => .tup (x.map .str))) := by rw [set_at p1, set_at p1]; exact h3
  have e' := e
  rw [← upto0] at e'
  have pd : (D.tup [.str s, .tup (l.map fun r => .tup (r.map .int)), .tup (r.map fun r => .tup (r.map .int)), .tup (os.map fun x => .tup (x.map .str))]).pure = true := by
    have a1 := pur_rows l
    have a2 := pur_rows r
    have a3 : (D.tup (os.map fun x => .tup (x.map .str))).pure = true := opure os
    simp only [D.pure, purAll, a1, a2, a3, Bool.and_self] at *
    simp only [D.pure, purAll, a1, a2, a3, Bool.and_self] at *
  obtain ⟨o, c, hD⟩ := callF_dr (cf := evFn fs (n + 4)) (f := ix) (xs := [.obj p, .str s, .int lf, .int rg]) (L := L) rfl (run_to (fdSized id ir) hx rfl (Y := .ok (.tup [.str s, .tup (l.map fun r => .tup (r.map .int)), .tup (r.map fun r => .tup (r.map .int)), .tup (os.map fun x => .tup (x.map .str))]) ((K.set p o1).set p o2)) (by
    unfold fdSized
    trivial)) m2.toF pd
  exact ⟨l, r, os, o, c, hD, ⟨ll, lq⟩, ⟨rl, rq⟩, hos, hro⟩

end EV
end

section
namespace EV
open PySem
local macro_rules | `(tactic| trivial) => `(tactic| simp (config := {contextual := true, maxSteps := 1000000, implicitDefEqProofs := false}) (disch := first | with_reducible assumption | omega | (simp only [List.length_map, List.length_set, upto_len, List.length_cons, List.length_nil, List.length_append, big, Bool.not_eq_true, Bool.not_eq_true', Bool.not_eq_false', Bool.and_eq_true, decide_eq_true_eq, decide_eq_false_iff_not] at *; omega)) only [x_slot, x_cst, x_glob, x_fnv, x_bin, x_neg, x_not, x_cmp, x_chain, x_isN, x_notN, x_and, x_or, x_ife, x_tup, x_frz, x_mut, x_call, x_callk, x_callv, x_bi, x_split, x_join, x_index, x_append, x_ix, x_dget, x_sl, x_isi, x_dnew, x_xfld, x_tupr, x_nil, x_cons, x_onone, x_osome, x_tnone, x_tsome, x_knil, x_kcons, x_disp, x_lc, x_fsl, x_rev, x_cat, x_lis, x_val, x_rng, x_rng2, x_enum, x_zip, x_turn, x_comp, y_nil, y_cons, y_set, y_par, y_asg, y_setIx, y_setK, y_ex, y_ife, y_body, y_for, y_forW, y_turn, y_done, y_ret, y_retN, y_raise, y_pass, y_brk, y_cont, y_try, y_hs, kBin2, kBin1, kCmp2, kCmp1, kBool, kNot, kNeg, kCh3, kCh2, kCh1b, kCh1, kIsN, kNotN, kAnd, kOr, kIfe, kTup, kFrz, kMut, kCall, kCallk, kCallv, kBi, kMe2, kMe1, kAp3, kAp2, kAp1, kIx2, kIx1, kDg2, kDg1, kSl3, kSl2, kSl1, kIsi, kDnew, kTupr, kEs2, kEs1, kInt, kTst, kK4, kK3, kK2, kK1, kDisp, kLc, kFs4, kFs3, kFs2, kFs1, kRev2, kRev, kCat4, kCat3, kCat2, kCat1, kLis, kVal, kRng, kRng2b, kRng2, kEnum, kZip2, kZip1, kSome, kTn2, kTn1, jSeq, jSet, jPar, jAsg, jSx3, jSx2, jSx1, jSk3, jSk2, jSk1, jEx, jIf, jBody, jFor, jExc, bind_ok, bind_exc, bind_bad, then_ok, then_exc, then_bad, seq_next, seq_ret, seq_exc, seq_brk, seq_cont, seq_bad, optR_some, blR_some, slotR_some, condR_t, condR_f, condS_t, condS_f, condR_bl, condS_bl, join_and, join_or, bind_ite, then_ite, seq_ite, negR_int, notR_bl, boolR_bl, isNon_non, isNon_int, isNon_str, isNon_tup, isNon_lst, isNon_obj, sizR_0, sizR_1, sizR_2, sizR_3, sizR_4, sizR_5, sizR_6, sizR_7, sizR_8, sizR_ok, intR_int, tstR_bl, recvA_obj, recvL_lst, appR_obj, appL_ok, setKS_obj, setKO_str, setIxS_obj, valO_lst, valR_obj, recvS_str, xfR_ok, tuprR_int, lstR_some, valR_lst, valR_tup, valR_ktup, valR_str, rngR_int, rng2R_int, enumR_lst, zipR_lst, zipR_tup, callvR_ok, noX_ok, noX_ite, noX_f, bindT_name, bindT_tup, bindT_ktup, bindTs_nil, bindTs_cons, wipe_nil, wipe_cons, envS_some, envB_some, loop_next, loop_cont, loop_brk, loop_ret, loop_exc, loop_ite, tryS_exc, tryS_ret, tryS_next, endH_ret, retS_next, retS_ret, retS_exc, retS_ite, setAll, o_isi_int_non, o_isi_int_bl, o_isi_int_int, o_isi_int_str, o_isi_int_tup, o_isi_int_ktup, o_isi_int_lst, o_isi_str_non, o_isi_str_bl, o_isi_str_int, o_isi_str_str, o_isi_str_tup, o_isi_str_ktup, o_isi_str_lst, o_isi_bool_non, o_isi_bool_bl, o_isi_bool_int, o_isi_bool_str, o_isi_bool_tup, o_isi_bool_ktup, o_isi_bool_lst, o_isi_tuple_non, o_isi_tuple_bl, o_isi_tuple_int, o_isi_tuple_str, o_isi_tuple_tup, o_isi_tuple_ktup, o_isi_tuple_lst, o_isi_list_non, o_isi_list_bl, o_isi_list_int, o_isi_list_str, o_isi_list_tup, o_isi_list_ktup, o_isi_list_lst, o_add_ii, o_sub_ii, o_add_ss, o_add_tt, o_add_ll, o_mul_il, o_mul_ir, o_pow_ii, o_dget, dictG_str, dictG_int, keyOf_s, keyOf_i, getset, dnewR_3, o_mod_ii, o_fdiv_ii, o_eq_int, o_eq_str, o_eq_bl, o_ne_int, o_ne_str, o_ne_bl, o_lt_i, o_le_i, o_gt_i, o_ge_i, o_in_s, o_nin_s, o_eq_d, o_ne_d, o_len_s, o_len_t, o_len_kt, o_len_l, o_tup_l, o_tup_t, oTup_l, oLen_l, oIx_l, oLst_l, o_tup_o, o_len_o, o_all, o_any, o_str_i, o_int_i, o_sum, o_join, o_join_t, o_split, atI_0, atI_1, atI_2, atI_3, o_ix_t, o_ix_kt, o_ix_l, o_ix_o, o_ix_s, o_sl_s, o_sl_t, o_sl_l, o_lof_l, o_sof_l, o_sof_t, o_lof_o, List.getElem?_cons_zero, List.getElem?_cons_succ, List.set_cons_zero, List.set_cons_succ, Option.bind_some, List.length_cons, List.length_nil, if_true, if_false, Bool.not_true, Bool.not_false, Bool.and_true, Bool.true_and, Bool.and_false, Bool.false_and, Bool.or_true, Bool.true_or, Bool.or_false, Bool.false_or, Bool.not_not, ite_true, ite_false, reduceIte, Nat.reduceAdd, Int.reduceAdd, Int.reduceSub, Int.reduceMod, Int.reduceMul, Nat.reduceLT, reduceCtorEq, startD, List.map_cons, List.map_nil, List.replicate_succ, List.replicate_zero, List.cons_append, List.nil_append, Nat.reduceSub, decide_true, decide_false, true_and, and_true, eq_self, Int.reduceEq, Int.reduceNe, Int.reduceLT, Int.reduceLE, Nat.reduceEqDiff, Int.reduceToNat, Nat.reduceLeDiff, List.length_map, signs_mp, join_opt, ne_nil_s, ne_nil_i, ne_nil_n, isEmpty_filt, upto_z, compL_nil, Int.toNat_natCast, id_eq, List.length_set, cst0, cst1, cst2, cst3, cst4, cst5, cst6, ne_eq, not_true_eq_false, not_false_eq_true, *])
local macro_rules | `(tactic| bv_omega) => `(tactic| (first | rfl | (simp [-List.all_eq_true] at *; done) | (simp [-List.all_eq_true] at *; omega) | (simp [-List.all_eq_true] at *; grind)))
/-! ### machines and guards: what they are -/
def strsD (l : List (List Nat)) : D := .tup (l.map .str)
def outsD (o : List (List (List Nat))) : D := .tup (o.map strsD)
theorem strsD_pure (l : List (List Nat)) : (strsD l).pure = true := pur_of _ (fun _ => rfl) _
theorem outsD_pure (l : List (List (List Nat))) : (outsD l).pure = true := pur_of _ strsD_pure _
theorem s_0 {n : Nat} {i lo hi : Int} : ∀ L, callF (evFn fs75 (n + 1)) 0 [.int i, .int lo, .int hi] L = .ok (.bl (decide (lo ≤ i) && decide (i ≤ hi))) L := by
  refine callF_of (L1 := []) (run_to P75_0 rfl rfl ?_) rfl rfl
  unfold P75_0
  trivial
theorem s_3 {n : Nat} {l : List (List Int)} {m : Nat} (hl : ∀ r ∈ l, r.length ≤ 16777216) : ∀ L, callF (evFn fs75 (n + 2)) 3 [rowsD l, .int m] L = .ok (.bl (rowsOK l m)) L := by
  refine callF_of (L1 := []) (run_to P75_3 rfl rfl ?_) (by rw [purAll_cons, rowsD_pure]; rfl) rfl
  unfold P75_3 rowsD rowsOK
  trivial
  split
  · bv_omega
  · rename_i h
    refine ret_all (rowOK l.length m) (fun ρ => ∃ v w, ρ = [some (.tup (l.map intsD)), some (.int m), v, w]) (.bl false) ⟨_, _, rfl⟩ ?_ ?_ ?_
    · rintro r hr ρ ⟨v, w, rfl⟩
      have hr' := hl r hr
      have e0 := @s_0 n
      refine ⟨[_, _, some (intsD r), w], ⟨_, _, rfl⟩, ?_⟩
      unfold intsD rowOK
      trivial
      rw [comp_of (k := D.int) (g := fun x => .bl (decide (0 ≤ x) && decide (x ≤ (l.length : Int) - 1)))]
      · trivial
        split
        · bv_omega
        · split <;> bv_omega
      · intro x hx
        trivial
    · rintro h1 ρ ⟨v, w, rfl⟩
      trivial
      bv_omega
    · intro h1
      bv_omega
theorem s_4 {n : Nat} {s : List Nat} {row : List (List Nat)} {m : Nat} (hs : s.length ≤ 16777216) (hr : ∀ t ∈ row, t.length ≤ 16777216) : ∀ L, callF (evFn fs75 (n + 1)) 4 [.str s, strsD row, .int m] L = .ok (.bl (decide (row.length = s.length) && row.all fun t => decide (t.length = m) && t.all fun c => decide (c ∈ s))) L := by
  refine callF_of (L1 := []) (run_to P75_4 rfl rfl ?_) (by rw [purAll_cons, purAll_cons, strsD_pure]; rfl) rfl
  unfold P75_4 strsD
  trivial
  split
  · bv_omega
  · rename_i h
    refine ret_all (fun t : List Nat => decide (t.length = m) && t.all fun c => decide (c ∈ s)) (fun ρ => ∃ v w, ρ = [some (.str s), some (.tup (row.map .str)), some (.int m), v, w]) (.bl false) ⟨_, _, rfl⟩ ?_ ?_ ?_
    · rintro t ht ρ ⟨v, w, rfl⟩
      have ht' := hr t ht
      refine ⟨[_, _, _, some (.str t), w], ⟨_, _, rfl⟩, ?_⟩
      trivial
      rw [comp_of (k := fun c => D.str [c]) (g := fun c => .bl (decide (c ∈ s)))]
      · trivial
        split
        · bv_omega
        · split <;> bv_omega
      · intro x hx
        trivial
    · rintro h1 ρ ⟨v, w, rfl⟩
      trivial
      bv_omega
    · intro h1
      bv_omega

end EV
end

section
namespace EV
open PySem
local macro_rules | `(tactic| trivial) => `(tactic| simp (config := {contextual := true, maxSteps := 1000000, implicitDefEqProofs := false}) (disch := first | with_reducible assumption | omega | (simp only [List.length_map, List.length_set, upto_len, List.length_cons, List.length_nil, List.length_append, big, Bool.not_eq_true, Bool.not_eq_true', Bool.not_eq_false', Bool.and_eq_true, decide_eq_true_eq, decide_eq_false_iff_not] at *; omega)) only [x_slot, x_cst, x_glob, x_fnv, x_bin, x_neg, x_not, x_cmp, x_chain, x_isN, x_notN, x_and, x_or, x_ife, x_tup, x_frz, x_mut, x_call, x_callk, x_callv, x_bi, x_split, x_join, x_index, x_append, x_ix, x_dget, x_sl, x_isi, x_dnew, x_xfld, x_tupr, x_nil, x_cons, x_onone, x_osome, x_tnone, x_tsome, x_knil, x_kcons, x_disp, x_lc, x_fsl, x_rev, x_cat, x_lis, x_val, x_rng, x_rng2, x_enum, x_zip, x_turn, x_comp, y_nil, y_cons, y_set, y_par, y_asg, y_setIx, y_setK, y_ex, y_ife, y_body, y_for, y_forW, y_turn, y_done, y_ret, y_retN, y_raise, y_pass, y_brk, y_cont, y_try, y_hs, kBin2, kBin1, kCmp2, kCmp1, kBool, kNot, kNeg, kCh3, kCh2, kCh1b, kCh1, kIsN, kNotN, kAnd, kOr, kIfe, kTup, kFrz, kMut, kCall, kCallk, kCallv, kBi, kMe2, kMe1, kAp3, kAp2, kAp1, kIx2, kIx1, kDg2, kDg1, kSl3, kSl2, kSl1, kIsi, kDnew, kTupr, kEs2, kEs1, kInt, kTst, kK4, kK3, kK2, kK1, kDisp, kLc, kFs4, kFs3, kFs2, kFs1, kRev2, kRev, kCat4, kCat3, kCat2, kCat1, kLis, kVal, kRng, kRng2b, kRng2, kEnum, kZip2, kZip1, kSome, kTn2, kTn1, jSeq, jSet, jPar, jAsg, jSx3, jSx2, jSx1, jSk3, jSk2, jSk1, jEx, jIf, jBody, jFor, jExc, bind_ok, bind_exc, bind_bad, then_ok, then_exc, then_bad, seq_next, seq_ret, seq_exc, seq_brk, seq_cont, seq_bad, optR_some, blR_some, slotR_some, condR_t, condR_f, condS_t, condS_f, condR_bl, condS_bl, join_and, join_or, bind_ite, then_ite, seq_ite, negR_int, notR_bl, boolR_bl, isNon_non, isNon_int, isNon_str, isNon_tup, isNon_lst, isNon_obj, sizR_0, sizR_1, sizR_2, sizR_3, sizR_4, sizR_5, sizR_6, sizR_7, sizR_8, sizR_ok, intR_int, tstR_bl, recvA_obj, recvL_lst, appR_obj, appL_ok, setKS_obj, setKO_str, setIxS_obj, valO_lst, valR_obj, recvS_str, xfR_ok, tuprR_int, lstR_some, valR_lst, valR_tup, valR_ktup, valR_str, rngR_int, rng2R_int, enumR_lst, zipR_lst, zipR_tup, callvR_ok, noX_ok, noX_ite, noX_f, bindT_name, bindT_tup, bindT_ktup, bindTs_nil, bindTs_cons, wipe_nil, wipe_cons, envS_some, envB_some, loop_next, loop_cont, loop_brk, loop_ret, loop_exc, loop_ite, tryS_exc, tryS_ret, tryS_next, endH_ret, retS_next, retS_ret, retS_exc, retS_ite, setAll, o_isi_int_non, o_isi_int_bl, o_isi_int_int, o_isi_int_str, o_isi_int_tup, o_isi_int_ktup, o_isi_int_lst, o_isi_str_non, o_isi_str_bl, o_isi_str_int, o_isi_str_str, o_isi_str_tup, o_isi_str_ktup, o_isi_str_lst, o_isi_bool_non, o_isi_bool_bl, o_isi_bool_int, o_isi_bool_str, o_isi_bool_tup, o_isi_bool_ktup, o_isi_bool_lst, o_isi_tuple_non, o_isi_tuple_bl, o_isi_tuple_int, o_isi_tuple_str, o_isi_tuple_tup, o_isi_tuple_ktup, o_isi_tuple_lst, o_isi_list_non, o_isi_list_bl, o_isi_list_int, o_isi_list_str, o_isi_list_tup, o_isi_list_ktup, o_isi_list_lst, o_add_ii, o_sub_ii, o_add_ss, o_add_tt, o_add_ll, o_mul_il, o_mul_ir, o_pow_ii, o_dget, dictG_str, dictG_int, keyOf_s, keyOf_i, getset, dnewR_3, o_mod_ii, o_fdiv_ii, o_eq_int, o_eq_str, o_eq_bl, o_ne_int, o_ne_str, o_ne_bl, o_lt_i, o_le_i, o_gt_i, o_ge_i, o_in_s, o_nin_s, o_eq_d, o_ne_d, o_len_s, o_len_t, o_len_kt, o_len_l, o_tup_l, o_tup_t, oTup_l, oLen_l, oIx_l, oLst_l, o_tup_o, o_len_o, o_all, o_any, o_str_i, o_int_i, o_sum, o_join, o_join_t, o_split, atI_0, atI_1, atI_2, atI_3, o_ix_t, o_ix_kt, o_ix_l, o_ix_o, o_ix_s, o_sl_s, o_sl_t, o_sl_l, o_lof_l, o_sof_l, o_sof_t, o_lof_o, List.getElem?_cons_zero, List.getElem?_cons_succ, List.set_cons_zero, List.set_cons_succ, Option.bind_some, List.length_cons, List.length_nil, if_true, if_false, Bool.not_true, Bool.not_false, Bool.and_true, Bool.true_and, Bool.and_false, Bool.false_and, Bool.or_true, Bool.true_or, Bool.or_false, Bool.false_or, Bool.not_not, ite_true, ite_false, reduceIte, Nat.reduceAdd, Int.reduceAdd, Int.reduceSub, Int.reduceMod, Int.reduceMul, Nat.reduceLT, reduceCtorEq, startD, List.map_cons, List.map_nil, List.replicate_succ, List.replicate_zero, List.cons_append, List.nil_append, Nat.reduceSub, decide_true, decide_false, true_and, and_true, eq_self, Int.reduceEq, Int.reduceNe, Int.reduceLT, Int.reduceLE, Nat.reduceEqDiff, Int.reduceToNat, Nat.reduceLeDiff, List.length_map, signs_mp, join_opt, ne_nil_s, ne_nil_i, ne_nil_n, isEmpty_filt, upto_z, compL_nil, Int.toNat_natCast, id_eq, List.length_set, cst0, cst1, cst2, cst3, cst4, cst5, cst6, ne_eq, not_true_eq_false, not_false_eq_true, *])
local macro_rules | `(tactic| bv_omega) => `(tactic| (first | rfl | (simp [-List.all_eq_true] at *; done) | (simp [-List.all_eq_true] at *; omega) | (simp [-List.all_eq_true] at *; grind)))
def wSigns : List Nat := [115, 105, 103, 110, 115]
def wLefts : List Nat := [108, 101, 102, 116, 115]
def wRights : List Nat := [114, 105, 103, 104, 116, 115]
def wOuts : List Nat := [111, 117, 116, 115]
def wRows : List Nat := [114, 111, 119, 115]
def wGood : List Nat := [103, 111, 111, 100]
def toldOK (s : List Nat) (m : Nat) (row : List (List Nat)) : Bool := decide (row.length = s.length) && row.all fun t => decide (t.length = m) && t.all fun c => decide (c ∈ s)
def wrongM (s : List Nat) (l r : List (List Int)) (o : List (List (List Nat))) : List Nat :=
  if signsOK s = false then wSigns else if rowsOK l s.length = false then wLefts else if rowsOK r s.length = false then wRights else if o.length = l.length ∧ o.all (toldOK s r.length) = true then [] else wOuts
def machD (s : List Nat) (l r : List (List Int)) (o : List (List (List Nat))) : D := .tup [.str s, rowsD l, rowsD r, outsD o]
theorem machD_pure (s : List Nat) (l r : List (List Int)) (o : List (List (List Nat))) : (machD s l r o).pure = true := by
  simp [machD, D.pure, purAll, rowsD_pure, outsD_pure]
/-- data of bounded length -/
structure SzM (s : List Nat) (l r : List (List Int)) (o : List (List (List Nat))) : Prop where
  zs : s.length ≤ 16777216
  zl : l.length ≤ 16777216
  zr : r.length ≤ 16777216
  zo : o.length ≤ 16777216
  ll : ∀ x ∈ l, x.length ≤ 16777216
  rr : ∀ x ∈ r, x.length ≤ 16777216
  oo : ∀ x ∈ o, x.length ≤ 16777216
  oot : ∀ x ∈ o, ∀ t ∈ x, t.length ≤ 16777216
theorem isi_rowsD {L : Store} {l : List (List Int)} : isiV .tuple L (rowsD l) = some true := rfl
theorem isi_outsD {L : Store} {l : List (List (List Nat))} : isiV .tuple L (outsD l) = some true := rfl
theorem isi_intsD {L : Store} {l : List Int} : isiV .tuple L (intsD l) = some true := rfl
theorem len_rowsD {L : Store} {l : List (List Int)} : biV L .len [rowsD l] = some (.int l.length) := by unfold rowsD; rw [o_len_t, List.length_map]
theorem len_outsD {L : Store} {l : List (List (List Nat))} : biV L .len [outsD l] = some (.int l.length) := by unfold outsD; rw [o_len_t, List.length_map]
theorem len_intsD {L : Store} {l : List Int} : biV L .len [intsD l] = some (.int l.length) := by unfold intsD; rw [o_len_t, List.length_map]
theorem val_outsD {L : Store} {l : List (List (List Nat))} : valR (outsD l) L = .ok (.vals (l.map strsD)) L := rfl
theorem val_rowsD {L : Store} {l : List (List Int)} : valR (rowsD l) L = .ok (.vals (l.map intsD)) L := rfl
theorem val_intsD {L : Store} {l : List Int} : valR (intsD l) L = .ok (.vals (l.map .int)) L := rfl
local macro_rules | `(tactic| trivial) => `(tactic| simp (config := {contextual := true, maxSteps := 1000000, implicitDefEqProofs := false}) (disch := first | with_reducible assumption | omega | (simp only [List.length_map, List.length_set, upto_len, List.length_cons, List.length_nil, List.length_append, big, Bool.not_eq_true, Bool.not_eq_true', Bool.not_eq_false', Bool.and_eq_true, decide_eq_true_eq, decide_eq_false_iff_not] at *; omega)) only [x_slot, x_cst, x_glob, x_fnv, x_bin, x_neg, x_not, x_cmp, x_chain, x_isN, x_notN, x_and, x_or, x_ife, x_tup, x_frz, x_mut, x_call, x_callk, x_callv, x_bi, x_split, x_join, x_index, x_append, x_ix, x_dget, x_sl, x_isi, x_dnew, x_xfld, x_tupr, x_nil, x_cons, x_onone, x_osome, x_tnone, x_tsome, x_knil, x_kcons, x_disp, x_lc, x_fsl, x_rev, x_cat, x_lis, x_val, x_rng, x_rng2, x_enum, x_zip, x_turn, x_comp, y_nil, y_cons, y_set, y_par, y_asg, y_setIx, y_setK, y_ex, y_ife, y_body, y_for, y_forW, y_turn, y_done, y_ret, y_retN, y_raise, y_pass, y_brk, y_cont, y_try, y_hs, kBin2, kBin1, kCmp2, kCmp1, kBool, kNot, kNeg, kCh3, kCh2, kCh1b, kCh1, kIsN, kNotN, kAnd, kOr, kIfe, kTup, kFrz, kMut, kCall, kCallk, kCallv, kBi, kMe2, kMe1, kAp3, kAp2, kAp1, kIx2, kIx1, kDg2, kDg1, kSl3, kSl2, kSl1, kIsi, kDnew, kTupr, kEs2, kEs1, kInt, kTst, kK4, kK3, kK2, kK1, kDisp, kLc, kFs4, kFs3, kFs2, kFs1, kRev2, kRev, kCat4, kCat3, kCat2, kCat1, kLis, kVal, kRng, kRng2b, kRng2, kEnum, kZip2, kZip1, kSome, kTn2, kTn1, jSeq, jSet, jPar, jAsg, jSx3, jSx2, jSx1, jSk3, jSk2, jSk1, jEx, jIf, jBody, jFor, jExc, bind_ok, bind_exc, bind_bad, then_ok, then_exc, then_bad, seq_next, seq_ret, seq_exc, seq_brk, seq_cont, seq_bad, optR_some, blR_some, slotR_some, condR_t, condR_f, condS_t, condS_f, condR_bl, condS_bl, join_and, join_or, bind_ite, then_ite, seq_ite, negR_int, notR_bl, boolR_bl, isNon_non, isNon_int, isNon_str, isNon_tup, isNon_lst, isNon_obj, sizR_0, sizR_1, sizR_2, sizR_3, sizR_4, sizR_5, sizR_6, sizR_7, sizR_8, sizR_ok, intR_int, tstR_bl, recvA_obj, recvL_lst, appR_obj, appL_ok, setKS_obj, setKO_str, setIxS_obj, valO_lst, valR_obj, recvS_str, xfR_ok, tuprR_int, lstR_some, valR_lst, valR_tup, valR_ktup, valR_str, rngR_int, rng2R_int, enumR_lst, zipR_lst, zipR_tup, callvR_ok, noX_ok, noX_ite, noX_f, bindT_name, bindT_tup, bindT_ktup, bindTs_nil, bindTs_cons, wipe_nil, wipe_cons, envS_some, envB_some, loop_next, loop_cont, loop_brk, loop_ret, loop_exc, loop_ite, tryS_exc, tryS_ret, tryS_next, endH_ret, retS_next, retS_ret, retS_exc, retS_ite, setAll, o_isi_int_non, o_isi_int_bl, o_isi_int_int, o_isi_int_str, o_isi_int_tup, o_isi_int_ktup, o_isi_int_lst, o_isi_str_non, o_isi_str_bl, o_isi_str_int, o_isi_str_str, o_isi_str_tup, o_isi_str_ktup, o_isi_str_lst, o_isi_bool_non, o_isi_bool_bl, o_isi_bool_int, o_isi_bool_str, o_isi_bool_tup, o_isi_bool_ktup, o_isi_bool_lst, o_isi_tuple_non, o_isi_tuple_bl, o_isi_tuple_int, o_isi_tuple_str, o_isi_tuple_tup, o_isi_tuple_ktup, o_isi_tuple_lst, o_isi_list_non, o_isi_list_bl, o_isi_list_int, o_isi_list_str, o_isi_list_tup, o_isi_list_ktup, o_isi_list_lst, o_add_ii, o_sub_ii, o_add_ss, o_add_tt, o_add_ll, o_mul_il, o_mul_ir, o_pow_ii, o_dget, dictG_str, dictG_int, keyOf_s, keyOf_i, getset, dnewR_3, o_mod_ii, o_fdiv_ii, o_eq_int, o_eq_str, o_eq_bl, o_ne_int, o_ne_str, o_ne_bl, o_lt_i, o_le_i, o_gt_i, o_ge_i, o_in_s, o_nin_s, o_eq_d, o_ne_d, o_len_s, o_len_t, o_len_kt, o_len_l, o_tup_l, o_tup_t, oTup_l, oLen_l, oIx_l, oLst_l, o_tup_o, o_len_o, o_all, o_any, o_str_i, o_int_i, o_sum, o_join, o_join_t, o_split, atI_0, atI_1, atI_2, atI_3, o_ix_t, o_ix_kt, o_ix_l, o_ix_o, o_ix_s, o_sl_s, o_sl_t, o_sl_l, o_lof_l, o_sof_l, o_sof_t, o_lof_o, List.getElem?_cons_zero, List.getElem?_cons_succ, List.set_cons_zero, List.set_cons_succ, Option.bind_some, List.length_cons, List.length_nil, if_true, if_false, Bool.not_true, Bool.not_false, Bool.and_true, Bool.true_and, Bool.and_false, Bool.false_and, Bool.or_true, Bool.true_or, Bool.or_false, Bool.false_or, Bool.not_not, ite_true, ite_false, reduceIte, Nat.reduceAdd, Int.reduceAdd, Int.reduceSub, Int.reduceMod, Int.reduceMul, Nat.reduceLT, reduceCtorEq, startD, List.map_cons, List.map_nil, List.replicate_succ, List.replicate_zero, List.cons_append, List.nil_append, Nat.reduceSub, decide_true, decide_false, true_and, and_true, eq_self, Int.reduceEq, Int.reduceNe, Int.reduceLT, Int.reduceLE, Nat.reduceEqDiff, Int.reduceToNat, Nat.reduceLeDiff, List.length_map, signs_mp, join_opt, ne_nil_s, ne_nil_i, ne_nil_n, isEmpty_filt, upto_z, compL_nil, Int.toNat_natCast, id_eq, List.length_set, cst0, cst1, cst2, cst3, cst4, cst5, cst6, ne_eq, not_true_eq_false, not_false_eq_true, isi_rowsD, isi_outsD, isi_intsD, len_rowsD, len_outsD, len_intsD, val_outsD, val_rowsD, val_intsD, *])
theorem s_5 {n : Nat} {s : List Nat} {l r : List (List Int)} {o : List (List (List Nat))} (z : SzM s l r o) : ∀ L, callF (evFn fs75 (n + 4)) 5 [machD s l r o] L = .ok (.str (wrongM s l r o)) L := by
  refine callF_of (L1 := []) (run_to P75_5 rfl rfl ?_) (by rw [purAll_cons, machD_pure]; rfl) rfl
  obtain ⟨hs, hl, hr, ho, hll, hrr, hoo, hot⟩ := z
  have e2 := fun L => okC_use (L := L) (@c_2 (n + 1) s hs)
  have e3 := @s_3 (n + 1) l s.length hll
  have e3' := @s_3 (n + 1) r s.length hrr
  have e4 := fun row (h : row ∈ o) => @s_4 (n + 2) s row r.length hs (hot row h)
  unfold P75_5 machD wrongM
  trivial
  cases h1 : signsOK s
  · bv_omega
  cases h2 : rowsOK l s.length
  · bv_omega
  cases h3 : rowsOK r s.length
  · bv_omega
  trivial
  rw [comp_of (k := strsD) (g := fun row => .bl (toldOK s r.length row))]
  · trivial
    by_cases q : o.length = l.length <;> cases q2 : o.all (toldOK s r.length) <;> simp [q, wOuts]
    omega
  · intro row hrow
    have := e4 row hrow
    unfold toldOK
    trivial
theorem s_6 {n : Nat} {s : List Nat} {l r : List (List Int)} {o : List (List (List Nat))} (z : SzM s l r o) :
    (wrongM s l r o = [] → ∀ L, callF (evFn fs75 (n + 5)) 6 [machD s l r o] L = .ok .non L) ∧ (wrongM s l r o ≠ [] → ∀ L, callF (evFn fs75 (n + 5)) 6 [machD s l r o] L = .exc 0 (.str (wrongM s l r o)) L) := by
  have e := @s_5 n s l r o z
  constructor
  · intro h
    refine callF_of (L1 := []) (run_to P75_6 rfl rfl ?_) (by rw [purAll_cons, machD_pure]; rfl) rfl
    unfold P75_6
    trivial
  · intro h
    refine callF_ofE (L1 := []) (run_to P75_6 rfl rfl ?_) (by rw [purAll_cons, machD_pure]; rfl) rfl
    unfold P75_6
    trivial
def guardD (s : List Nat) (l : List (List Int)) (g : List Int) : D := .tup [.str s, rowsD l, intsD g]
theorem guardD_pure (s : List Nat) (l : List (List Int)) (g : List Int) : (guardD s l g).pure = true := by
  simp [guardD, D.pure, purAll, rowsD_pure, intsD_pure]
def riseOK (g : List Int) : Bool := (List.range (g.length - 1)).all fun i => decide ((g[i]?).getD 0 < (g[i + 1]?).getD 0)
def wrongG (s : List Nat) (l : List (List Int)) (g : List Int) : List Nat :=
  if signsOK s = false then wSigns else if rowsOK l s.length = false then wRows else if g.all (fun x => decide (0 ≤ x) && decide (x < (l.length : Int))) = true ∧ riseOK g = true then [] else wGood
structure SzG (s : List Nat) (l : List (List Int)) (g : List Int) : Prop where
  zs : s.length ≤ 16777216
  zl : l.length ≤ 16777216
  zg : g.length ≤ 16777216
  ll : ∀ x ∈ l, x.length ≤ 16777216
theorem s_7 {n : Nat} {s : List Nat} {l : List (List Int)} {g : List Int} (z : SzG s l g) : ∀ L, callF (evFn fs75 (n + 4)) 7 [guardD s l g] L = .ok (.str (wrongG s l g)) L := by
  refine callF_of (L1 := []) (run_to P75_7 rfl rfl ?_) (by rw [purAll_cons, guardD_pure]; rfl) rfl
  obtain ⟨hs, hl, hg, hll⟩ := z
  have e2 := fun L => okC_use (L := L) (@c_2 (n + 1) s hs)
  have e3 := @s_3 (n + 1) l s.length hll
  have e0 := fun i lo hi => @s_0 (n + 2) i lo hi
  unfold P75_7 guardD wrongG
  trivial
  cases h1 : signsOK s
  · bv_omega
  cases h2 : rowsOK l s.length
  · bv_omega
  trivial
  rw [comp_of (k := D.int) (g := fun x => .bl (decide (0 ≤ x) && decide (x ≤ (l.length : Int) - 1)))]
  · trivial
    have ha : (g.all fun i => decide (0 ≤ i) && decide (i ≤ (l.length : Int) - 1)) = g.all fun x => decide (0 ≤ x) && decide (x < (l.length : Int)) := by
      congr 1; funext x; congr 1; exact decide_eq_decide.mpr (by omega)
    have hb : ((g.length : Int) - 1).toNat = g.length - 1 := by omega
    rw [ha]
    cases h3 : g.all fun x => decide (0 ≤ x) && decide (x < (l.length : Int))
    · simp [wGood]
    · rw [hb]
      trivial
      rw [comp_rng (g := fun i => .bl (decide ((g[i]?).getD 0 < (g[i + 1]?).getD 0)))]
      · trivial
        rw [show ((List.range (g.length - 1)).all fun i => decide ((g[i]?).getD 0 < (g[i + 1]?).getD 0)) = riseOK g from rfl]
        cases riseOK g <;> simp [wGood]
      · intro i hi
        have g1 : L2.atI (g.map D.int) (i : Int) = some (.int ((g[i]?).getD 0)) := L2.atI_nat (by rw [List.getElem?_map, List.getElem?_eq_getElem (by omega)]; rfl)
        have g2 : L2.atI (g.map D.int) ((i : Int) + 1) = some (.int ((g[i + 1]?).getD 0)) := by
          rw [show (i : Int) + 1 = ((i + 1 : Nat) : Int) from by omega]
          exact L2.atI_nat (by rw [List.getElem?_map, List.getElem?_eq_getElem (by omega)]; rfl)
        unfold intsD
        trivial
  · intro x hx
    trivial
theorem s_8 {n : Nat} {s : List Nat} {l : List (List Int)} {g : List Int} (z : SzG s l g) :
    (wrongG s l g = [] → ∀ L, callF (evFn fs75 (n + 5)) 8 [guardD s l g] L = .ok .non L) ∧ (wrongG s l g ≠ [] → ∀ L, callF (evFn fs75 (n + 5)) 8 [guardD s l g] L = .exc 1 (.str (wrongG s l g)) L) := by
  have e := @s_7 n s l g z
  constructor
  · intro h
    refine callF_of (L1 := []) (run_to P75_8 rfl rfl ?_) (by rw [purAll_cons, guardD_pure]; rfl) rfl
    unfold P75_8
    trivial
  · intro h
    refine callF_ofE (L1 := []) (run_to P75_8 rfl rfl ?_) (by rw [purAll_cons, guardD_pure]; rfl) rfl
    unfold P75_8
    trivial

end EV
end

section
namespace EV
open PySem
local macro_rules | `(tactic| trivial) => `(tactic| simp (config := {contextual := true, maxSteps := 1000000, implicitDefEqProofs := false}) (disch := first | with_reducible assumption | omega | (simp only [List.length_map, List.length_set, upto_len, List.length_cons, List.length_nil, List.length_append, big, Bool.not_eq_true, Bool.not_eq_true', Bool.not_eq_false', Bool.and_eq_true, decide_eq_true_eq, decide_eq_false_iff_not] at *; omega)) only [x_slot, x_cst, x_glob, x_fnv, x_bin, x_neg, x_not, x_cmp, x_chain, x_isN, x_notN, x_and, x_or, x_ife, x_tup, x_frz, x_mut, x_call, x_callk, x_callv, x_bi, x_split, x_join, x_index, x_append, x_ix, x_dget, x_sl, x_isi, x_dnew, x_xfld, x_tupr, x_nil, x_cons, x_onone, x_osome, x_tnone, x_tsome, x_knil, x_kcons, x_disp, x_lc, x_fsl, x_rev, x_cat, x_lis, x_val, x_rng, x_rng2, x_enum, x_zip, x_turn, x_comp, y_nil, y_cons, y_set, y_par, y_asg, y_setIx, y_setK, y_ex, y_ife, y_body, y_for, y_forW, y_turn, y_done, y_ret, y_retN, y_raise, y_pass, y_brk, y_cont, y_try, y_hs, kBin2, kBin1, kCmp2, kCmp1, kBool, kNot, kNeg, kCh3, kCh2, kCh1b, kCh1, kIsN, kNotN, kAnd, kOr, kIfe, kTup, kFrz, kMut, kCall, kCallk, kCallv, kBi, kMe2, kMe1, kAp3, kAp2, kAp1, kIx2, kIx1, kDg2, kDg1, kSl3, kSl2, kSl1, kIsi, kDnew, kTupr, kEs2, kEs1, kInt, kTst, kK4, kK3, kK2, kK1, kDisp, kLc, kFs4, kFs3, kFs2, kFs1, kRev2, kRev, kCat4, kCat3, kCat2, kCat1, kLis, kVal, kRng, kRng2b, kRng2, kEnum, kZip2, kZip1, kSome, kTn2, kTn1, jSeq, jSet, jPar, jAsg, jSx3, jSx2, jSx1, jSk3, jSk2, jSk1, jEx, jIf, jBody, jFor, jExc, bind_ok, bind_exc, bind_bad, then_ok, then_exc, then_bad, seq_next, seq_ret, seq_exc, seq_brk, seq_cont, seq_bad, optR_some, blR_some, slotR_some, condR_t, condR_f, condS_t, condS_f, condR_bl, condS_bl, join_and, join_or, bind_ite, then_ite, seq_ite, negR_int, notR_bl, boolR_bl, isNon_non, isNon_int, isNon_str, isNon_tup, isNon_lst, isNon_obj, sizR_0, sizR_1, sizR_2, sizR_3, sizR_4, sizR_5, sizR_6, sizR_7, sizR_8, sizR_ok, intR_int, tstR_bl, recvA_obj, recvL_lst, appR_obj, appL_ok, setKS_obj, setKO_str, setIxS_obj, valO_lst, valR_obj, recvS_str, xfR_ok, tuprR_int, lstR_some, valR_lst, valR_tup, valR_ktup, valR_str, rngR_int, rng2R_int, enumR_lst, zipR_lst, zipR_tup, callvR_ok, noX_ok, noX_ite, noX_f, bindT_name, bindT_tup, bindT_ktup, bindTs_nil, bindTs_cons, wipe_nil, wipe_cons, envS_some, envB_some, loop_next, loop_cont, loop_brk, loop_ret, loop_exc, loop_ite, tryS_exc, tryS_ret, tryS_next, endH_ret, retS_next, retS_ret, retS_exc, retS_ite, setAll, o_isi_int_non, o_isi_int_bl, o_isi_int_int, o_isi_int_str, o_isi_int_tup, o_isi_int_ktup, o_isi_int_lst, o_isi_str_non, o_isi_str_bl, o_isi_str_int, o_isi_str_str, o_isi_str_tup, o_isi_str_ktup, o_isi_str_lst, o_isi_bool_non, o_isi_bool_bl, o_isi_bool_int, o_isi_bool_str, o_isi_bool_tup, o_isi_bool_ktup, o_isi_bool_lst, o_isi_tuple_non, o_isi_tuple_bl, o_isi_tuple_int, o_isi_tuple_str, o_isi_tuple_tup, o_isi_tuple_ktup, o_isi_tuple_lst, o_isi_list_non, o_isi_list_bl, o_isi_list_int, o_isi_list_str, o_isi_list_tup, o_isi_list_ktup, o_isi_list_lst, o_add_ii, o_sub_ii, o_add_ss, o_add_tt, o_add_ll, o_mul_il, o_mul_ir, o_pow_ii, o_dget, dictG_str, dictG_int, keyOf_s, keyOf_i, getset, dnewR_3, o_mod_ii, o_fdiv_ii, o_eq_int, o_eq_str, o_eq_bl, o_ne_int, o_ne_str, o_ne_bl, o_lt_i, o_le_i, o_gt_i, o_ge_i, o_in_s, o_nin_s, o_eq_d, o_ne_d, o_len_s, o_len_t, o_len_kt, o_len_l, o_tup_l, o_tup_t, oTup_l, oLen_l, oIx_l, oLst_l, o_tup_o, o_len_o, o_all, o_any, o_str_i, o_int_i, o_sum, o_join, o_join_t, o_split, atI_0, atI_1, atI_2, atI_3, o_ix_t, o_ix_kt, o_ix_l, o_ix_o, o_ix_s, o_sl_s, o_sl_t, o_sl_l, o_lof_l, o_sof_l, o_sof_t, o_lof_o, List.getElem?_cons_zero, List.getElem?_cons_succ, List.set_cons_zero, List.set_cons_succ, Option.bind_some, List.length_cons, List.length_nil, if_true, if_false, Bool.not_true, Bool.not_false, Bool.and_true, Bool.true_and, Bool.and_false, Bool.false_and, Bool.or_true, Bool.true_or, Bool.or_false, Bool.false_or, Bool.not_not, ite_true, ite_false, reduceIte, Nat.reduceAdd, Int.reduceAdd, Int.reduceSub, Int.reduceMod, Int.reduceMul, Nat.reduceLT, reduceCtorEq, startD, List.map_cons, List.map_nil, List.replicate_succ, List.replicate_zero, List.cons_append, List.nil_append, Nat.reduceSub, decide_true, decide_false, true_and, and_true, eq_self, Int.reduceEq, Int.reduceNe, Int.reduceLT, Int.reduceLE, Nat.reduceEqDiff, Int.reduceToNat, Nat.reduceLeDiff, List.length_map, signs_mp, join_opt, ne_nil_s, ne_nil_i, ne_nil_n, isEmpty_filt, upto_z, compL_nil, Int.toNat_natCast, id_eq, List.length_set, cst0, cst1, cst2, cst3, cst4, cst5, cst6, ne_eq, not_true_eq_false, not_false_eq_true, *])
local macro_rules | `(tactic| bv_omega) => `(tactic| (first | rfl | (simp [-List.all_eq_true] at *; done) | (simp [-List.all_eq_true] at *; omega) | (simp [-List.all_eq_true] at *; grind)))
/-! ### texts -/
def numT (x : Int) : List Nat := TL.numL x.toNat
def rowT (r : List Int) : List Nat := TL.joinL [44] (r.map numT)
def tabT (l : List (List Int)) : List Nat := TL.joinL [59] (l.map rowT)
def outsT (o : List (List (List Nat))) : List Nat := TL.joinL [59] (o.map (TL.joinL [44]))
def machT (s : List Nat) (l r : List (List Int)) (o : List (List (List Nat))) : List Nat := TL.joinL [124] [s, tabT l, tabT r, outsT o]
def guardT (s : List Nat) (l : List (List Int)) (g : List Int) : List Nat := TL.joinL [124] [s, tabT l, rowT g]
theorem join_len (S : List Nat) : ∀ l : List (List Nat), (TL.joinL S l).length ≤ lens l + S.length * l.length
  | [] => by simp [TL.joinL, lens]
  | [a] => by simp [TL.joinL, lens]
  | a :: b :: r => by
    have := join_len S (b :: r)
    unfold TL.joinL
    simp only [lens, List.map_cons, List.sum_cons, List.length_append, List.length_cons] at *
    have e : S.length * (r.length + 1 + 1) = S.length * (r.length + 1) + S.length := Nat.mul_succ _ _
    omega
theorem lens_le {α : Type} {f : α → List Nat} {K : Nat} : ∀ {l : List α}, (∀ a ∈ l, (f a).length ≤ K) → lens (l.map f) ≤ l.length * K
  | [], _ => by simp [lens]
  | a :: l, h => by
    have h1 := h a List.mem_cons_self
    have h2 := lens_le fun x hx => h x (List.mem_cons_of_mem _ hx)
    simp only [lens, List.map_cons, List.sum_cons, List.length_cons] at *
    rw [Nat.succ_mul]
    omega
/-- small numbers -/
def smallR (r : List Int) : Prop := r.length ≤ 60 ∧ ∀ x ∈ r, 0 ≤ x ∧ x < 60
def smallL (l : List (List Int)) : Prop := l.length ≤ 60 ∧ ∀ r ∈ l, smallR r
theorem numT_len {x : Int} (h : x < 60) : (numT x).length ≤ 2 := TL.numL_len (by decide) (by omega)
theorem lens_row {r : List Int} (h : smallR r) : lens (r.map numT) ≤ 120 := Nat.le_trans (lens_le (K := 2) fun x hx => numT_len (h.2 x hx).2) (by have := h.1; omega)
theorem rowT_len {r : List Int} (h : smallR r) : (rowT r).length ≤ 180 := by
  have := join_len [44] (r.map numT)
  have := lens_row h
  have := h.1
  simp only [List.length_map, List.length_cons, List.length_nil] at *
  unfold rowT
  omega
theorem lens_tab {l : List (List Int)} (h : smallL l) : lens (l.map rowT) ≤ 10800 := Nat.le_trans (lens_le (K := 180) fun x hx => rowT_len (h.2 x hx)) (by have := h.1; omega)
theorem tabT_len {l : List (List Int)} (h : smallL l) : (tabT l).length ≤ 10860 := by
  have := join_len [59] (l.map rowT)
  have := lens_tab h
  have := h.1
  simp only [List.length_map, List.length_cons, List.length_nil] at *
  unfold tabT
  omega
theorem str_small {L : Store} {x : Int} (h : 0 ≤ x ∧ x < 60) : biV L .str [.int x] = some (.str (numT x)) := o_str_i ⟨h.1, by
  have : x.natAbs < 2 ^ 6 := by omega
  exact Nat.lt_trans (PySem.Flt.log2_lt_of (by decide) this) (by decide)⟩
theorem s_9 {n : Nat} {l : List (List Int)} (h : smallL l) : ∀ L, callF (evFn fs75 (n + 1)) 9 [rowsD l] L = .ok (.str (tabT l)) L := by
  refine callF_of (L1 := []) (run_to P75_9 rfl rfl ?_) (by rw [purAll_cons, rowsD_pure]; rfl) rfl
  have hl := h.1
  have hz : lens (l.map fun r => rowT r) + [59].length * l.length ≤ 16777216 := by
    have q : lens (l.map fun r => rowT r) ≤ 10800 := lens_tab h
    simp only [List.length_cons, List.length_nil]; omega
  unfold P75_9 rowsD
  trivial
  rw [comp_of (k := intsD) (g := fun r => .str (rowT r))]
  · trivial
    rfl
  · intro r hr
    have h2 := h.2 r hr
    have hr1 := h2.1
    have hz2 : lens (r.map fun x => numT x) + [44].length * r.length ≤ 16777216 := by
      have q : lens (r.map fun x => numT x) ≤ 120 := lens_row h2
      simp only [List.length_cons, List.length_nil]; omega
    unfold intsD
    trivial
    rw [comp_of (k := D.int) (g := fun x => .str (numT x))]
    · trivial
      rfl
    · intro x hx
      have sx := fun L => @str_small L x (h2.2 x hx)
      trivial
theorem s_28 {n : Nat} {l : List (List Int)} (h : smallL l) : ∀ L, callF (evFn fs75 (n + 1)) 28 [rowsD l] L = .ok (.str (tabT l)) L := by
  refine callF_of (L1 := []) (run_to P75_28 rfl rfl ?_) (by rw [purAll_cons, rowsD_pure]; rfl) rfl
  have hl := h.1
  have hz : lens (l.map fun r => rowT r) + [59].length * l.length ≤ 16777216 := by
    have q : lens (l.map fun r => rowT r) ≤ 10800 := lens_tab h
    simp only [List.length_cons, List.length_nil]; omega
  unfold P75_28 rowsD
  trivial
  rw [comp_of (k := intsD) (g := fun r => .str (rowT r))]
  · trivial
    rfl
  · intro r hr
    have h2 := h.2 r hr
    have hr1 := h2.1
    have hz2 : lens (r.map fun x => numT x) + [44].length * r.length ≤ 16777216 := by
      have q : lens (r.map fun x => numT x) ≤ 120 := lens_row h2
      simp only [List.length_cons, List.length_nil]; omega
    unfold intsD
    trivial
    rw [comp_of (k := D.int) (g := fun x => .str (numT x))]
    · trivial
      rfl
    · intro x hx
      have sx := fun L => @str_small L x (h2.2 x hx)
      trivial
/-- outs of bounded size -/
structure smallO (o : List (List (List Nat))) : Prop where
  a : o.length ≤ 60
  b : ∀ x ∈ o, x.length ≤ 8 ∧ ∀ t ∈ x, t.length ≤ 60
theorem lens_txt {x : List (List Nat)} (h : x.length ≤ 8 ∧ ∀ t ∈ x, t.length ≤ 60) : lens x ≤ 480 := by
  have := lens_le (f := id) (l := x) (K := 60) h.2
  rw [List.map_id] at this
  omega
theorem lineT_len {x : List (List Nat)} (h : x.length ≤ 8 ∧ ∀ t ∈ x, t.length ≤ 60) : (TL.joinL [44] x).length ≤ 500 := by
  have := join_len [44] x
  have := lens_txt h
  simp only [List.length_cons, List.length_nil] at *
  omega
theorem lens_outs {o : List (List (List Nat))} (h : smallO o) : lens (o.map (TL.joinL [44])) ≤ 30000 := Nat.le_trans (lens_le (K := 500) fun x hx => lineT_len (h.b x hx)) (by have := h.a; omega)
theorem outsT_len {o : List (List (List Nat))} (h : smallO o) : (outsT o).length ≤ 30060 := by
  have := join_len [59] (o.map (TL.joinL [44]))
  have := lens_outs h
  have := h.a
  simp only [List.length_map, List.length_cons, List.length_nil] at *
  unfold outsT
  omega
theorem szM_of {s : List Nat} {l r : List (List Int)} {o : List (List (List Nat))} (hs : s.length ≤ 8) (hl : smallL l) (hr : smallL r) (ho : smallO o) : SzM s l r o where
  zs := by omega
  zl := by have := hl.1; omega
  zr := by have := hr.1; omega
  zo := by have := ho.a; omega
  ll := fun x hx => by have := (hl.2 x hx).1; omega
  rr := fun x hx => by have := (hr.2 x hx).1; omega
  oo := fun x hx => by have := (ho.b x hx).1; omega
  oot := fun x hx t ht => by have := (ho.b x hx).2 t ht; omega
theorem o_join_l {L : Store} {s : List Nat} {l : List (List Nat)} (h : lens l + s.length * l.length ≤ 16777216) : meV L .join (.str s) [.lst (l.map .str)] = some (.str (TL.joinL s l)) := by
  have := @o_join L (List Nat) id l s (by rw [List.map_id]; exact h)
  rw [List.map_id] at this
  exact this
theorem o_join_tl {L : Store} {s : List Nat} {l : List (List Nat)} (h : lens l + s.length * l.length ≤ 16777216) : meV L .join (.str s) [.tup (l.map .str)] = some (.str (TL.joinL s l)) := by
  have := @o_join_t L (List Nat) id l s (by rw [List.map_id]; exact h)
  rw [List.map_id] at this
  exact this
local macro_rules | `(tactic| trivial) => `(tactic| simp (config := {contextual := true, maxSteps := 1000000, implicitDefEqProofs := false}) (disch := first | with_reducible assumption | omega | (simp only [List.length_map, List.length_set, upto_len, List.length_cons, List.length_nil, List.length_append, big, Bool.not_eq_true, Bool.not_eq_true', Bool.not_eq_false', Bool.and_eq_true, decide_eq_true_eq, decide_eq_false_iff_not] at *; omega)) only [x_slot, x_cst, x_glob, x_fnv, x_bin, x_neg, x_not, x_cmp, x_chain, x_isN, x_notN, x_and, x_or, x_ife, x_tup, x_frz, x_mut, x_call, x_callk, x_callv, x_bi, x_split, x_join, x_index, x_append, x_ix, x_dget, x_sl, x_isi, x_dnew, x_xfld, x_tupr, x_nil, x_cons, x_onone, x_osome, x_tnone, x_tsome, x_knil, x_kcons, x_disp, x_lc, x_fsl, x_rev, x_cat, x_lis, x_val, x_rng, x_rng2, x_enum, x_zip, x_turn, x_comp, y_nil, y_cons, y_set, y_par, y_asg, y_setIx, y_setK, y_ex, y_ife, y_body, y_for, y_forW, y_turn, y_done, y_ret, y_retN, y_raise, y_pass, y_brk, y_cont, y_try, y_hs, kBin2, kBin1, kCmp2, kCmp1, kBool, kNot, kNeg, kCh3, kCh2, kCh1b, kCh1, kIsN, kNotN, kAnd, kOr, kIfe, kTup, kFrz, kMut, kCall, kCallk, kCallv, kBi, kMe2, kMe1, kAp3, kAp2, kAp1, kIx2, kIx1, kDg2, kDg1, kSl3, kSl2, kSl1, kIsi, kDnew, kTupr, kEs2, kEs1, kInt, kTst, kK4, kK3, kK2, kK1, kDisp, kLc, kFs4, kFs3, kFs2, kFs1, kRev2, kRev, kCat4, kCat3, kCat2, kCat1, kLis, kVal, kRng, kRng2b, kRng2, kEnum, kZip2, kZip1, kSome, kTn2, kTn1, jSeq, jSet, jPar, jAsg, jSx3, jSx2, jSx1, jSk3, jSk2, jSk1, jEx, jIf, jBody, jFor, jExc, bind_ok, bind_exc, bind_bad, then_ok, then_exc, then_bad, seq_next, seq_ret, seq_exc, seq_brk, seq_cont, seq_bad, optR_some, blR_some, slotR_some, condR_t, condR_f, condS_t, condS_f, condR_bl, condS_bl, join_and, join_or, bind_ite, then_ite, seq_ite, negR_int, notR_bl, boolR_bl, isNon_non, isNon_int, isNon_str, isNon_tup, isNon_lst, isNon_obj, sizR_0, sizR_1, sizR_2, sizR_3, sizR_4, sizR_5, sizR_6, sizR_7, sizR_8, sizR_ok, intR_int, tstR_bl, recvA_obj, recvL_lst, appR_obj, appL_ok, setKS_obj, setKO_str, setIxS_obj, valO_lst, valR_obj, recvS_str, xfR_ok, tuprR_int, lstR_some, valR_lst, valR_tup, valR_ktup, valR_str, rngR_int, rng2R_int, enumR_lst, zipR_lst, zipR_tup, callvR_ok, noX_ok, noX_ite, noX_f, bindT_name, bindT_tup, bindT_ktup, bindTs_nil, bindTs_cons, wipe_nil, wipe_cons, envS_some, envB_some, loop_next, loop_cont, loop_brk, loop_ret, loop_exc, loop_ite, tryS_exc, tryS_ret, tryS_next, endH_ret, retS_next, retS_ret, retS_exc, retS_ite, setAll, o_isi_int_non, o_isi_int_bl, o_isi_int_int, o_isi_int_str, o_isi_int_tup, o_isi_int_ktup, o_isi_int_lst, o_isi_str_non, o_isi_str_bl, o_isi_str_int, o_isi_str_str, o_isi_str_tup, o_isi_str_ktup, o_isi_str_lst, o_isi_bool_non, o_isi_bool_bl, o_isi_bool_int, o_isi_bool_str, o_isi_bool_tup, o_isi_bool_ktup, o_isi_bool_lst, o_isi_tuple_non, o_isi_tuple_bl, o_isi_tuple_int, o_isi_tuple_str, o_isi_tuple_tup, o_isi_tuple_ktup, o_isi_tuple_lst, o_isi_list_non, o_isi_list_bl, o_isi_list_int, o_isi_list_str, o_isi_list_tup, o_isi_list_ktup, o_isi_list_lst, o_add_ii, o_sub_ii, o_add_ss, o_add_tt, o_add_ll, o_mul_il, o_mul_ir, o_pow_ii, o_dget, dictG_str, dictG_int, keyOf_s, keyOf_i, getset, dnewR_3, o_mod_ii, o_fdiv_ii, o_eq_int, o_eq_str, o_eq_bl, o_ne_int, o_ne_str, o_ne_bl, o_lt_i, o_le_i, o_gt_i, o_ge_i, o_in_s, o_nin_s, o_eq_d, o_ne_d, o_len_s, o_len_t, o_len_kt, o_len_l, o_tup_l, o_tup_t, oTup_l, oLen_l, oIx_l, oLst_l, o_tup_o, o_len_o, o_all, o_any, o_str_i, o_int_i, o_sum, o_join, o_join_t, o_split, atI_0, atI_1, atI_2, atI_3, o_ix_t, o_ix_kt, o_ix_l, o_ix_o, o_ix_s, o_sl_s, o_sl_t, o_sl_l, o_lof_l, o_sof_l, o_sof_t, o_lof_o, List.getElem?_cons_zero, List.getElem?_cons_succ, List.set_cons_zero, List.set_cons_succ, Option.bind_some, List.length_cons, List.length_nil, if_true, if_false, Bool.not_true, Bool.not_false, Bool.and_true, Bool.true_and, Bool.and_false, Bool.false_and, Bool.or_true, Bool.true_or, Bool.or_false, Bool.false_or, Bool.not_not, ite_true, ite_false, reduceIte, Nat.reduceAdd, Int.reduceAdd, Int.reduceSub, Int.reduceMod, Int.reduceMul, Nat.reduceLT, reduceCtorEq, startD, List.map_cons, List.map_nil, List.replicate_succ, List.replicate_zero, List.cons_append, List.nil_append, Nat.reduceSub, decide_true, decide_false, true_and, and_true, eq_self, Int.reduceEq, Int.reduceNe, Int.reduceLT, Int.reduceLE, Nat.reduceEqDiff, Int.reduceToNat, Nat.reduceLeDiff, List.length_map, signs_mp, join_opt, ne_nil_s, ne_nil_i, ne_nil_n, isEmpty_filt, upto_z, compL_nil, Int.toNat_natCast, id_eq, List.length_set, cst0, cst1, cst2, cst3, cst4, cst5, cst6, ne_eq, not_true_eq_false, not_false_eq_true, isi_rowsD, isi_outsD, isi_intsD, len_rowsD, len_outsD, len_intsD, val_outsD, val_rowsD, val_intsD, *])
theorem s_10 {n : Nat} {s : List Nat} {l r : List (List Int)} {o : List (List (List Nat))} (hs : s.length ≤ 8) (hl : smallL l) (hr : smallL r) (ho : smallO o) (hw : wrongM s l r o = []) : ∀ L, callF (evFn fs75 (n + 6)) 10 [machD s l r o] L = .ok (.str (machT s l r o)) L := by
  refine callF_of (L1 := []) (run_to P75_10 rfl rfl ?_) (by rw [purAll_cons, machD_pure]; rfl) rfl
  have e6 := (@s_6 n s l r o (szM_of hs hl hr ho)).1 hw
  have e9 := @s_9 (n + 4) l hl
  have e9' := @s_9 (n + 4) r hr
  have ha := ho.a
  have hz1 : lens (o.map (TL.joinL [44])) + [59].length * o.length ≤ 16777216 := by
    have := lens_outs ho
    simp only [List.length_cons, List.length_nil]; omega
  have hz2 : lens (o.map fun x => TL.joinL [44] x) + [59].length * o.length ≤ 16777216 := hz1
  have j1 := fun L => @o_join_l L [124] [s, tabT l, tabT r, outsT o] (by
    have := tabT_len hl
    have := tabT_len hr
    have := outsT_len ho
    simp only [lens, List.map_cons, List.map_nil, List.sum_cons, List.sum_nil, List.length_cons, List.length_nil]
    omega)
  simp only [List.map_cons, List.map_nil] at j1
  unfold P75_10 machT
  unfold machD at *
  trivial
  rw [comp_of (k := strsD) (g := fun x => .str (TL.joinL [44] x))]
  · trivial
    rw [show TL.joinL [59] (List.map (fun x => TL.joinL [44] x) o) = outsT o from rfl]
    trivial
  · intro x hx
    have hb := ho.b x hx
    have j2 := fun L => @o_join_tl L [44] x (by have := lens_txt hb; simp only [List.length_cons, List.length_nil]; omega)
    unfold strsD
    trivial
theorem s_11 {n : Nat} {s : List Nat} {l : List (List Int)} {g : List Int} (hs : s.length ≤ 8) (hl : smallL l) (hg : smallR g) (hw : wrongG s l g = []) : ∀ L, callF (evFn fs75 (n + 6)) 11 [guardD s l g] L = .ok (.str (guardT s l g)) L := by
  refine callF_of (L1 := []) (run_to P75_11 rfl rfl ?_) (by rw [purAll_cons, guardD_pure]; rfl) rfl
  have e6 := (@s_8 n s l g ⟨by omega, by have := hl.1; omega, by have := hg.1; omega, fun x hx => by have := (hl.2 x hx).1; omega⟩).1 hw
  have e9 := @s_9 (n + 4) l hl
  have ha := hg.1
  have hz2 : lens (g.map fun x => numT x) + [44].length * g.length ≤ 16777216 := by
    have q : lens (g.map fun x => numT x) ≤ 120 := lens_row hg
    simp only [List.length_cons, List.length_nil]; omega
  have j1 := fun L => @o_join_l L [124] [s, tabT l, rowT g] (by
    have := tabT_len hl
    have := rowT_len hg
    simp only [lens, List.map_cons, List.map_nil, List.sum_cons, List.sum_nil, List.length_cons, List.length_nil]
    omega)
  simp only [List.map_cons, List.map_nil] at j1
  unfold P75_11 guardT
  unfold guardD at *
  trivial
  rw [comp_of (k := D.int) (g := fun x => .str (numT x))]
  · trivial
    rw [show TL.joinL [44] (List.map (fun x => numT x) g) = rowT g from rfl]
    trivial
  · intro x hx
    have sx := fun L => @str_small L x (hg.2 x hx)
    trivial

end EV
end

section
namespace EV
open PySem
local macro_rules | `(tactic| trivial) => `(tactic| simp (config := {contextual := true, maxSteps := 1000000, implicitDefEqProofs := false}) (disch := first | with_reducible assumption | omega | (simp only [List.length_map, List.length_set, upto_len, List.length_cons, List.length_nil, List.length_append, big, Bool.not_eq_true, Bool.not_eq_true', Bool.not_eq_false', Bool.and_eq_true, decide_eq_true_eq, decide_eq_false_iff_not] at *; omega)) only [x_slot, x_cst, x_glob, x_fnv, x_bin, x_neg, x_not, x_cmp, x_chain, x_isN, x_notN, x_and, x_or, x_ife, x_tup, x_frz, x_mut, x_call, x_callk, x_callv, x_bi, x_split, x_join, x_index, x_append, x_ix, x_dget, x_sl, x_isi, x_dnew, x_xfld, x_tupr, x_nil, x_cons, x_onone, x_osome, x_tnone, x_tsome, x_knil, x_kcons, x_disp, x_lc, x_fsl, x_rev, x_cat, x_lis, x_val, x_rng, x_rng2, x_enum, x_zip, x_turn, x_comp, y_nil, y_cons, y_set, y_par, y_asg, y_setIx, y_setK, y_ex, y_ife, y_body, y_for, y_forW, y_turn, y_done, y_ret, y_retN, y_raise, y_pass, y_brk, y_cont, y_try, y_hs, kBin2, kBin1, kCmp2, kCmp1, kBool, kNot, kNeg, kCh3, kCh2, kCh1b, kCh1, kIsN, kNotN, kAnd, kOr, kIfe, kTup, kFrz, kMut, kCall, kCallk, kCallv, kBi, kMe2, kMe1, kAp3, kAp2, kAp1, kIx2, kIx1, kDg2, kDg1, kSl3, kSl2, kSl1, kIsi, kDnew, kTupr, kEs2, kEs1, kInt, kTst, kK4, kK3, kK2, kK1, kDisp, kLc, kFs4, kFs3, kFs2, kFs1, kRev2, kRev, kCat4, kCat3, kCat2, kCat1, kLis, kVal, kRng, kRng2b, kRng2, kEnum, kZip2, kZip1, kSome, kTn2, kTn1, jSeq, jSet, jPar, jAsg, jSx3, jSx2, jSx1, jSk3, jSk2, jSk1, jEx, jIf, jBody, jFor, jExc, bind_ok, bind_exc, bind_bad, then_ok, then_exc, then_bad, seq_next, seq_ret, seq_exc, seq_brk, seq_cont, seq_bad, optR_some, blR_some, slotR_some, condR_t, condR_f, condS_t, condS_f, condR_bl, condS_bl, join_and, join_or, bind_ite, then_ite, seq_ite, negR_int, notR_bl, boolR_bl, isNon_non, isNon_int, isNon_str, isNon_tup, isNon_lst, isNon_obj, sizR_0, sizR_1, sizR_2, sizR_3, sizR_4, sizR_5, sizR_6, sizR_7, sizR_8, sizR_ok, intR_int, tstR_bl, recvA_obj, recvL_lst, appR_obj, appL_ok, setKS_obj, setKO_str, setIxS_obj, valO_lst, valR_obj, recvS_str, xfR_ok, tuprR_int, lstR_some, valR_lst, valR_tup, valR_ktup, valR_str, rngR_int, rng2R_int, enumR_lst, zipR_lst, zipR_tup, callvR_ok, noX_ok, noX_ite, noX_f, bindT_name, bindT_tup, bindT_ktup, bindTs_nil, bindTs_cons, wipe_nil, wipe_cons, envS_some, envB_some, loop_next, loop_cont, loop_brk, loop_ret, loop_exc, loop_ite, tryS_exc, tryS_ret, tryS_next, endH_ret, retS_next, retS_ret, retS_exc, retS_ite, setAll, o_isi_int_non, o_isi_int_bl, o_isi_int_int, o_isi_int_str, o_isi_int_tup, o_isi_int_ktup, o_isi_int_lst, o_isi_str_non, o_isi_str_bl, o_isi_str_int, o_isi_str_str, o_isi_str_tup, o_isi_str_ktup, o_isi_str_lst, o_isi_bool_non, o_isi_bool_bl, o_isi_bool_int, o_isi_bool_str, o_isi_bool_tup, o_isi_bool_ktup, o_isi_bool_lst, o_isi_tuple_non, o_isi_tuple_bl, o_isi_tuple_int, o_isi_tuple_str, o_isi_tuple_tup, o_isi_tuple_ktup, o_isi_tuple_lst, o_isi_list_non, o_isi_list_bl, o_isi_list_int, o_isi_list_str, o_isi_list_tup, o_isi_list_ktup, o_isi_list_lst, o_add_ii, o_sub_ii, o_add_ss, o_add_tt, o_add_ll, o_mul_il, o_mul_ir, o_pow_ii, o_dget, dictG_str, dictG_int, keyOf_s, keyOf_i, getset, dnewR_3, o_mod_ii, o_fdiv_ii, o_eq_int, o_eq_str, o_eq_bl, o_ne_int, o_ne_str, o_ne_bl, o_lt_i, o_le_i, o_gt_i, o_ge_i, o_in_s, o_nin_s, o_eq_d, o_ne_d, o_len_s, o_len_t, o_len_kt, o_len_l, o_tup_l, o_tup_t, oTup_l, oLen_l, oIx_l, oLst_l, o_tup_o, o_len_o, o_all, o_any, o_str_i, o_int_i, o_sum, o_join, o_join_t, o_split, atI_0, atI_1, atI_2, atI_3, o_ix_t, o_ix_kt, o_ix_l, o_ix_o, o_ix_s, o_sl_s, o_sl_t, o_sl_l, o_lof_l, o_sof_l, o_sof_t, o_lof_o, List.getElem?_cons_zero, List.getElem?_cons_succ, List.set_cons_zero, List.set_cons_succ, Option.bind_some, List.length_cons, List.length_nil, if_true, if_false, Bool.not_true, Bool.not_false, Bool.and_true, Bool.true_and, Bool.and_false, Bool.false_and, Bool.or_true, Bool.true_or, Bool.or_false, Bool.false_or, Bool.not_not, ite_true, ite_false, reduceIte, Nat.reduceAdd, Int.reduceAdd, Int.reduceSub, Int.reduceMod, Int.reduceMul, Nat.reduceLT, reduceCtorEq, startD, List.map_cons, List.map_nil, List.replicate_succ, List.replicate_zero, List.cons_append, List.nil_append, Nat.reduceSub, decide_true, decide_false, true_and, and_true, eq_self, Int.reduceEq, Int.reduceNe, Int.reduceLT, Int.reduceLE, Nat.reduceEqDiff, Int.reduceToNat, Nat.reduceLeDiff, List.length_map, signs_mp, join_opt, ne_nil_s, ne_nil_i, ne_nil_n, isEmpty_filt, upto_z, compL_nil, Int.toNat_natCast, id_eq, List.length_set, cst0, cst1, cst2, cst3, cst4, cst5, cst6, ne_eq, not_true_eq_false, not_false_eq_true, *])
local macro_rules | `(tactic| bv_omega) => `(tactic| (first | rfl | (simp [-List.all_eq_true] at *; done) | (simp [-List.all_eq_true] at *; omega) | (simp [-List.all_eq_true] at *; grind)))
local macro_rules | `(tactic| trivial) => `(tactic| simp (config := {contextual := true, maxSteps := 1000000, implicitDefEqProofs := false}) (disch := first | with_reducible assumption | omega | (simp only [List.length_map, List.length_set, upto_len, List.length_cons, List.length_nil, List.length_append, big, Bool.not_eq_true, Bool.not_eq_true', Bool.not_eq_false', Bool.and_eq_true, decide_eq_true_eq, decide_eq_false_iff_not] at *; omega)) only [x_slot, x_cst, x_glob, x_fnv, x_bin, x_neg, x_not, x_cmp, x_chain, x_isN, x_notN, x_and, x_or, x_ife, x_tup, x_frz, x_mut, x_call, x_callk, x_callv, x_bi, x_split, x_join, x_index, x_append, x_ix, x_dget, x_sl, x_isi, x_dnew, x_xfld, x_tupr, x_nil, x_cons, x_onone, x_osome, x_tnone, x_tsome, x_knil, x_kcons, x_disp, x_lc, x_fsl, x_rev, x_cat, x_lis, x_val, x_rng, x_rng2, x_enum, x_zip, x_turn, x_comp, y_nil, y_cons, y_set, y_par, y_asg, y_setIx, y_setK, y_ex, y_ife, y_body, y_for, y_forW, y_turn, y_done, y_ret, y_retN, y_raise, y_pass, y_brk, y_cont, y_try, y_hs, kBin2, kBin1, kCmp2, kCmp1, kBool, kNot, kNeg, kCh3, kCh2, kCh1b, kCh1, kIsN, kNotN, kAnd, kOr, kIfe, kTup, kFrz, kMut, kCall, kCallk, kCallv, kBi, kMe2, kMe1, kAp3, kAp2, kAp1, kIx2, kIx1, kDg2, kDg1, kSl3, kSl2, kSl1, kIsi, kDnew, kTupr, kEs2, kEs1, kInt, kTst, kK4, kK3, kK2, kK1, kDisp, kLc, kFs4, kFs3, kFs2, kFs1, kRev2, kRev, kCat4, kCat3, kCat2, kCat1, kLis, kVal, kRng, kRng2b, kRng2, kEnum, kZip2, kZip1, kSome, kTn2, kTn1, jSeq, jSet, jPar, jAsg, jSx3, jSx2, jSx1, jSk3, jSk2, jSk1, jEx, jIf, jBody, jFor, jExc, bind_ok, bind_exc, bind_bad, then_ok, then_exc, then_bad, seq_next, seq_ret, seq_exc, seq_brk, seq_cont, seq_bad, optR_some, blR_some, slotR_some, condR_t, condR_f, condS_t, condS_f, condR_bl, condS_bl, join_and, join_or, bind_ite, then_ite, seq_ite, negR_int, notR_bl, boolR_bl, isNon_non, isNon_int, isNon_str, isNon_tup, isNon_lst, isNon_obj, sizR_0, sizR_1, sizR_2, sizR_3, sizR_4, sizR_5, sizR_6, sizR_7, sizR_8, sizR_ok, intR_int, tstR_bl, recvA_obj, recvL_lst, appR_obj, appL_ok, setKS_obj, setKO_str, setIxS_obj, valO_lst, valR_obj, recvS_str, xfR_ok, tuprR_int, lstR_some, valR_lst, valR_tup, valR_ktup, valR_str, rngR_int, rng2R_int, enumR_lst, zipR_lst, zipR_tup, callvR_ok, noX_ok, noX_ite, noX_f, bindT_name, bindT_tup, bindT_ktup, bindTs_nil, bindTs_cons, wipe_nil, wipe_cons, envS_some, envB_some, loop_next, loop_cont, loop_brk, loop_ret, loop_exc, loop_ite, tryS_exc, tryS_ret, tryS_next, endH_ret, retS_next, retS_ret, retS_exc, retS_ite, setAll, o_isi_int_non, o_isi_int_bl, o_isi_int_int, o_isi_int_str, o_isi_int_tup, o_isi_int_ktup, o_isi_int_lst, o_isi_str_non, o_isi_str_bl, o_isi_str_int, o_isi_str_str, o_isi_str_tup, o_isi_str_ktup, o_isi_str_lst, o_isi_bool_non, o_isi_bool_bl, o_isi_bool_int, o_isi_bool_str, o_isi_bool_tup, o_isi_bool_ktup, o_isi_bool_lst, o_isi_tuple_non, o_isi_tuple_bl, o_isi_tuple_int, o_isi_tuple_str, o_isi_tuple_tup, o_isi_tuple_ktup, o_isi_tuple_lst, o_isi_list_non, o_isi_list_bl, o_isi_list_int, o_isi_list_str, o_isi_list_tup, o_isi_list_ktup, o_isi_list_lst, o_add_ii, o_sub_ii, o_add_ss, o_add_tt, o_add_ll, o_mul_il, o_mul_ir, o_pow_ii, o_dget, dictG_str, dictG_int, keyOf_s, keyOf_i, getset, dnewR_3, o_mod_ii, o_fdiv_ii, o_eq_int, o_eq_str, o_eq_bl, o_ne_int, o_ne_str, o_ne_bl, o_lt_i, o_le_i, o_gt_i, o_ge_i, o_in_s, o_nin_s, o_eq_d, o_ne_d, o_len_s, o_len_t, o_len_kt, o_len_l, o_tup_l, o_tup_t, oTup_l, oLen_l, oIx_l, oLst_l, o_tup_o, o_len_o, o_all, o_any, o_str_i, o_int_i, o_sum, o_join, o_join_t, o_split, atI_0, atI_1, atI_2, atI_3, o_ix_t, o_ix_kt, o_ix_l, o_ix_o, o_ix_s, o_sl_s, o_sl_t, o_sl_l, o_lof_l, o_sof_l, o_sof_t, o_lof_o, List.getElem?_cons_zero, List.getElem?_cons_succ, List.set_cons_zero, List.set_cons_succ, Option.bind_some, List.length_cons, List.length_nil, if_true, if_false, Bool.not_true, Bool.not_false, Bool.and_true, Bool.true_and, Bool.and_false, Bool.false_and, Bool.or_true, Bool.true_or, Bool.or_false, Bool.false_or, Bool.not_not, ite_true, ite_false, reduceIte, Nat.reduceAdd, Int.reduceAdd, Int.reduceSub, Int.reduceMod, Int.reduceMul, Nat.reduceLT, reduceCtorEq, startD, List.map_cons, List.map_nil, List.replicate_succ, List.replicate_zero, List.cons_append, List.nil_append, Nat.reduceSub, decide_true, decide_false, true_and, and_true, eq_self, Int.reduceEq, Int.reduceNe, Int.reduceLT, Int.reduceLE, Nat.reduceEqDiff, Int.reduceToNat, Nat.reduceLeDiff, List.length_map, signs_mp, join_opt, ne_nil_s, ne_nil_i, ne_nil_n, isEmpty_filt, upto_z, compL_nil, Int.toNat_natCast, id_eq, List.length_set, cst0, cst1, cst2, cst3, cst4, cst5, cst6, ne_eq, not_true_eq_false, not_false_eq_true, isi_rowsD, isi_outsD, isi_intsD, len_rowsD, len_outsD, len_intsD, val_outsD, val_rowsD, val_intsD, *])
theorem s_16 {n : Nat} {ps : List (List Nat)} {a : Nat} {nm : List D} {w : List Nat} (hp : purAll nm = true) (hw : nm[a]? = some (.str w)) :
    ((ps.length ≤ a ∨ (a + 1 = nm.length ∧ nm.length < ps.length)) → ∀ L, callF (evFn fs75 (n + 1)) 16 [.lst (ps.map .str), .int a, .ktup nm] L = .exc 2 (.str w) L) ∧
    (¬ (ps.length ≤ a ∨ (a + 1 = nm.length ∧ nm.length < ps.length)) → ∀ L, callF (evFn fs75 (n + 1)) 16 [.lst (ps.map .str), .int a, .ktup nm] L = .ok .non L) := by
  have pp : purAll [.lst (ps.map .str), .int a, .ktup nm] = true := by
    have := pur_of D.str (fun _ => rfl) ps
    simp [purAll, D.pure, this, hp]
  have hi : L2.atI nm (a : Int) = some (.str w) := L2.atI_nat hw
  constructor
  · intro h
    refine callF_ofE (L1 := []) (run_to P75_16 rfl rfl ?_) pp rfl
    unfold P75_16
    trivial
    rw [if_pos]
    simp only [Bool.or_eq_true, Bool.and_eq_true, decide_eq_true_eq]
    omega
  · intro h
    refine callF_of (L1 := []) (run_to P75_16 rfl rfl ?_) pp rfl
    unfold P75_16
    trivial
    rw [if_neg]
    simp only [Bool.or_eq_true, Bool.and_eq_true, decide_eq_true_eq]
    omega
/-! ### caught -/
def cTold : List Nat := [116, 111, 108, 100]
def cText : List Nat := [116, 101, 120, 116]
def cMach : List Nat := [109, 97, 99, 104, 105, 110, 101]
def cGuard : List Nat := [103, 117, 97, 114, 100]
def twoD (w : List Nat) (d : D) : D := .tup [.str w, d]
theorem twoD_pure {w : List Nat} {d : D} (h : d.pure = true) : (twoD w d).pure = true := by simp [twoD, D.pure, purAll, h]
theorem s_27 {n f : Nat} {x d : D} (hf : f < 37) (hx : x.pure = true) (hd : d.pure = true) (h : ∀ L, callF (evFn fs75 n) f [x] L = .ok d L) : ∀ L, callF (evFn fs75 (n + 1)) 27 [.fn f, x] L = .ok (twoD cTold d) L := by
  refine callF_of (L1 := []) (run_to P75_27 rfl rfl ?_) (by simp [purAll, D.pure, hx]) (twoD_pure hd)
  unfold P75_27 twoD cTold
  trivial
theorem s_27t {n f : Nat} {x d : D} (hf : f < 37) (hx : x.pure = true) (hd : d.pure = true) (h : ∀ L, callF (evFn fs75 n) f [x] L = .exc 2 d L) : ∀ L, callF (evFn fs75 (n + 1)) 27 [.fn f, x] L = .ok (twoD cText d) L := by
  refine callF_of (L1 := []) (run_to P75_27 rfl rfl ?_) (by simp [purAll, D.pure, hx]) (twoD_pure hd)
  have q1 : (D.tup [D.str [116, 101, 120, 116], d]).pure = true := twoD_pure hd
  have q2 : storeP [] = true := rfl
  unfold P75_27 twoD cText
  trivial
theorem s_27m {n f : Nat} {x d : D} (hf : f < 37) (hx : x.pure = true) (hd : d.pure = true) (h : ∀ L, callF (evFn fs75 n) f [x] L = .exc 0 d L) : ∀ L, callF (evFn fs75 (n + 1)) 27 [.fn f, x] L = .ok (twoD cMach d) L := by
  refine callF_of (L1 := []) (run_to P75_27 rfl rfl ?_) (by simp [purAll, D.pure, hx]) (twoD_pure hd)
  have q1 : (D.tup [D.str [109, 97, 99, 104, 105, 110, 101], d]).pure = true := twoD_pure hd
  have q2 : storeP [] = true := rfl
  unfold P75_27 twoD cMach
  trivial
theorem s_27g {n f : Nat} {x d : D} (hf : f < 37) (hx : x.pure = true) (hd : d.pure = true) (h : ∀ L, callF (evFn fs75 n) f [x] L = .exc 1 d L) : ∀ L, callF (evFn fs75 (n + 1)) 27 [.fn f, x] L = .ok (twoD cGuard d) L := by
  refine callF_of (L1 := []) (run_to P75_27 rfl rfl ?_) (by simp [purAll, D.pure, hx]) (twoD_pure hd)
  have q1 : (D.tup [D.str [103, 117, 97, 114, 100], d]).pure = true := twoD_pure hd
  have q2 : storeP [] = true := rfl
  unfold P75_27 twoD cGuard
  trivial

end EV
end

section
namespace EV
open PySem
local macro_rules | `(tactic| trivial) => `(tactic| simp (config := {contextual := true, maxSteps := 1000000, implicitDefEqProofs := false}) (disch := first | with_reducible assumption | omega | (simp only [List.length_map, List.length_set, upto_len, List.length_cons, List.length_nil, List.length_append, big, Bool.not_eq_true, Bool.not_eq_true', Bool.not_eq_false', Bool.and_eq_true, decide_eq_true_eq, decide_eq_false_iff_not] at *; omega)) only [x_slot, x_cst, x_glob, x_fnv, x_bin, x_neg, x_not, x_cmp, x_chain, x_isN, x_notN, x_and, x_or, x_ife, x_tup, x_frz, x_mut, x_call, x_callk, x_callv, x_bi, x_split, x_join, x_index, x_append, x_ix, x_dget, x_sl, x_isi, x_dnew, x_xfld, x_tupr, x_nil, x_cons, x_onone, x_osome, x_tnone, x_tsome, x_knil, x_kcons, x_disp, x_lc, x_fsl, x_rev, x_cat, x_lis, x_val, x_rng, x_rng2, x_enum, x_zip, x_turn, x_comp, y_nil, y_cons, y_set, y_par, y_asg, y_setIx, y_setK, y_ex, y_ife, y_body, y_for, y_forW, y_turn, y_done, y_ret, y_retN, y_raise, y_pass, y_brk, y_cont, y_try, y_hs, kBin2, kBin1, kCmp2, kCmp1, kBool, kNot, kNeg, kCh3, kCh2, kCh1b, kCh1, kIsN, kNotN, kAnd, kOr, kIfe, kTup, kFrz, kMut, kCall, kCallk, kCallv, kBi, kMe2, kMe1, kAp3, kAp2, kAp1, kIx2, kIx1, kDg2, kDg1, kSl3, kSl2, kSl1, kIsi, kDnew, kTupr, kEs2, kEs1, kInt, kTst, kK4, kK3, kK2, kK1, kDisp, kLc, kFs4, kFs3, kFs2, kFs1, kRev2, kRev, kCat4, kCat3, kCat2, kCat1, kLis, kVal, kRng, kRng2b, kRng2, kEnum, kZip2, kZip1, kSome, kTn2, kTn1, jSeq, jSet, jPar, jAsg, jSx3, jSx2, jSx1, jSk3, jSk2, jSk1, jEx, jIf, jBody, jFor, jExc, bind_ok, bind_exc, bind_bad, then_ok, then_exc, then_bad, seq_next, seq_ret, seq_exc, seq_brk, seq_cont, seq_bad, optR_some, blR_some, slotR_some, condR_t, condR_f, condS_t, condS_f, condR_bl, condS_bl, join_and, join_or, bind_ite, then_ite, seq_ite, negR_int, notR_bl, boolR_bl, isNon_non, isNon_int, isNon_str, isNon_tup, isNon_lst, isNon_obj, sizR_0, sizR_1, sizR_2, sizR_3, sizR_4, sizR_5, sizR_6, sizR_7, sizR_8, sizR_ok, intR_int, tstR_bl, recvA_obj, recvL_lst, appR_obj, appL_ok, setKS_obj, setKO_str, setIxS_obj, valO_lst, valR_obj, recvS_str, xfR_ok, tuprR_int, lstR_some, valR_lst, valR_tup, valR_ktup, valR_str, rngR_int, rng2R_int, enumR_lst, zipR_lst, zipR_tup, callvR_ok, noX_ok, noX_ite, noX_f, bindT_name, bindT_tup, bindT_ktup, bindTs_nil, bindTs_cons, wipe_nil, wipe_cons, envS_some, envB_some, loop_next, loop_cont, loop_brk, loop_ret, loop_exc, loop_ite, tryS_exc, tryS_ret, tryS_next, endH_ret, retS_next, retS_ret, retS_exc, retS_ite, setAll, o_isi_int_non, o_isi_int_bl, o_isi_int_int, o_isi_int_str, o_isi_int_tup, o_isi_int_ktup, o_isi_int_lst, o_isi_str_non, o_isi_str_bl, o_isi_str_int, o_isi_str_str, o_isi_str_tup, o_isi_str_ktup, o_isi_str_lst, o_isi_bool_non, o_isi_bool_bl, o_isi_bool_int, o_isi_bool_str, o_isi_bool_tup, o_isi_bool_ktup, o_isi_bool_lst, o_isi_tuple_non, o_isi_tuple_bl, o_isi_tuple_int, o_isi_tuple_str, o_isi_tuple_tup, o_isi_tuple_ktup, o_isi_tuple_lst, o_isi_list_non, o_isi_list_bl, o_isi_list_int, o_isi_list_str, o_isi_list_tup, o_isi_list_ktup, o_isi_list_lst, o_add_ii, o_sub_ii, o_add_ss, o_add_tt, o_add_ll, o_mul_il, o_mul_ir, o_pow_ii, o_dget, dictG_str, dictG_int, keyOf_s, keyOf_i, getset, dnewR_3, o_mod_ii, o_fdiv_ii, o_eq_int, o_eq_str, o_eq_bl, o_ne_int, o_ne_str, o_ne_bl, o_lt_i, o_le_i, o_gt_i, o_ge_i, o_in_s, o_nin_s, o_eq_d, o_ne_d, o_len_s, o_len_t, o_len_kt, o_len_l, o_tup_l, o_tup_t, oTup_l, oLen_l, oIx_l, oLst_l, o_tup_o, o_len_o, o_all, o_any, o_str_i, o_int_i, o_sum, o_join, o_join_t, o_split, atI_0, atI_1, atI_2, atI_3, o_ix_t, o_ix_kt, o_ix_l, o_ix_o, o_ix_s, o_sl_s, o_sl_t, o_sl_l, o_lof_l, o_sof_l, o_sof_t, o_lof_o, List.getElem?_cons_zero, List.getElem?_cons_succ, List.set_cons_zero, List.set_cons_succ, Option.bind_some, List.length_cons, List.length_nil, if_true, if_false, Bool.not_true, Bool.not_false, Bool.and_true, Bool.true_and, Bool.and_false, Bool.false_and, Bool.or_true, Bool.true_or, Bool.or_false, Bool.false_or, Bool.not_not, ite_true, ite_false, reduceIte, Nat.reduceAdd, Int.reduceAdd, Int.reduceSub, Int.reduceMod, Int.reduceMul, Nat.reduceLT, reduceCtorEq, startD, List.map_cons, List.map_nil, List.replicate_succ, List.replicate_zero, List.cons_append, List.nil_append, Nat.reduceSub, decide_true, decide_false, true_and, and_true, eq_self, Int.reduceEq, Int.reduceNe, Int.reduceLT, Int.reduceLE, Nat.reduceEqDiff, Int.reduceToNat, Nat.reduceLeDiff, List.length_map, signs_mp, join_opt, ne_nil_s, ne_nil_i, ne_nil_n, isEmpty_filt, upto_z, compL_nil, Int.toNat_natCast, id_eq, List.length_set, cst0, cst1, cst2, cst3, cst4, cst5, cst6, ne_eq, not_true_eq_false, not_false_eq_true, *])
local macro_rules | `(tactic| bv_omega) => `(tactic| (first | rfl | (simp [-List.all_eq_true] at *; done) | (simp [-List.all_eq_true] at *; omega) | (simp [-List.all_eq_true] at *; grind)))
local macro_rules | `(tactic| trivial) => `(tactic| simp (config := {contextual := true, maxSteps := 1000000, implicitDefEqProofs := false}) (disch := first | with_reducible assumption | omega | (simp only [List.length_map, List.length_set, upto_len, List.length_cons, List.length_nil, List.length_append, big, Bool.not_eq_true, Bool.not_eq_true', Bool.not_eq_false', Bool.and_eq_true, decide_eq_true_eq, decide_eq_false_iff_not] at *; omega)) only [x_slot, x_cst, x_glob, x_fnv, x_bin, x_neg, x_not, x_cmp, x_chain, x_isN, x_notN, x_and, x_or, x_ife, x_tup, x_frz, x_mut, x_call, x_callk, x_callv, x_bi, x_split, x_join, x_index, x_append, x_ix, x_dget, x_sl, x_isi, x_dnew, x_xfld, x_tupr, x_nil, x_cons, x_onone, x_osome, x_tnone, x_tsome, x_knil, x_kcons, x_disp, x_lc, x_fsl, x_rev, x_cat, x_lis, x_val, x_rng, x_rng2, x_enum, x_zip, x_turn, x_comp, y_nil, y_cons, y_set, y_par, y_asg, y_setIx, y_setK, y_ex, y_ife, y_body, y_for, y_forW, y_turn, y_done, y_ret, y_retN, y_raise, y_pass, y_brk, y_cont, y_try, y_hs, kBin2, kBin1, kCmp2, kCmp1, kBool, kNot, kNeg, kCh3, kCh2, kCh1b, kCh1, kIsN, kNotN, kAnd, kOr, kIfe, kTup, kFrz, kMut, kCall, kCallk, kCallv, kBi, kMe2, kMe1, kAp3, kAp2, kAp1, kIx2, kIx1, kDg2, kDg1, kSl3, kSl2, kSl1, kIsi, kDnew, kTupr, kEs2, kEs1, kInt, kTst, kK4, kK3, kK2, kK1, kDisp, kLc, kFs4, kFs3, kFs2, kFs1, kRev2, kRev, kCat4, kCat3, kCat2, kCat1, kLis, kVal, kRng, kRng2b, kRng2, kEnum, kZip2, kZip1, kSome, kTn2, kTn1, jSeq, jSet, jPar, jAsg, jSx3, jSx2, jSx1, jSk3, jSk2, jSk1, jEx, jIf, jBody, jFor, jExc, bind_ok, bind_exc, bind_bad, then_ok, then_exc, then_bad, seq_next, seq_ret, seq_exc, seq_brk, seq_cont, seq_bad, optR_some, blR_some, slotR_some, condR_t, condR_f, condS_t, condS_f, condR_bl, condS_bl, join_and, join_or, bind_ite, then_ite, seq_ite, negR_int, notR_bl, boolR_bl, isNon_non, isNon_int, isNon_str, isNon_tup, isNon_lst, isNon_obj, sizR_0, sizR_1, sizR_2, sizR_3, sizR_4, sizR_5, sizR_6, sizR_7, sizR_8, sizR_ok, intR_int, tstR_bl, recvA_obj, recvL_lst, appR_obj, appL_ok, setKS_obj, setKO_str, setIxS_obj, valO_lst, valR_obj, recvS_str, xfR_ok, tuprR_int, lstR_some, valR_lst, valR_tup, valR_ktup, valR_str, rngR_int, rng2R_int, enumR_lst, zipR_lst, zipR_tup, callvR_ok, noX_ok, noX_ite, noX_f, bindT_name, bindT_tup, bindT_ktup, bindTs_nil, bindTs_cons, wipe_nil, wipe_cons, envS_some, envB_some, loop_next, loop_cont, loop_brk, loop_ret, loop_exc, loop_ite, tryS_exc, tryS_ret, tryS_next, endH_ret, retS_next, retS_ret, retS_exc, retS_ite, setAll, o_isi_int_non, o_isi_int_bl, o_isi_int_int, o_isi_int_str, o_isi_int_tup, o_isi_int_ktup, o_isi_int_lst, o_isi_str_non, o_isi_str_bl, o_isi_str_int, o_isi_str_str, o_isi_str_tup, o_isi_str_ktup, o_isi_str_lst, o_isi_bool_non, o_isi_bool_bl, o_isi_bool_int, o_isi_bool_str, o_isi_bool_tup, o_isi_bool_ktup, o_isi_bool_lst, o_isi_tuple_non, o_isi_tuple_bl, o_isi_tuple_int, o_isi_tuple_str, o_isi_tuple_tup, o_isi_tuple_ktup, o_isi_tuple_lst, o_isi_list_non, o_isi_list_bl, o_isi_list_int, o_isi_list_str, o_isi_list_tup, o_isi_list_ktup, o_isi_list_lst, o_add_ii, o_sub_ii, o_add_ss, o_add_tt, o_add_ll, o_mul_il, o_mul_ir, o_pow_ii, o_dget, dictG_str, dictG_int, keyOf_s, keyOf_i, getset, dnewR_3, o_mod_ii, o_fdiv_ii, o_eq_int, o_eq_str, o_eq_bl, o_ne_int, o_ne_str, o_ne_bl, o_lt_i, o_le_i, o_gt_i, o_ge_i, o_in_s, o_nin_s, o_eq_d, o_ne_d, o_len_s, o_len_t, o_len_kt, o_len_l, o_tup_l, o_tup_t, oTup_l, oLen_l, oIx_l, oLst_l, o_tup_o, o_len_o, o_all, o_any, o_str_i, o_int_i, o_sum, o_join, o_join_t, o_split, atI_0, atI_1, atI_2, atI_3, o_ix_t, o_ix_kt, o_ix_l, o_ix_o, o_ix_s, o_sl_s, o_sl_t, o_sl_l, o_lof_l, o_sof_l, o_sof_t, o_lof_o, List.getElem?_cons_zero, List.getElem?_cons_succ, List.set_cons_zero, List.set_cons_succ, Option.bind_some, List.length_cons, List.length_nil, if_true, if_false, Bool.not_true, Bool.not_false, Bool.and_true, Bool.true_and, Bool.and_false, Bool.false_and, Bool.or_true, Bool.true_or, Bool.or_false, Bool.false_or, Bool.not_not, ite_true, ite_false, reduceIte, Nat.reduceAdd, Int.reduceAdd, Int.reduceSub, Int.reduceMod, Int.reduceMul, Nat.reduceLT, reduceCtorEq, startD, List.map_cons, List.map_nil, List.replicate_succ, List.replicate_zero, List.cons_append, List.nil_append, Nat.reduceSub, decide_true, decide_false, true_and, and_true, eq_self, Int.reduceEq, Int.reduceNe, Int.reduceLT, Int.reduceLE, Nat.reduceEqDiff, Int.reduceToNat, Nat.reduceLeDiff, List.length_map, signs_mp, join_opt, ne_nil_s, ne_nil_i, ne_nil_n, isEmpty_filt, upto_z, compL_nil, Int.toNat_natCast, id_eq, List.length_set, cst0, cst1, cst2, cst3, cst4, cst5, cst6, ne_eq, not_true_eq_false, not_false_eq_true, isi_rowsD, isi_outsD, isi_intsD, len_rowsD, len_outsD, len_intsD, val_outsD, val_rowsD, val_intsD, *])
/-- what a call of pure data ends with -/
inductive Res where
  | ok (d : D)
  | ex (c : Nat) (d : D)
def Res.R : Res → Store → EV.R D
  | .ok d, L => .ok d L
  | .ex c d, L => .exc c d L
def outsV (p : List Nat) : List (List (List Nat)) := (cutAt 59 p).map (cutAt 44)
def machR (s : List Nat) (l r : List (List Int)) (o : List (List (List Nat))) : Res := if wrongM s l r o = [] then .ok (machD s l r o) else .ex 0 (.str (wrongM s l r o))
def resM (t : List Nat) : Res := match cutAt 124 t with
  | p0 :: p1 :: p2 :: rest => if tabOK p1 = false then .ex 2 (.str wLefts) else if tabOK p2 = false then .ex 2 (.str wRights) else match rest with
    | [p3] => machR p0 (tabV p1) (tabV p2) (outsV p3)
    | _ => .ex 2 (.str wOuts)
  | [_, p1] => if tabOK p1 = false then .ex 2 (.str wLefts) else .ex 2 (.str wRights)
  | _ => .ex 2 (.str wLefts)
theorem numsV_len (t : List Nat) : (numsV t).length ≤ t.length + 1 := by unfold numsV; rw [List.length_map]; exact cutAt_num 44 t
theorem tabV_len (t : List Nat) : (tabV t).length ≤ t.length + 1 := by unfold tabV; rw [List.length_map]; exact cutAt_num 59 t
theorem tabV_row {t : List Nat} : ∀ x ∈ tabV t, x.length ≤ t.length + 1 := fun x hx => by
  obtain ⟨w, hw, rfl⟩ := List.mem_map.mp hx
  have := numsV_len w
  have := cutAt_len hw
  omega
theorem outsV_len (t : List Nat) : (outsV t).length ≤ t.length + 1 := by unfold outsV; rw [List.length_map]; exact cutAt_num 59 t
theorem outsV_row {t : List Nat} : ∀ x ∈ outsV t, x.length ≤ t.length + 1 := fun x hx => by
  obtain ⟨w, hw, rfl⟩ := List.mem_map.mp hx
  have := cutAt_num 44 w
  have := cutAt_len hw
  omega
theorem outsV_txt {t : List Nat} : ∀ x ∈ outsV t, ∀ y ∈ x, y.length ≤ t.length := fun x hx y hy => by
  obtain ⟨w, hw, rfl⟩ := List.mem_map.mp hx
  have := cutAt_len hw
  have := cutAt_len hy
  omega
theorem szM_V {p0 p1 p2 p3 : List Nat} (h0 : p0.length + 2 ≤ 16777216) (h1 : p1.length + 2 ≤ 16777216) (h2 : p2.length + 2 ≤ 16777216) (h3 : p3.length + 2 ≤ 16777216) : SzM p0 (tabV p1) (tabV p2) (outsV p3) where
  zs := by omega
  zl := by have := tabV_len p1; omega
  zr := by have := tabV_len p2; omega
  zo := by have := outsV_len p3; omega
  ll := fun x hx => by have := tabV_row x hx; omega
  rr := fun x hx => by have := tabV_row x hx; omega
  oo := fun x hx => by have := outsV_row x hx; omega
  oot := fun x hx t ht => by have := outsV_txt x hx t ht; omega
abbrev mParts : List D := [.str wSigns, .str wLefts, .str wRights, .str wOuts]
theorem s_17 {n : Nat} {t : List Nat} (ht : t.length + 2 ≤ 16777216) : ∀ L, callF (evFn fs75 (n + 6)) 17 [.str t] L = (resM t).R L := by
  have e15 := fun L => okC_use (L := L) (@c_15 (n + 4) t ht)
  have hp : ∀ p ∈ cutAt 124 t, p.length + 2 ≤ 16777216 := fun p hp => by have := cutAt_len hp; omega
  have f1 := fun ps w (h : mParts[1]? = some (.str w)) => @s_16 (n + 4) ps 1 mParts w rfl h
  have f2 := fun ps w (h : mParts[2]? = some (.str w)) => @s_16 (n + 4) ps 2 mParts w rfl h
  have f3 := fun ps w (h : mParts[3]? = some (.str w)) => @s_16 (n + 4) ps 3 mParts w rfl h
  unfold resM
  generalize cutAt 124 t = ps at *
  by_cases h1 : ps.length ≤ 1
  · have g1 := (f1 ps _ rfl).1 (.inl h1)
    have : ∀ L, callF (evFn fs75 (n + 6)) 17 [.str t] L = .exc 2 (.str wLefts) L := by
      refine callF_ofE (L1 := []) (run_to P75_17 rfl rfl ?_) rfl rfl
      unfold P75_17
      simp only [wSigns, wLefts, wRights, wOuts, mParts, cst1] at g1 ⊢
      trivial
    rcases ps with _ | ⟨p0, _ | ⟨p1, ps⟩⟩
    · exact this
    · exact this
    · simp at h1
  obtain ⟨p0, p1, ps, rfl⟩ : ∃ p0 p1 r, ps = p0 :: p1 :: r := by
    rcases ps with _ | ⟨p0, _ | ⟨p1, ps⟩⟩
    · simp at h1
    · simp at h1
    · exact ⟨_, _, _, rfl⟩
  have g1 := (f1 (p0 :: p1 :: ps) _ rfl).2 (by simp)
  obtain ⟨a1, a2⟩ := @c_14 (n + 2) p1 wLefts (hp p1 (by simp))
  cases h2 : tabOK p1 with
  | false =>
    have a2 := fun L => exC_use (L := L) (a2 h2)
    have : ∀ L, callF (evFn fs75 (n + 6)) 17 [.str t] L = .exc 2 (.str wLefts) L := by
      refine callF_ofE (L1 := []) (run_to P75_17 rfl rfl ?_) rfl rfl
      unfold P75_17
      simp only [wSigns, wLefts, wRights, wOuts, mParts, cst1, List.map_cons] at a2 g1 e15 ⊢
      trivial
    rcases ps with _ | ⟨p2, ps⟩
    · simpa [h2, Res.R] using this
    · simpa [h2, Res.R] using this
  | true =>
    have a1 := fun L => okC_use (L := L) (a1 h2)
    rcases ps with _ | ⟨p2, ps⟩
    · have g2 := (f2 [p0, p1] _ rfl).1 (by simp)
      have : ∀ L, callF (evFn fs75 (n + 6)) 17 [.str t] L = .exc 2 (.str wRights) L := by
        refine callF_ofE (L1 := []) (run_to P75_17 rfl rfl ?_) rfl rfl
        unfold P75_17
        simp only [wSigns, wLefts, wRights, wOuts, mParts, cst1, cst2, List.map_cons, List.map_nil] at a1 g1 g2 e15 ⊢
        trivial
      simpa [h2, Res.R] using this
    have g2 := (f2 (p0 :: p1 :: p2 :: ps) _ rfl).2 (by simp)
    obtain ⟨b1, b2⟩ := @c_14 (n + 2) p2 wRights (hp p2 (by simp))
    cases h3 : tabOK p2 with
    | false =>
      have b2 := fun L => exC_use (L := L) (b2 h3)
      have : ∀ L, callF (evFn fs75 (n + 6)) 17 [.str t] L = .exc 2 (.str wRights) L := by
        refine callF_ofE (L1 := []) (run_to P75_17 rfl rfl ?_) rfl rfl
        unfold P75_17
        simp only [wSigns, wLefts, wRights, wOuts, mParts, cst1, cst2, List.map_cons] at a1 b2 g1 g2 e15 ⊢
        trivial
      simpa [h2, h3, Res.R] using this
    | true =>
      have b1 := fun L => okC_use (L := L) (b1 h3)
      by_cases h4 : ps.length = 1
      · obtain ⟨p3, rfl⟩ : ∃ p3, ps = [p3] := by
          rcases ps with _ | ⟨p3, _ | ⟨p4, ps⟩⟩
          · simp at h4
          · exact ⟨_, rfl⟩
          · simp at h4
        have g3 := (f3 [p0, p1, p2, p3] _ rfl).2 (by simp)
        have h3' := hp p3 (by simp)
        have z := szM_V (hp p0 (by simp)) (hp p1 (by simp)) (hp p2 (by simp)) (hp p3 (by simp))
        obtain ⟨c1, c2⟩ := @s_6 n p0 (tabV p1) (tabV p2) (outsV p3) z
        have q : ((TL.spl [59] 0 [] p3).map D.str).length ≤ 16777216 := by rw [List.length_map]; have := cutAt_num 59 p3; unfold cutAt at this; omega
        have k : compL (turnE (evFn fs75 (n + 5)) false (.bi .tuple (.cons (.meth .split (.slot 6) (.cons (.cst (.str [44])) .nil)) .nil)) (.name 6) .none [6] [some (.str t), some (.lst [.str p0, .str p1, .str p2, .str p3]), some (rowsD (tabV p1)), some (rowsD (tabV p2)), none, none, none]) ((TL.spl [59] 0 [] p3).map D.str) [] = .ok ((TL.spl [59] 0 [] p3).map fun x => strsD (cutAt 44 x)) [] := by
          refine comp_of fun x hx => ?_
          have := @cutAt_len 59 p3 x hx
          unfold strsD cutAt
          trivial
        have hm : (D.tup ((TL.spl [59] 0 [] p3).map fun x => strsD (cutAt 44 x))) = outsD (outsV p3) := by unfold outsD outsV cutAt; rw [List.map_map]; rfl
        unfold machR
        by_cases h5 : wrongM p0 (tabV p1) (tabV p2) (outsV p3) = []
        · have c1 := c1 h5
          have : ∀ L, callF (evFn fs75 (n + 6)) 17 [.str t] L = .ok (machD p0 (tabV p1) (tabV p2) (outsV p3)) L := by
            refine callF_of (L1 := []) (run_to P75_17 rfl rfl ?_) rfl (machD_pure _ _ _ _)
            unfold P75_17
            simp only [machD, wSigns, wLefts, wRights, wOuts, mParts, cst1, cst2, cst3, List.map_cons, List.map_nil] at a1 b1 c1 g1 g2 g3 e15 ⊢
            trivial
          simpa [h2, h3, h5, Res.R] using this
        · have c2 := c2 h5
          have : ∀ L, callF (evFn fs75 (n + 6)) 17 [.str t] L = .exc 0 (.str (wrongM p0 (tabV p1) (tabV p2) (outsV p3))) L := by
            refine callF_ofE (L1 := []) (run_to P75_17 rfl rfl ?_) rfl rfl
            unfold P75_17
            simp only [machD, wSigns, wLefts, wRights, wOuts, mParts, cst1, cst2, cst3, List.map_cons, List.map_nil] at a1 b1 c2 g1 g2 g3 e15 ⊢
            trivial
          simpa [h2, h3, h5, Res.R] using this
      · have c3 : (p0 :: p1 :: p2 :: ps).length ≤ 3 ∨ (3 + 1 = mParts.length ∧ mParts.length < (p0 :: p1 :: p2 :: ps).length) := by
          rcases Nat.eq_zero_or_pos ps.length with h | h
          · left; simp [h]
          · right; exact ⟨rfl, by simp [mParts]; omega⟩
        have g3 := (f3 (p0 :: p1 :: p2 :: ps) _ rfl).1 c3
        have : ∀ L, callF (evFn fs75 (n + 6)) 17 [.str t] L = .exc 2 (.str wOuts) L := by
          refine callF_ofE (L1 := []) (run_to P75_17 rfl rfl ?_) rfl rfl
          unfold P75_17
          simp only [wSigns, wLefts, wRights, wOuts, mParts, cst1, cst2, cst3, List.map_cons] at a1 b1 g1 g2 g3 e15 ⊢
          trivial
        rcases ps with _ | ⟨p3, _ | ⟨p4, ps⟩⟩
        · simpa [h2, h3, Res.R] using this
        · simp at h4
        · simpa [h2, h3, Res.R] using this
/-- guards -/
def guardR (s : List Nat) (l : List (List Int)) (g : List Int) : Res := if wrongG s l g = [] then .ok (guardD s l g) else .ex 1 (.str (wrongG s l g))
def resG (t : List Nat) : Res := match cutAt 124 t with
  | p0 :: p1 :: rest => if tabOK p1 = false then .ex 2 (.str wRows) else match rest with
    | [p2] => if p2 = [] then guardR p0 (tabV p1) [] else if numsOK p2 = false then .ex 2 (.str wGood) else guardR p0 (tabV p1) (numsV p2)
    | _ => .ex 2 (.str wGood)
  | _ => .ex 2 (.str wRows)
abbrev gParts : List D := [.str wSigns, .str wRows, .str wGood]
theorem s_18 {n : Nat} {t : List Nat} (ht : t.length + 2 ≤ 16777216) : ∀ L, callF (evFn fs75 (n + 6)) 18 [.str t] L = (resG t).R L := by
  have e15 := fun L => okC_use (L := L) (@c_15 (n + 4) t ht)
  have hp : ∀ p ∈ cutAt 124 t, p.length + 2 ≤ 16777216 := fun p hp => by have := cutAt_len hp; omega
  have f1 := fun ps w (h : gParts[1]? = some (.str w)) => @s_16 (n + 4) ps 1 gParts w rfl h
  have f2 := fun ps w (h : gParts[2]? = some (.str w)) => @s_16 (n + 4) ps 2 gParts w rfl h
  unfold resG
  generalize cutAt 124 t = ps at *
  by_cases h1 : ps.length ≤ 1
  · have g1 := (f1 ps _ rfl).1 (.inl h1)
    have : ∀ L, callF (evFn fs75 (n + 6)) 18 [.str t] L = .exc 2 (.str wRows) L := by
      refine callF_ofE (L1 := []) (run_to P75_18 rfl rfl ?_) rfl rfl
      unfold P75_18
      simp only [wSigns, wRows, wGood, gParts, cst1] at g1 ⊢
      trivial
    rcases ps with _ | ⟨p0, _ | ⟨p1, ps⟩⟩
    · exact this
    · exact this
    · simp at h1
  obtain ⟨p0, p1, ps, rfl⟩ : ∃ p0 p1 r, ps = p0 :: p1 :: r := by
    rcases ps with _ | ⟨p0, _ | ⟨p1, ps⟩⟩
    · simp at h1
    · simp at h1
    · exact ⟨_, _, _, rfl⟩
  have g1 := (f1 (p0 :: p1 :: ps) _ rfl).2 (by simp)
  obtain ⟨a1, a2⟩ := @c_14 (n + 2) p1 wRows (hp p1 (by simp))
  cases h2 : tabOK p1 with
  | false =>
    have a2 := fun L => exC_use (L := L) (a2 h2)
    have : ∀ L, callF (evFn fs75 (n + 6)) 18 [.str t] L = .exc 2 (.str wRows) L := by
      refine callF_ofE (L1 := []) (run_to P75_18 rfl rfl ?_) rfl rfl
      unfold P75_18
      simp only [wSigns, wRows, wGood, gParts, cst1, List.map_cons] at a2 g1 e15 ⊢
      trivial
    simpa [h2, Res.R] using this
  | true =>
    have a1 := fun L => okC_use (L := L) (a1 h2)
    by_cases h4 : ps.length = 1
    · obtain ⟨p2, rfl⟩ : ∃ p2, ps = [p2] := by
        rcases ps with _ | ⟨p2, _ | ⟨p4, ps⟩⟩
        · simp at h4
        · exact ⟨_, rfl⟩
        · simp at h4
      have g2 := (f2 [p0, p1, p2] _ rfl).2 (by simp)
      obtain ⟨b1, b2⟩ := @c_13 (n + 3) p2 wGood (hp p2 (by simp))
      have z1 : SzG p0 (tabV p1) [] := ⟨by have := hp p0 (by simp); omega, by have := tabV_len p1; have := hp p1 (by simp); omega, by simp, fun x hx => by have := tabV_row x hx; have := hp p1 (by simp); omega⟩
      have z2 : SzG p0 (tabV p1) (numsV p2) := ⟨z1.zs, z1.zl, by have := numsV_len p2; have := hp p2 (by simp); omega, z1.ll⟩
      unfold guardR
      by_cases h5 : p2 = []
      · subst h5
        obtain ⟨c1, c2⟩ := @s_8 n p0 (tabV p1) [] z1
        by_cases h6 : wrongG p0 (tabV p1) [] = []
        · have c1 := c1 h6
          have : ∀ L, callF (evFn fs75 (n + 6)) 18 [.str t] L = .ok (guardD p0 (tabV p1) []) L := by
            refine callF_of (L1 := []) (run_to P75_18 rfl rfl ?_) rfl (guardD_pure _ _ _)
            unfold P75_18
            simp only [guardD, intsD, wSigns, wRows, wGood, gParts, cst1, cst2, List.map_cons, List.map_nil] at a1 c1 g1 g2 e15 ⊢
            trivial
          simpa [h2, h6, Res.R] using this
        · have c2 := c2 h6
          have : ∀ L, callF (evFn fs75 (n + 6)) 18 [.str t] L = .exc 1 (.str (wrongG p0 (tabV p1) [])) L := by
            refine callF_ofE (L1 := []) (run_to P75_18 rfl rfl ?_) rfl rfl
            unfold P75_18
            simp only [guardD, intsD, wSigns, wRows, wGood, gParts, cst1, cst2, List.map_cons, List.map_nil] at a1 c2 g1 g2 e15 ⊢
            trivial
          simpa [h2, h6, Res.R] using this
      · cases h3 : numsOK p2 with
        | false =>
          have b2 := fun L => exC_use (L := L) (b2 h3)
          have : ∀ L, callF (evFn fs75 (n + 6)) 18 [.str t] L = .exc 2 (.str wGood) L := by
            refine callF_ofE (L1 := []) (run_to P75_18 rfl rfl ?_) rfl rfl
            unfold P75_18
            simp only [guardD, wSigns, wRows, wGood, gParts, cst1, cst2, List.map_cons, List.map_nil] at a1 b2 g1 g2 e15 ⊢
            trivial
          simpa [h2, h3, h5, Res.R] using this
        | true =>
          have b1 := fun L => okC_use (L := L) (b1 h3)
          obtain ⟨c1, c2⟩ := @s_8 n p0 (tabV p1) (numsV p2) z2
          by_cases h6 : wrongG p0 (tabV p1) (numsV p2) = []
          · have c1 := c1 h6
            have : ∀ L, callF (evFn fs75 (n + 6)) 18 [.str t] L = .ok (guardD p0 (tabV p1) (numsV p2)) L := by
              refine callF_of (L1 := []) (run_to P75_18 rfl rfl ?_) rfl (guardD_pure _ _ _)
              unfold P75_18
              simp only [guardD, wSigns, wRows, wGood, gParts, cst1, cst2, List.map_cons, List.map_nil] at a1 b1 c1 g1 g2 e15 ⊢
              trivial
            simpa [h2, h3, h5, h6, Res.R] using this
          · have c2 := c2 h6
            have : ∀ L, callF (evFn fs75 (n + 6)) 18 [.str t] L = .exc 1 (.str (wrongG p0 (tabV p1) (numsV p2))) L := by
              refine callF_ofE (L1 := []) (run_to P75_18 rfl rfl ?_) rfl rfl
              unfold P75_18
              simp only [guardD, wSigns, wRows, wGood, gParts, cst1, cst2, List.map_cons, List.map_nil] at a1 b1 c2 g1 g2 e15 ⊢
              trivial
            simpa [h2, h3, h5, h6, Res.R] using this
    · have c3 : (p0 :: p1 :: ps).length ≤ 2 ∨ (2 + 1 = gParts.length ∧ gParts.length < (p0 :: p1 :: ps).length) := by
        rcases Nat.eq_zero_or_pos ps.length with h | h
        · left; simp [h]
        · right; exact ⟨rfl, by simp [gParts]; omega⟩
      have g2 := (f2 (p0 :: p1 :: ps) _ rfl).1 c3
      have : ∀ L, callF (evFn fs75 (n + 6)) 18 [.str t] L = .exc 2 (.str wGood) L := by
        refine callF_ofE (L1 := []) (run_to P75_18 rfl rfl ?_) rfl rfl
        unfold P75_18
        simp only [wSigns, wRows, wGood, gParts, cst1, cst2, List.map_cons] at a1 g1 g2 e15 ⊢
        trivial
      rcases ps with _ | ⟨p3, _ | ⟨p4, ps⟩⟩
      · simpa [h2, Res.R] using this
      · simp at h4
      · simpa [h2, Res.R] using this

end EV
end

section
namespace EV
open PySem
local macro_rules | `(tactic| trivial) => `(tactic| simp (config := {contextual := true, maxSteps := 1000000, implicitDefEqProofs := false}) (disch := first | with_reducible assumption | omega | (simp only [List.length_map, List.length_set, upto_len, List.length_cons, List.length_nil, List.length_append, big, Bool.not_eq_true, Bool.not_eq_true', Bool.not_eq_false', Bool.and_eq_true, decide_eq_true_eq, decide_eq_false_iff_not] at *; omega)) only [x_slot, x_cst, x_glob, x_fnv, x_bin, x_neg, x_not, x_cmp, x_chain, x_isN, x_notN, x_and, x_or, x_ife, x_tup, x_frz, x_mut, x_call, x_callk, x_callv, x_bi, x_split, x_join, x_index, x_append, x_ix, x_dget, x_sl, x_isi, x_dnew, x_xfld, x_tupr, x_nil, x_cons, x_onone, x_osome, x_tnone, x_tsome, x_knil, x_kcons, x_disp, x_lc, x_fsl, x_rev, x_cat, x_lis, x_val, x_rng, x_rng2, x_enum, x_zip, x_turn, x_comp, y_nil, y_cons, y_set, y_par, y_asg, y_setIx, y_setK, y_ex, y_ife, y_body, y_for, y_forW, y_turn, y_done, y_ret, y_retN, y_raise, y_pass, y_brk, y_cont, y_try, y_hs, kBin2, kBin1, kCmp2, kCmp1, kBool, kNot, kNeg, kCh3, kCh2, kCh1b, kCh1, kIsN, kNotN, kAnd, kOr, kIfe, kTup, kFrz, kMut, kCall, kCallk, kCallv, kBi, kMe2, kMe1, kAp3, kAp2, kAp1, kIx2, kIx1, kDg2, kDg1, kSl3, kSl2, kSl1, kIsi, kDnew, kTupr, kEs2, kEs1, kInt, kTst, kK4, kK3, kK2, kK1, kDisp, kLc, kFs4, kFs3, kFs2, kFs1, kRev2, kRev, kCat4, kCat3, kCat2, kCat1, kLis, kVal, kRng, kRng2b, kRng2, kEnum, kZip2, kZip1, kSome, kTn2, kTn1, jSeq, jSet, jPar, jAsg, jSx3, jSx2, jSx1, jSk3, jSk2, jSk1, jEx, jIf, jBody, jFor, jExc, bind_ok, bind_exc, bind_bad, then_ok, then_exc, then_bad, seq_next, seq_ret, seq_exc, seq_brk, seq_cont, seq_bad, optR_some, blR_some, slotR_some, condR_t, condR_f, condS_t, condS_f, condR_bl, condS_bl, join_and, join_or, bind_ite, then_ite, seq_ite, negR_int, notR_bl, boolR_bl, isNon_non, isNon_int, isNon_str, isNon_tup, isNon_lst, isNon_obj, sizR_0, sizR_1, sizR_2, sizR_3, sizR_4, sizR_5, sizR_6, sizR_7, sizR_8, sizR_ok, intR_int, tstR_bl, recvA_obj, recvL_lst, appR_obj, appL_ok, setKS_obj, setKO_str, setIxS_obj, valO_lst, valR_obj, recvS_str, xfR_ok, tuprR_int, lstR_some, valR_lst, valR_tup, valR_ktup, valR_str, rngR_int, rng2R_int, enumR_lst, zipR_lst, zipR_tup, callvR_ok, noX_ok, noX_ite, noX_f, bindT_name, bindT_tup, bindT_ktup, bindTs_nil, bindTs_cons, wipe_nil, wipe_cons, envS_some, envB_some, loop_next, loop_cont, loop_brk, loop_ret, loop_exc, loop_ite, tryS_exc, tryS_ret, tryS_next, endH_ret, retS_next, retS_ret, retS_exc, retS_ite, setAll, o_isi_int_non, o_isi_int_bl, o_isi_int_int, o_isi_int_str, o_isi_int_tup, o_isi_int_ktup, o_isi_int_lst, o_isi_str_non, o_isi_str_bl, o_isi_str_int, o_isi_str_str, o_isi_str_tup, o_isi_str_ktup, o_isi_str_lst, o_isi_bool_non, o_isi_bool_bl, o_isi_bool_int, o_isi_bool_str, o_isi_bool_tup, o_isi_bool_ktup, o_isi_bool_lst, o_isi_tuple_non, o_isi_tuple_bl, o_isi_tuple_int, o_isi_tuple_str, o_isi_tuple_tup, o_isi_tuple_ktup, o_isi_tuple_lst, o_isi_list_non, o_isi_list_bl, o_isi_list_int, o_isi_list_str, o_isi_list_tup, o_isi_list_ktup, o_isi_list_lst, o_add_ii, o_sub_ii, o_add_ss, o_add_tt, o_add_ll, o_mul_il, o_mul_ir, o_pow_ii, o_dget, dictG_str, dictG_int, keyOf_s, keyOf_i, getset, dnewR_3, o_mod_ii, o_fdiv_ii, o_eq_int, o_eq_str, o_eq_bl, o_ne_int, o_ne_str, o_ne_bl, o_lt_i, o_le_i, o_gt_i, o_ge_i, o_in_s, o_nin_s, o_eq_d, o_ne_d, o_len_s, o_len_t, o_len_kt, o_len_l, o_tup_l, o_tup_t, oTup_l, oLen_l, oIx_l, oLst_l, o_tup_o, o_len_o, o_all, o_any, o_str_i, o_int_i, o_sum, o_join, o_join_t, o_split, atI_0, atI_1, atI_2, atI_3, o_ix_t, o_ix_kt, o_ix_l, o_ix_o, o_ix_s, o_sl_s, o_sl_t, o_sl_l, o_lof_l, o_sof_l, o_sof_t, o_lof_o, List.getElem?_cons_zero, List.getElem?_cons_succ, List.set_cons_zero, List.set_cons_succ, Option.bind_some, List.length_cons, List.length_nil, if_true, if_false, Bool.not_true, Bool.not_false, Bool.and_true, Bool.true_and, Bool.and_false, Bool.false_and, Bool.or_true, Bool.true_or, Bool.or_false, Bool.false_or, Bool.not_not, ite_true, ite_false, reduceIte, Nat.reduceAdd, Int.reduceAdd, Int.reduceSub, Int.reduceMod, Int.reduceMul, Nat.reduceLT, reduceCtorEq, startD, List.map_cons, List.map_nil, List.replicate_succ, List.replicate_zero, List.cons_append, List.nil_append, Nat.reduceSub, decide_true, decide_false, true_and, and_true, eq_self, Int.reduceEq, Int.reduceNe, Int.reduceLT, Int.reduceLE, Nat.reduceEqDiff, Int.reduceToNat, Nat.reduceLeDiff, List.length_map, signs_mp, join_opt, ne_nil_s, ne_nil_i, ne_nil_n, isEmpty_filt, upto_z, compL_nil, Int.toNat_natCast, id_eq, List.length_set, cst0, cst1, cst2, cst3, cst4, cst5, cst6, ne_eq, not_true_eq_false, not_false_eq_true, *])
local macro_rules | `(tactic| bv_omega) => `(tactic| (first | rfl | (simp [-List.all_eq_true] at *; done) | (simp [-List.all_eq_true] at *; omega) | (simp [-List.all_eq_true] at *; grind)))
local macro_rules | `(tactic| trivial) => `(tactic| simp (config := {contextual := true, maxSteps := 1000000, implicitDefEqProofs := false}) (disch := first | with_reducible assumption | omega | (simp only [List.length_map, List.length_set, upto_len, List.length_cons, List.length_nil, List.length_append, big, Bool.not_eq_true, Bool.not_eq_true', Bool.not_eq_false', Bool.and_eq_true, decide_eq_true_eq, decide_eq_false_iff_not] at *; omega)) only [x_slot, x_cst, x_glob, x_fnv, x_bin, x_neg, x_not, x_cmp, x_chain, x_isN, x_notN, x_and, x_or, x_ife, x_tup, x_frz, x_mut, x_call, x_callk, x_callv, x_bi, x_split, x_join, x_index, x_append, x_ix, x_dget, x_sl, x_isi, x_dnew, x_xfld, x_tupr, x_nil, x_cons, x_onone, x_osome, x_tnone, x_tsome, x_knil, x_kcons, x_disp, x_lc, x_fsl, x_rev, x_cat, x_lis, x_val, x_rng, x_rng2, x_enum, x_zip, x_turn, x_comp, y_nil, y_cons, y_set, y_par, y_asg, y_setIx, y_setK, y_ex, y_ife, y_body, y_for, y_forW, y_turn, y_done, y_ret, y_retN, y_raise, y_pass, y_brk, y_cont, y_try, y_hs, kBin2, kBin1, kCmp2, kCmp1, kBool, kNot, kNeg, kCh3, kCh2, kCh1b, kCh1, kIsN, kNotN, kAnd, kOr, kIfe, kTup, kFrz, kMut, kCall, kCallk, kCallv, kBi, kMe2, kMe1, kAp3, kAp2, kAp1, kIx2, kIx1, kDg2, kDg1, kSl3, kSl2, kSl1, kIsi, kDnew, kTupr, kEs2, kEs1, kInt, kTst, kK4, kK3, kK2, kK1, kDisp, kLc, kFs4, kFs3, kFs2, kFs1, kRev2, kRev, kCat4, kCat3, kCat2, kCat1, kLis, kVal, kRng, kRng2b, kRng2, kEnum, kZip2, kZip1, kSome, kTn2, kTn1, jSeq, jSet, jPar, jAsg, jSx3, jSx2, jSx1, jSk3, jSk2, jSk1, jEx, jIf, jBody, jFor, jExc, bind_ok, bind_exc, bind_bad, then_ok, then_exc, then_bad, seq_next, seq_ret, seq_exc, seq_brk, seq_cont, seq_bad, optR_some, blR_some, slotR_some, condR_t, condR_f, condS_t, condS_f, condR_bl, condS_bl, join_and, join_or, bind_ite, then_ite, seq_ite, negR_int, notR_bl, boolR_bl, isNon_non, isNon_int, isNon_str, isNon_tup, isNon_lst, isNon_obj, sizR_0, sizR_1, sizR_2, sizR_3, sizR_4, sizR_5, sizR_6, sizR_7, sizR_8, sizR_ok, intR_int, tstR_bl, recvA_obj, recvL_lst, appR_obj, appL_ok, setKS_obj, setKO_str, setIxS_obj, valO_lst, valR_obj, recvS_str, xfR_ok, tuprR_int, lstR_some, valR_lst, valR_tup, valR_ktup, valR_str, rngR_int, rng2R_int, enumR_lst, zipR_lst, zipR_tup, callvR_ok, noX_ok, noX_ite, noX_f, bindT_name, bindT_tup, bindT_ktup, bindTs_nil, bindTs_cons, wipe_nil, wipe_cons, envS_some, envB_some, loop_next, loop_cont, loop_brk, loop_ret, loop_exc, loop_ite, tryS_exc, tryS_ret, tryS_next, endH_ret, retS_next, retS_ret, retS_exc, retS_ite, setAll, o_isi_int_non, o_isi_int_bl, o_isi_int_int, o_isi_int_str, o_isi_int_tup, o_isi_int_ktup, o_isi_int_lst, o_isi_str_non, o_isi_str_bl, o_isi_str_int, o_isi_str_str, o_isi_str_tup, o_isi_str_ktup, o_isi_str_lst, o_isi_bool_non, o_isi_bool_bl, o_isi_bool_int, o_isi_bool_str, o_isi_bool_tup, o_isi_bool_ktup, o_isi_bool_lst, o_isi_tuple_non, o_isi_tuple_bl, o_isi_tuple_int, o_isi_tuple_str, o_isi_tuple_tup, o_isi_tuple_ktup, o_isi_tuple_lst, o_isi_list_non, o_isi_list_bl, o_isi_list_int, o_isi_list_str, o_isi_list_tup, o_isi_list_ktup, o_isi_list_lst, o_add_ii, o_sub_ii, o_add_ss, o_add_tt, o_add_ll, o_mul_il, o_mul_ir, o_pow_ii, o_dget, dictG_str, dictG_int, keyOf_s, keyOf_i, getset, dnewR_3, o_mod_ii, o_fdiv_ii, o_eq_int, o_eq_str, o_eq_bl, o_ne_int, o_ne_str, o_ne_bl, o_lt_i, o_le_i, o_gt_i, o_ge_i, o_in_s, o_nin_s, o_eq_d, o_ne_d, o_len_s, o_len_t, o_len_kt, o_len_l, o_tup_l, o_tup_t, oTup_l, oLen_l, oIx_l, oLst_l, o_tup_o, o_len_o, o_all, o_any, o_str_i, o_int_i, o_sum, o_join, o_join_t, o_split, atI_0, atI_1, atI_2, atI_3, o_ix_t, o_ix_kt, o_ix_l, o_ix_o, o_ix_s, o_sl_s, o_sl_t, o_sl_l, o_lof_l, o_sof_l, o_sof_t, o_lof_o, List.getElem?_cons_zero, List.getElem?_cons_succ, List.set_cons_zero, List.set_cons_succ, Option.bind_some, List.length_cons, List.length_nil, if_true, if_false, Bool.not_true, Bool.not_false, Bool.and_true, Bool.true_and, Bool.and_false, Bool.false_and, Bool.or_true, Bool.true_or, Bool.or_false, Bool.false_or, Bool.not_not, ite_true, ite_false, reduceIte, Nat.reduceAdd, Int.reduceAdd, Int.reduceSub, Int.reduceMod, Int.reduceMul, Nat.reduceLT, reduceCtorEq, startD, List.map_cons, List.map_nil, List.replicate_succ, List.replicate_zero, List.cons_append, List.nil_append, Nat.reduceSub, decide_true, decide_false, true_and, and_true, eq_self, Int.reduceEq, Int.reduceNe, Int.reduceLT, Int.reduceLE, Nat.reduceEqDiff, Int.reduceToNat, Nat.reduceLeDiff, List.length_map, signs_mp, join_opt, ne_nil_s, ne_nil_i, ne_nil_n, isEmpty_filt, upto_z, compL_nil, Int.toNat_natCast, id_eq, List.length_set, cst0, cst1, cst2, cst3, cst4, cst5, cst6, ne_eq, not_true_eq_false, not_false_eq_true, isi_rowsD, isi_outsD, isi_intsD, len_rowsD, len_outsD, len_intsD, val_outsD, val_rowsD, val_intsD, *])
theorem s_26 {n : Nat} {s : List Nat} {l r : List (List Int)} {o : List (List (List Nat))} (z : SzM s l r o) : ∀ L, callF (evFn fs75 (n + 2)) 26 [machD s l r o, .str s] L = .ok (.bl (rowsOK l s.length && (rowsOK r s.length && (decide (o.length = l.length) && o.all (toldOK s r.length))))) L := by
  refine callF_of (L1 := []) (run_to P75_26 rfl rfl ?_) (by rw [purAll_cons, machD_pure]; rfl) rfl
  obtain ⟨hs, hl, hr, ho, hll, hrr, hoo, hot⟩ := z
  have e1 := fun L => okC_use (L := L) (@c_25 n l s hs)
  have e2 := fun L => okC_use (L := L) (@c_25 n r s hs)
  unfold P75_26 machD
  trivial
  cases h1 : rowsOK l s.length
  · bv_omega
  cases h2 : rowsOK r s.length
  · bv_omega
  trivial
  split
  · bv_omega
  · rename_i h3
    have h3 : o.length = l.length := by simp at h3; omega
    refine ret_all2 (toldOK s r.length) (fun ρ => ∃ u v w, ρ = [some (.tup [.str s, rowsD l, rowsD r, outsD o]), some (.str s), u, v, w]) (.bl false) ⟨_, _, _, rfl⟩ ?_ ?_ ?_ ?_
    · rintro x hx ρ ⟨u, v, w, rfl⟩ h4
      have q1 := hoo x hx
      have q2 := hot x hx
      unfold toldOK at h4
      obtain ⟨h5, h6⟩ : x.length = s.length ∧ (x.all fun t => decide (t.length = r.length) && t.all fun c => decide (c ∈ s)) = true := by simpa using h4
      unfold strsD
      trivial
      refine seq_all_t (NextP _ _) (fun t : List Nat => decide (t.length = r.length) && t.all fun c => decide (c ∈ s)) (fun ρ => ∃ v w, ρ = [some (D.tup [.str s, rowsD l, rowsD r, outsD o]), some (.str s), some (.tup (x.map .str)), v, w]) (.bl false) ⟨_, _, rfl⟩ ?_ ?_ h6 ?_
      · rintro t ht ρ ⟨v, w, rfl⟩ h7
        have q4 := q2 t ht
        obtain ⟨q5, q6⟩ : t.length = r.length ∧ (t.all fun c => decide (c ∈ s)) = true := by simpa using h7
        trivial
        rw [comp_if (k := fun c => D.str [c]) (g := fun c => .str [c]) (p := fun c => !decide (c ∈ s))]
        · trivial
          exact nextP_of ⟨_, _, rfl⟩
        · intro c hc
          trivial
      · rintro t ht ρ ⟨v, w, rfl⟩ h7
        have q4 := q2 t ht
        by_cases q5 : t.length = r.length
        · have q6 : (t.all fun c => decide (c ∈ s)) = false := by simpa [q5] using h7
          trivial
          rw [comp_if (k := fun c => D.str [c]) (g := fun c => .str [c]) (p := fun c => !decide (c ∈ s))]
          · trivial
          · intro c hc
            trivial
        · have q6 : ((t.length : Int) = (r.length : Int)) = False := by simp; omega
          trivial
      · rintro ρ ⟨v, w, rfl⟩
        trivial
        exact nextP_of ⟨_, _, _, rfl⟩
    · rintro x hx ρ ⟨u, v, w, rfl⟩ h4
      have q1 := hoo x hx
      have q2 := hot x hx
      unfold toldOK at h4
      unfold strsD
      by_cases h5 : x.length = s.length
      · have h6 : (x.all fun t => decide (t.length = r.length) && t.all fun c => decide (c ∈ s)) = false := by simpa [h5] using h4
        trivial
        refine seq_all_f (fun t : List Nat => decide (t.length = r.length) && t.all fun c => decide (c ∈ s)) (fun ρ => ∃ v w, ρ = [some (D.tup [.str s, rowsD l, rowsD r, outsD o]), some (.str s), some (.tup (x.map .str)), v, w]) ⟨_, _, rfl⟩ ?_ ?_ h6
        · rintro t ht ρ ⟨v, w, rfl⟩ h7
          have q4 := q2 t ht
          obtain ⟨q5, q6⟩ : t.length = r.length ∧ (t.all fun c => decide (c ∈ s)) = true := by simpa using h7
          trivial
          rw [comp_if (k := fun c => D.str [c]) (g := fun c => .str [c]) (p := fun c => !decide (c ∈ s))]
          · trivial
            exact nextP_of ⟨_, _, rfl⟩
          · intro c hc
            trivial
        · rintro t ht ρ ⟨v, w, rfl⟩ h7
          have q4 := q2 t ht
          by_cases q5 : t.length = r.length
          · have q6 : (t.all fun c => decide (c ∈ s)) = false := by simpa [q5] using h7
            trivial
            rw [comp_if (k := fun c => D.str [c]) (g := fun c => .str [c]) (p := fun c => !decide (c ∈ s))]
            · trivial
            · intro c hc
              trivial
          · have q6 : ((t.length : Int) = (r.length : Int)) = False := by simp; omega
            trivial
      · have h6 : ((x.length : Int) = (s.length : Int)) = False := by simp; omega
        trivial
    · rintro h1 ρ ⟨u, v, w, rfl⟩
      trivial
    · intro h1
      simp [h3, h1]

end EV
end

section
namespace EV
open PySem
local macro_rules | `(tactic| trivial) => `(tactic| simp (config := {contextual := true, maxSteps := 1000000, implicitDefEqProofs := false}) (disch := first | with_reducible assumption | omega | (simp only [List.length_map, List.length_set, upto_len, List.length_cons, List.length_nil, List.length_append, big, Bool.not_eq_true, Bool.not_eq_true', Bool.not_eq_false', Bool.and_eq_true, decide_eq_true_eq, decide_eq_false_iff_not] at *; omega)) only [x_slot, x_cst, x_glob, x_fnv, x_bin, x_neg, x_not, x_cmp, x_chain, x_isN, x_notN, x_and, x_or, x_ife, x_tup, x_frz, x_mut, x_call, x_callk, x_callv, x_bi, x_split, x_join, x_index, x_append, x_ix, x_dget, x_sl, x_isi, x_dnew, x_xfld, x_tupr, x_nil, x_cons, x_onone, x_osome, x_tnone, x_tsome, x_knil, x_kcons, x_disp, x_lc, x_fsl, x_rev, x_cat, x_lis, x_val, x_rng, x_rng2, x_enum, x_zip, x_turn, x_comp, y_nil, y_cons, y_set, y_par, y_asg, y_setIx, y_setK, y_ex, y_ife, y_body, y_for, y_forW, y_turn, y_done, y_ret, y_retN, y_raise, y_pass, y_brk, y_cont, y_try, y_hs, kBin2, kBin1, kCmp2, kCmp1, kBool, kNot, kNeg, kCh3, kCh2, kCh1b, kCh1, kIsN, kNotN, kAnd, kOr, kIfe, kTup, kFrz, kMut, kCall, kCallk, kCallv, kBi, kMe2, kMe1, kAp3, kAp2, kAp1, kIx2, kIx1, kDg2, kDg1, kSl3, kSl2, kSl1, kIsi, kDnew, kTupr, kEs2, kEs1, kInt, kTst, kK4, kK3, kK2, kK1, kDisp, kLc, kFs4, kFs3, kFs2, kFs1, kRev2, kRev, kCat4, kCat3, kCat2, kCat1, kLis, kVal, kRng, kRng2b, kRng2, kEnum, kZip2, kZip1, kSome, kTn2, kTn1, jSeq, jSet, jPar, jAsg, jSx3, jSx2, jSx1, jSk3, jSk2, jSk1, jEx, jIf, jBody, jFor, jExc, bind_ok, bind_exc, bind_bad, then_ok, then_exc, then_bad, seq_next, seq_ret, seq_exc, seq_brk, seq_cont, seq_bad, optR_some, blR_some, slotR_some, condR_t, condR_f, condS_t, condS_f, condR_bl, condS_bl, join_and, join_or, bind_ite, then_ite, seq_ite, negR_int, notR_bl, boolR_bl, isNon_non, isNon_int, isNon_str, isNon_tup, isNon_lst, isNon_obj, sizR_0, sizR_1, sizR_2, sizR_3, sizR_4, sizR_5, sizR_6, sizR_7, sizR_8, sizR_ok, intR_int, tstR_bl, recvA_obj, recvL_lst, appR_obj, appL_ok, setKS_obj, setKO_str, setIxS_obj, valO_lst, valR_obj, recvS_str, xfR_ok, tuprR_int, lstR_some, valR_lst, valR_tup, valR_ktup, valR_str, rngR_int, rng2R_int, enumR_lst, zipR_lst, zipR_tup, callvR_ok, noX_ok, noX_ite, noX_f, bindT_name, bindT_tup, bindT_ktup, bindTs_nil, bindTs_cons, wipe_nil, wipe_cons, envS_some, envB_some, loop_next, loop_cont, loop_brk, loop_ret, loop_exc, loop_ite, tryS_exc, tryS_ret, tryS_next, endH_ret, retS_next, retS_ret, retS_exc, retS_ite, setAll, o_isi_int_non, o_isi_int_bl, o_isi_int_int, o_isi_int_str, o_isi_int_tup, o_isi_int_ktup, o_isi_int_lst, o_isi_str_non, o_isi_str_bl, o_isi_str_int, o_isi_str_str, o_isi_str_tup, o_isi_str_ktup, o_isi_str_lst, o_isi_bool_non, o_isi_bool_bl, o_isi_bool_int, o_isi_bool_str, o_isi_bool_tup, o_isi_bool_ktup, o_isi_bool_lst, o_isi_tuple_non, o_isi_tuple_bl, o_isi_tuple_int, o_isi_tuple_str, o_isi_tuple_tup, o_isi_tuple_ktup, o_isi_tuple_lst, o_isi_list_non, o_isi_list_bl, o_isi_list_int, o_isi_list_str, o_isi_list_tup, o_isi_list_ktup, o_isi_list_lst, o_add_ii, o_sub_ii, o_add_ss, o_add_tt, o_add_ll, o_mul_il, o_mul_ir, o_pow_ii, o_dget, dictG_str, dictG_int, keyOf_s, keyOf_i, getset, dnewR_3, o_mod_ii, o_fdiv_ii, o_eq_int, o_eq_str, o_eq_bl, o_ne_int, o_ne_str, o_ne_bl, o_lt_i, o_le_i, o_gt_i, o_ge_i, o_in_s, o_nin_s, o_eq_d, o_ne_d, o_len_s, o_len_t, o_len_kt, o_len_l, o_tup_l, o_tup_t, oTup_l, oLen_l, oIx_l, oLst_l, o_tup_o, o_len_o, o_all, o_any, o_str_i, o_int_i, o_sum, o_join, o_join_t, o_split, atI_0, atI_1, atI_2, atI_3, o_ix_t, o_ix_kt, o_ix_l, o_ix_o, o_ix_s, o_sl_s, o_sl_t, o_sl_l, o_lof_l, o_sof_l, o_sof_t, o_lof_o, List.getElem?_cons_zero, List.getElem?_cons_succ, List.set_cons_zero, List.set_cons_succ, Option.bind_some, List.length_cons, List.length_nil, if_true, if_false, Bool.not_true, Bool.not_false, Bool.and_true, Bool.true_and, Bool.and_false, Bool.false_and, Bool.or_true, Bool.true_or, Bool.or_false, Bool.false_or, Bool.not_not, ite_true, ite_false, reduceIte, Nat.reduceAdd, Int.reduceAdd, Int.reduceSub, Int.reduceMod, Int.reduceMul, Nat.reduceLT, reduceCtorEq, startD, List.map_cons, List.map_nil, List.replicate_succ, List.replicate_zero, List.cons_append, List.nil_append, Nat.reduceSub, decide_true, decide_false, true_and, and_true, eq_self, Int.reduceEq, Int.reduceNe, Int.reduceLT, Int.reduceLE, Nat.reduceEqDiff, Int.reduceToNat, Nat.reduceLeDiff, List.length_map, signs_mp, join_opt, ne_nil_s, ne_nil_i, ne_nil_n, isEmpty_filt, upto_z, compL_nil, Int.toNat_natCast, id_eq, List.length_set, cst0, cst1, cst2, cst3, cst4, cst5, cst6, ne_eq, not_true_eq_false, not_false_eq_true, *])
local macro_rules | `(tactic| bv_omega) => `(tactic| (first | rfl | (simp [-List.all_eq_true] at *; done) | (simp [-List.all_eq_true] at *; omega) | (simp [-List.all_eq_true] at *; grind)))
local macro_rules | `(tactic| trivial) => `(tactic| simp (config := {contextual := true, maxSteps := 1000000, implicitDefEqProofs := false}) (disch := first | with_reducible assumption | omega | (simp only [List.length_map, List.length_set, upto_len, List.length_cons, List.length_nil, List.length_append, big, Bool.not_eq_true, Bool.not_eq_true', Bool.not_eq_false', Bool.and_eq_true, decide_eq_true_eq, decide_eq_false_iff_not] at *; omega)) only [x_slot, x_cst, x_glob, x_fnv, x_bin, x_neg, x_not, x_cmp, x_chain, x_isN, x_notN, x_and, x_or, x_ife, x_tup, x_frz, x_mut, x_call, x_callk, x_callv, x_bi, x_split, x_join, x_index, x_append, x_ix, x_dget, x_sl, x_isi, x_dnew, x_xfld, x_tupr, x_nil, x_cons, x_onone, x_osome, x_tnone, x_tsome, x_knil, x_kcons, x_disp, x_lc, x_fsl, x_rev, x_cat, x_lis, x_val, x_rng, x_rng2, x_enum, x_zip, x_turn, x_comp, y_nil, y_cons, y_set, y_par, y_asg, y_setIx, y_setK, y_ex, y_ife, y_body, y_for, y_forW, y_turn, y_done, y_ret, y_retN, y_raise, y_pass, y_brk, y_cont, y_try, y_hs, kBin2, kBin1, kCmp2, kCmp1, kBool, kNot, kNeg, kCh3, kCh2, kCh1b, kCh1, kIsN, kNotN, kAnd, kOr, kIfe, kTup, kFrz, kMut, kCall, kCallk, kCallv, kBi, kMe2, kMe1, kAp3, kAp2, kAp1, kIx2, kIx1, kDg2, kDg1, kSl3, kSl2, kSl1, kIsi, kDnew, kTupr, kEs2, kEs1, kInt, kTst, kK4, kK3, kK2, kK1, kDisp, kLc, kFs4, kFs3, kFs2, kFs1, kRev2, kRev, kCat4, kCat3, kCat2, kCat1, kLis, kVal, kRng, kRng2b, kRng2, kEnum, kZip2, kZip1, kSome, kTn2, kTn1, jSeq, jSet, jPar, jAsg, jSx3, jSx2, jSx1, jSk3, jSk2, jSk1, jEx, jIf, jBody, jFor, jExc, bind_ok, bind_exc, bind_bad, then_ok, then_exc, then_bad, seq_next, seq_ret, seq_exc, seq_brk, seq_cont, seq_bad, optR_some, blR_some, slotR_some, condR_t, condR_f, condS_t, condS_f, condR_bl, condS_bl, join_and, join_or, bind_ite, then_ite, seq_ite, negR_int, notR_bl, boolR_bl, isNon_non, isNon_int, isNon_str, isNon_tup, isNon_lst, isNon_obj, sizR_0, sizR_1, sizR_2, sizR_3, sizR_4, sizR_5, sizR_6, sizR_7, sizR_8, sizR_ok, intR_int, tstR_bl, recvA_obj, recvL_lst, appR_obj, appL_ok, setKS_obj, setKO_str, setIxS_obj, valO_lst, valR_obj, recvS_str, xfR_ok, tuprR_int, lstR_some, valR_lst, valR_tup, valR_ktup, valR_str, rngR_int, rng2R_int, enumR_lst, zipR_lst, zipR_tup, callvR_ok, noX_ok, noX_ite, noX_f, bindT_name, bindT_tup, bindT_ktup, bindTs_nil, bindTs_cons, wipe_nil, wipe_cons, envS_some, envB_some, loop_next, loop_cont, loop_brk, loop_ret, loop_exc, loop_ite, tryS_exc, tryS_ret, tryS_next, endH_ret, retS_next, retS_ret, retS_exc, retS_ite, setAll, o_isi_int_non, o_isi_int_bl, o_isi_int_int, o_isi_int_str, o_isi_int_tup, o_isi_int_ktup, o_isi_int_lst, o_isi_str_non, o_isi_str_bl, o_isi_str_int, o_isi_str_str, o_isi_str_tup, o_isi_str_ktup, o_isi_str_lst, o_isi_bool_non, o_isi_bool_bl, o_isi_bool_int, o_isi_bool_str, o_isi_bool_tup, o_isi_bool_ktup, o_isi_bool_lst, o_isi_tuple_non, o_isi_tuple_bl, o_isi_tuple_int, o_isi_tuple_str, o_isi_tuple_tup, o_isi_tuple_ktup, o_isi_tuple_lst, o_isi_list_non, o_isi_list_bl, o_isi_list_int, o_isi_list_str, o_isi_list_tup, o_isi_list_ktup, o_isi_list_lst, o_add_ii, o_sub_ii, o_add_ss, o_add_tt, o_add_ll, o_mul_il, o_mul_ir, o_pow_ii, o_dget, dictG_str, dictG_int, keyOf_s, keyOf_i, getset, dnewR_3, o_mod_ii, o_fdiv_ii, o_eq_int, o_eq_str, o_eq_bl, o_ne_int, o_ne_str, o_ne_bl, o_lt_i, o_le_i, o_gt_i, o_ge_i, o_in_s, o_nin_s, o_eq_d, o_ne_d, o_len_s, o_len_t, o_len_kt, o_len_l, o_tup_l, o_tup_t, oTup_l, oLen_l, oIx_l, oLst_l, o_tup_o, o_len_o, o_all, o_any, o_str_i, o_int_i, o_sum, o_join, o_join_t, o_split, atI_0, atI_1, atI_2, atI_3, o_ix_t, o_ix_kt, o_ix_l, o_ix_o, o_ix_s, o_sl_s, o_sl_t, o_sl_l, o_lof_l, o_sof_l, o_sof_t, o_lof_o, List.getElem?_cons_zero, List.getElem?_cons_succ, List.set_cons_zero, List.set_cons_succ, Option.bind_some, List.length_cons, List.length_nil, if_true, if_false, Bool.not_true, Bool.not_false, Bool.and_true, Bool.true_and, Bool.and_false, Bool.false_and, Bool.or_true, Bool.true_or, Bool.or_false, Bool.false_or, Bool.not_not, ite_true, ite_false, reduceIte, Nat.reduceAdd, Int.reduceAdd, Int.reduceSub, Int.reduceMod, Int.reduceMul, Nat.reduceLT, reduceCtorEq, startD, List.map_cons, List.map_nil, List.replicate_succ, List.replicate_zero, List.cons_append, List.nil_append, Nat.reduceSub, decide_true, decide_false, true_and, and_true, eq_self, Int.reduceEq, Int.reduceNe, Int.reduceLT, Int.reduceLE, Nat.reduceEqDiff, Int.reduceToNat, Nat.reduceLeDiff, List.length_map, signs_mp, join_opt, ne_nil_s, ne_nil_i, ne_nil_n, isEmpty_filt, upto_z, compL_nil, Int.toNat_natCast, id_eq, List.length_set, cst0, cst1, cst2, cst3, cst4, cst5, cst6, ne_eq, not_true_eq_false, not_false_eq_true, isi_rowsD, isi_outsD, isi_intsD, len_rowsD, len_outsD, len_intsD, val_outsD, val_rowsD, val_intsD, *])
def catD : Res → D
  | .ok d => twoD cTold d
  | .ex 2 d => twoD cText d
  | .ex 0 d => twoD cMach d
  | .ex _ d => twoD cGuard d
theorem isNon_rowsD {l : List (List Int)} : isNon (rowsD l) = false := rfl
theorem isNon_intsD {l : List Int} : isNon (intsD l) = false := rfl
local macro_rules | `(tactic| trivial) => `(tactic| simp (config := {contextual := true, maxSteps := 1000000, implicitDefEqProofs := false}) (disch := first | with_reducible assumption | omega | (simp only [List.length_map, List.length_set, upto_len, List.length_cons, List.length_nil, List.length_append, big, Bool.not_eq_true, Bool.not_eq_true', Bool.not_eq_false', Bool.and_eq_true, decide_eq_true_eq, decide_eq_false_iff_not] at *; omega)) only [x_slot, x_cst, x_glob, x_fnv, x_bin, x_neg, x_not, x_cmp, x_chain, x_isN, x_notN, x_and, x_or, x_ife, x_tup, x_frz, x_mut, x_call, x_callk, x_callv, x_bi, x_split, x_join, x_index, x_append, x_ix, x_dget, x_sl, x_isi, x_dnew, x_xfld, x_tupr, x_nil, x_cons, x_onone, x_osome, x_tnone, x_tsome, x_knil, x_kcons, x_disp, x_lc, x_fsl, x_rev, x_cat, x_lis, x_val, x_rng, x_rng2, x_enum, x_zip, x_turn, x_comp, y_nil, y_cons, y_set, y_par, y_asg, y_setIx, y_setK, y_ex, y_ife, y_body, y_for, y_forW, y_turn, y_done, y_ret, y_retN, y_raise, y_pass, y_brk, y_cont, y_try, y_hs, kBin2, kBin1, kCmp2, kCmp1, kBool, kNot, kNeg, kCh3, kCh2, kCh1b, kCh1, kIsN, kNotN, kAnd, kOr, kIfe, kTup, kFrz, kMut, kCall, kCallk, kCallv, kBi, kMe2, kMe1, kAp3, kAp2, kAp1, kIx2, kIx1, kDg2, kDg1, kSl3, kSl2, kSl1, kIsi, kDnew, kTupr, kEs2, kEs1, kInt, kTst, kK4, kK3, kK2, kK1, kDisp, kLc, kFs4, kFs3, kFs2, kFs1, kRev2, kRev, kCat4, kCat3, kCat2, kCat1, kLis, kVal, kRng, kRng2b, kRng2, kEnum, kZip2, kZip1, kSome, kTn2, kTn1, jSeq, jSet, jPar, jAsg, jSx3, jSx2, jSx1, jSk3, jSk2, jSk1, jEx, jIf, jBody, jFor, jExc, bind_ok, bind_exc, bind_bad, then_ok, then_exc, then_bad, seq_next, seq_ret, seq_exc, seq_brk, seq_cont, seq_bad, optR_some, blR_some, slotR_some, condR_t, condR_f, condS_t, condS_f, condR_bl, condS_bl, join_and, join_or, bind_ite, then_ite, seq_ite, negR_int, notR_bl, boolR_bl, isNon_non, isNon_int, isNon_str, isNon_tup, isNon_lst, isNon_obj, sizR_0, sizR_1, sizR_2, sizR_3, sizR_4, sizR_5, sizR_6, sizR_7, sizR_8, sizR_ok, intR_int, tstR_bl, recvA_obj, recvL_lst, appR_obj, appL_ok, setKS_obj, setKO_str, setIxS_obj, valO_lst, valR_obj, recvS_str, xfR_ok, tuprR_int, lstR_some, valR_lst, valR_tup, valR_ktup, valR_str, rngR_int, rng2R_int, enumR_lst, zipR_lst, zipR_tup, callvR_ok, noX_ok, noX_ite, noX_f, bindT_name, bindT_tup, bindT_ktup, bindTs_nil, bindTs_cons, wipe_nil, wipe_cons, envS_some, envB_some, loop_next, loop_cont, loop_brk, loop_ret, loop_exc, loop_ite, tryS_exc, tryS_ret, tryS_next, endH_ret, retS_next, retS_ret, retS_exc, retS_ite, setAll, o_isi_int_non, o_isi_int_bl, o_isi_int_int, o_isi_int_str, o_isi_int_tup, o_isi_int_ktup, o_isi_int_lst, o_isi_str_non, o_isi_str_bl, o_isi_str_int, o_isi_str_str, o_isi_str_tup, o_isi_str_ktup, o_isi_str_lst, o_isi_bool_non, o_isi_bool_bl, o_isi_bool_int, o_isi_bool_str, o_isi_bool_tup, o_isi_bool_ktup, o_isi_bool_lst, o_isi_tuple_non, o_isi_tuple_bl, o_isi_tuple_int, o_isi_tuple_str, o_isi_tuple_tup, o_isi_tuple_ktup, o_isi_tuple_lst, o_isi_list_non, o_isi_list_bl, o_isi_list_int, o_isi_list_str, o_isi_list_tup, o_isi_list_ktup, o_isi_list_lst, o_add_ii, o_sub_ii, o_add_ss, o_add_tt, o_add_ll, o_mul_il, o_mul_ir, o_pow_ii, o_dget, dictG_str, dictG_int, keyOf_s, keyOf_i, getset, dnewR_3, o_mod_ii, o_fdiv_ii, o_eq_int, o_eq_str, o_eq_bl, o_ne_int, o_ne_str, o_ne_bl, o_lt_i, o_le_i, o_gt_i, o_ge_i, o_in_s, o_nin_s, o_eq_d, o_ne_d, o_len_s, o_len_t, o_len_kt, o_len_l, o_tup_l, o_tup_t, oTup_l, oLen_l, oIx_l, oLst_l, o_tup_o, o_len_o, o_all, o_any, o_str_i, o_int_i, o_sum, o_join, o_join_t, o_split, atI_0, atI_1, atI_2, atI_3, o_ix_t, o_ix_kt, o_ix_l, o_ix_o, o_ix_s, o_sl_s, o_sl_t, o_sl_l, o_lof_l, o_sof_l, o_sof_t, o_lof_o, List.getElem?_cons_zero, List.getElem?_cons_succ, List.set_cons_zero, List.set_cons_succ, Option.bind_some, List.length_cons, List.length_nil, if_true, if_false, Bool.not_true, Bool.not_false, Bool.and_true, Bool.true_and, Bool.and_false, Bool.false_and, Bool.or_true, Bool.true_or, Bool.or_false, Bool.false_or, Bool.not_not, ite_true, ite_false, reduceIte, Nat.reduceAdd, Int.reduceAdd, Int.reduceSub, Int.reduceMod, Int.reduceMul, Nat.reduceLT, reduceCtorEq, startD, List.map_cons, List.map_nil, List.replicate_succ, List.replicate_zero, List.cons_append, List.nil_append, Nat.reduceSub, decide_true, decide_false, true_and, and_true, eq_self, Int.reduceEq, Int.reduceNe, Int.reduceLT, Int.reduceLE, Nat.reduceEqDiff, Int.reduceToNat, Nat.reduceLeDiff, List.length_map, signs_mp, join_opt, ne_nil_s, ne_nil_i, ne_nil_n, isEmpty_filt, upto_z, compL_nil, Int.toNat_natCast, id_eq, List.length_set, cst0, cst1, cst2, cst3, cst4, cst5, cst6, ne_eq, not_true_eq_false, not_false_eq_true, isi_rowsD, isi_outsD, isi_intsD, len_rowsD, len_outsD, len_intsD, val_outsD, val_rowsD, val_intsD, isNon_rowsD, isNon_intsD, *])
theorem s_32 {n : Nat} {t : List Nat} (ht : t.length + 2 ≤ 16777216) : ∀ L, callF (evFn fs75 (n + 3)) 32 [.str t] L = .ok (catD (resM t)) L := by
  have hp : ∀ p ∈ cutAt 124 t, p.length + 2 ≤ 16777216 := fun p hp => by have := cutAt_len hp; omega
  have sp := fun L => @split_s L t 124 (by decide) ht
  unfold resM
  generalize cutAt 124 t = ps at *
  by_cases h1 : ps.length ≤ 1
  · have : ∀ L, callF (evFn fs75 (n + 3)) 32 [.str t] L = .ok (twoD cText (.str wLefts)) L := by
      refine callF_of (L1 := [.lst []]) (run_to P75_32 rfl rfl ?_) rfl rfl
      unfold P75_32 twoD
      have c : ((ps.length : Int) ≤ 1) = True := by simp; omega
      simp only [cText, wSigns, wLefts, wRights, wOuts]
      trivial
    rcases ps with _ | ⟨p0, _ | ⟨p1, ps⟩⟩
    · exact this
    · exact this
    · simp at h1
  obtain ⟨p0, p1, ps, rfl⟩ : ∃ p0 p1 r, ps = p0 :: p1 :: r := by
    rcases ps with _ | ⟨p0, _ | ⟨p1, ps⟩⟩
    · simp at h1
    · simp at h1
    · exact ⟨_, _, _, rfl⟩
  have c1 : (((ps.length + 1 + 1 : Nat) : Int) ≤ 1) = False := by simp; omega
  have a1 := fun L => okC_use (L := L) (@c_30 n p1 (hp p1 (by simp)))
  simp only [List.map_cons] at sp
  clear h1
  cases h2 : tabOK p1 with
  | false =>
    rw [h2] at a1
    have : ∀ L, callF (evFn fs75 (n + 3)) 32 [.str t] L = .ok (twoD cText (.str wLefts)) L := by
      refine callF_of (L1 := [.lst []]) (run_to P75_32 rfl rfl ?_) rfl rfl
      unfold P75_32 twoD
      simp only [cText, wSigns, wLefts, wRights, wOuts]
      simp only [Bool.false_eq_true, if_false] at a1
      trivial
    rcases ps with _ | ⟨p2, ps⟩
    · simpa [h2, catD] using this
    · simpa [h2, catD] using this
  | true =>
    rw [h2, if_pos rfl] at a1
    rcases ps with _ | ⟨p2, ps⟩
    · have : ∀ L, callF (evFn fs75 (n + 3)) 32 [.str t] L = .ok (twoD cText (.str wRights)) L := by
        refine callF_of (L1 := [.lst [rowsD (tabV p1)]]) (run_to P75_32 rfl rfl ?_) rfl rfl
        unfold P75_32 twoD
        simp only [cText, wSigns, wLefts, wRights, wOuts]
        simp only [List.length_nil, List.map_nil] at sp c1
        trivial
      simpa [h2, catD] using this
    have c2 : (((ps.length + 1 + 1 + 1 : Nat) : Int) ≤ 2) = False := by simp; omega
    have c1' : (((ps.length + 1 + 1 + 1 : Nat) : Int) ≤ 1) = False := by simp; omega
    have b1 := fun L => okC_use (L := L) (@c_30 n p2 (hp p2 (by simp)))
    simp only [List.map_cons] at sp
    clear c1
    cases h3 : tabOK p2 with
    | false =>
      rw [h3] at b1
      have : ∀ L, callF (evFn fs75 (n + 3)) 32 [.str t] L = .ok (twoD cText (.str wRights)) L := by
        refine callF_of (L1 := [.lst [rowsD (tabV p1)]]) (run_to P75_32 rfl rfl ?_) rfl rfl
        unfold P75_32 twoD
        simp only [cText, wSigns, wLefts, wRights, wOuts]
        simp only [Bool.false_eq_true, if_false] at b1
        trivial
      simpa [h2, h3, catD] using this
    | true =>
      rw [h3, if_pos rfl] at b1
      by_cases h4 : ps.length = 1
      · obtain ⟨p3, rfl⟩ : ∃ p3, ps = [p3] := by
          rcases ps with _ | ⟨p3, _ | ⟨p4, ps⟩⟩
          · simp at h4
          · exact ⟨_, rfl⟩
          · simp at h4
        clear c2 c1' h4
        have h3' := hp p3 (by simp)
        have z := szM_V (hp p0 (by simp)) (hp p1 (by simp)) (hp p2 (by simp)) (hp p3 (by simp))
        have e31 := fun L => okC_use (L := L) (@c_31 (n + 1) p0 z.zs)
        have e25 := fun L => okC_use (L := L) (@c_25 (n + 1) (tabV p1) p0 z.zs)
        have e25' := fun L => okC_use (L := L) (@c_25 (n + 1) (tabV p2) p0 z.zs)
        have e26 := @s_26 n p0 (tabV p1) (tabV p2) (outsV p3) z
        have q : ((TL.spl [59] 0 [] p3).map D.str).length ≤ 16777216 := by rw [List.length_map]; have := cutAt_num 59 p3; unfold cutAt at this; omega
        have k : compL (turnE (evFn fs75 (n + 2)) false (.bi .tuple (.cons (.meth .split (.slot 7) (.cons (.cst (.str [44])) .nil)) .nil)) (.name 7) .none [7] [some (.str t), none, some (.lst [.str p0, .str p1, .str p2, .str p3]), some (.obj 0), some (.int 2), some (.str wRights), some (rowsD (tabV p2)), none]) ((TL.spl [59] 0 [] p3).map D.str) [.lst [rowsD (tabV p1), rowsD (tabV p2)]] = .ok ((TL.spl [59] 0 [] p3).map fun x => strsD (cutAt 44 x)) [.lst [rowsD (tabV p1), rowsD (tabV p2)]] := by
          refine comp_of fun x hx => ?_
          have := @cutAt_len 59 p3 x hx
          unfold strsD cutAt
          trivial
        have hm : (D.tup ((TL.spl [59] 0 [] p3).map fun x => strsD (cutAt 44 x))) = outsD (outsV p3) := by unfold outsD outsV cutAt; rw [List.map_map]; rfl
        simp only [machD] at e26
        have res : ∀ L, callF (evFn fs75 (n + 3)) 32 [.str t] L = .ok (catD (machR p0 (tabV p1) (tabV p2) (outsV p3))) L := by
          refine callF_of (L1 := [.lst [rowsD (tabV p1), rowsD (tabV p2)]]) (run_to P75_32 rfl rfl ?_) rfl (by unfold machR; split <;> simp [catD, twoD, D.pure, purAll, machD_pure])
          unfold P75_32 machR
          simp only [cText, wSigns, wLefts, wRights, wOuts, List.map_nil] at k sp ⊢
          cases g1 : signsOK p0 with
          | false =>
            trivial
            simp [wrongM, g1, catD, twoD, cMach, wSigns]
          | true =>
            cases g2 : rowsOK (tabV p1) p0.length with
            | false =>
              trivial
              simp [wrongM, g1, g2, catD, twoD, cMach, wLefts]
            | true =>
              cases g3 : rowsOK (tabV p2) p0.length with
              | false =>
                trivial
                simp [wrongM, g1, g2, g3, catD, twoD, cMach, wRights]
              | true =>
                trivial
                by_cases g4 : (outsV p3).length = (tabV p1).length <;> cases g5 : (outsV p3).all (toldOK p0 (tabV p2).length) <;> simp [wrongM, g1, g2, g3, g4, g5, catD, twoD, cMach, cTold, wOuts, machD]
        simpa [h2, h3] using res
      · have c3 : (((ps.length + 1 + 1 + 1 : Nat) : Int) = 4) = False := by simp; omega
        have : ∀ L, callF (evFn fs75 (n + 3)) 32 [.str t] L = .ok (twoD cText (.str wOuts)) L := by
          refine callF_of (L1 := [.lst [rowsD (tabV p1), rowsD (tabV p2)]]) (run_to P75_32 rfl rfl ?_) rfl rfl
          unfold P75_32 twoD
          simp only [cText, wSigns, wLefts, wRights, wOuts]
          trivial
        rcases ps with _ | ⟨p3, _ | ⟨p4, ps⟩⟩
        · simpa [h2, h3, catD] using this
        · simp at h4
        · simpa [h2, h3, catD] using this

end EV
end

section
namespace EV
open PySem
local macro_rules | `(tactic| trivial) => `(tactic| simp (config := {contextual := true, maxSteps := 1000000, implicitDefEqProofs := false}) (disch := first | with_reducible assumption | omega | (simp only [List.length_map, List.length_set, upto_len, List.length_cons, List.length_nil, List.length_append, big, Bool.not_eq_true, Bool.not_eq_true', Bool.not_eq_false', Bool.and_eq_true, decide_eq_true_eq, decide_eq_false_iff_not] at *; omega)) only [x_slot, x_cst, x_glob, x_fnv, x_bin, x_neg, x_not, x_cmp, x_chain, x_isN, x_notN, x_and, x_or, x_ife, x_tup, x_frz, x_mut, x_call, x_callk, x_callv, x_bi, x_split, x_join, x_index, x_append, x_ix, x_dget, x_sl, x_isi, x_dnew, x_xfld, x_tupr, x_nil, x_cons, x_onone, x_osome, x_tnone, x_tsome, x_knil, x_kcons, x_disp, x_lc, x_fsl, x_rev, x_cat, x_lis, x_val, x_rng, x_rng2, x_enum, x_zip, x_turn, x_comp, y_nil, y_cons, y_set, y_par, y_asg, y_setIx, y_setK, y_ex, y_ife, y_body, y_for, y_forW, y_turn, y_done, y_ret, y_retN, y_raise, y_pass, y_brk, y_cont, y_try, y_hs, kBin2, kBin1, kCmp2, kCmp1, kBool, kNot, kNeg, kCh3, kCh2, kCh1b, kCh1, kIsN, kNotN, kAnd, kOr, kIfe, kTup, kFrz, kMut, kCall, kCallk, kCallv, kBi, kMe2, kMe1, kAp3, kAp2, kAp1, kIx2, kIx1, kDg2, kDg1, kSl3, kSl2, kSl1, kIsi, kDnew, kTupr, kEs2, kEs1, kInt, kTst, kK4, kK3, kK2, kK1, kDisp, kLc, kFs4, kFs3, kFs2, kFs1, kRev2, kRev, kCat4, kCat3, kCat2, kCat1, kLis, kVal, kRng, kRng2b, kRng2, kEnum, kZip2, kZip1, kSome, kTn2, kTn1, jSeq, jSet, jPar, jAsg, jSx3, jSx2, jSx1, jSk3, jSk2, jSk1, jEx, jIf, jBody, jFor, jExc, bind_ok, bind_exc, bind_bad, then_ok, then_exc, then_bad, seq_next, seq_ret, seq_exc, seq_brk, seq_cont, seq_bad, optR_some, blR_some, slotR_some, condR_t, condR_f, condS_t, condS_f, condR_bl, condS_bl, join_and, join_or, bind_ite, then_ite, seq_ite, negR_int, notR_bl, boolR_bl, isNon_non, isNon_int, isNon_str, isNon_tup, isNon_lst, isNon_obj, sizR_0, sizR_1, sizR_2, sizR_3, sizR_4, sizR_5, sizR_6, sizR_7, sizR_8, sizR_ok, intR_int, tstR_bl, recvA_obj, recvL_lst, appR_obj, appL_ok, setKS_obj, setKO_str, setIxS_obj, valO_lst, valR_obj, recvS_str, xfR_ok, tuprR_int, lstR_some, valR_lst, valR_tup, valR_ktup, valR_str, rngR_int, rng2R_int, enumR_lst, zipR_lst, zipR_tup, callvR_ok, noX_ok, noX_ite, noX_f, bindT_name, bindT_tup, bindT_ktup, bindTs_nil, bindTs_cons, wipe_nil, wipe_cons, envS_some, envB_some, loop_next, loop_cont, loop_brk, loop_ret, loop_exc, loop_ite, tryS_exc, tryS_ret, tryS_next, endH_ret, retS_next, retS_ret, retS_exc, retS_ite, setAll, o_isi_int_non, o_isi_int_bl, o_isi_int_int, o_isi_int_str, o_isi_int_tup, o_isi_int_ktup, o_isi_int_lst, o_isi_str_non, o_isi_str_bl, o_isi_str_int, o_isi_str_str, o_isi_str_tup, o_isi_str_ktup, o_isi_str_lst, o_isi_bool_non, o_isi_bool_bl, o_isi_bool_int, o_isi_bool_str, o_isi_bool_tup, o_isi_bool_ktup, o_isi_bool_lst, o_isi_tuple_non, o_isi_tuple_bl, o_isi_tuple_int, o_isi_tuple_str, o_isi_tuple_tup, o_isi_tuple_ktup, o_isi_tuple_lst, o_isi_list_non, o_isi_list_bl, o_isi_list_int, o_isi_list_str, o_isi_list_tup, o_isi_list_ktup, o_isi_list_lst, o_add_ii, o_sub_ii, o_add_ss, o_add_tt, o_add_ll, o_mul_il, o_mul_ir, o_pow_ii, o_dget, dictG_str, dictG_int, keyOf_s, keyOf_i, getset, dnewR_3, o_mod_ii, o_fdiv_ii, o_eq_int, o_eq_str, o_eq_bl, o_ne_int, o_ne_str, o_ne_bl, o_lt_i, o_le_i, o_gt_i, o_ge_i, o_in_s, o_nin_s, o_eq_d, o_ne_d, o_len_s, o_len_t, o_len_kt, o_len_l, o_tup_l, o_tup_t, oTup_l, oLen_l, oIx_l, oLst_l, o_tup_o, o_len_o, o_all, o_any, o_str_i, o_int_i, o_sum, o_join, o_join_t, o_split, atI_0, atI_1, atI_2, atI_3, o_ix_t, o_ix_kt, o_ix_l, o_ix_o, o_ix_s, o_sl_s, o_sl_t, o_sl_l, o_lof_l, o_sof_l, o_sof_t, o_lof_o, List.getElem?_cons_zero, List.getElem?_cons_succ, List.set_cons_zero, List.set_cons_succ, Option.bind_some, List.length_cons, List.length_nil, if_true, if_false, Bool.not_true, Bool.not_false, Bool.and_true, Bool.true_and, Bool.and_false, Bool.false_and, Bool.or_true, Bool.true_or, Bool.or_false, Bool.false_or, Bool.not_not, ite_true, ite_false, reduceIte, Nat.reduceAdd, Int.reduceAdd, Int.reduceSub, Int.reduceMod, Int.reduceMul, Nat.reduceLT, reduceCtorEq, startD, List.map_cons, List.map_nil, List.replicate_succ, List.replicate_zero, List.cons_append, List.nil_append, Nat.reduceSub, decide_true, decide_false, true_and, and_true, eq_self, Int.reduceEq, Int.reduceNe, Int.reduceLT, Int.reduceLE, Nat.reduceEqDiff, Int.reduceToNat, Nat.reduceLeDiff, List.length_map, signs_mp, join_opt, ne_nil_s, ne_nil_i, ne_nil_n, isEmpty_filt, upto_z, compL_nil, Int.toNat_natCast, id_eq, List.length_set, cst0, cst1, cst2, cst3, cst4, cst5, cst6, ne_eq, not_true_eq_false, not_false_eq_true, *])
local macro_rules | `(tactic| bv_omega) => `(tactic| (first | rfl | (simp [-List.all_eq_true] at *; done) | (simp [-List.all_eq_true] at *; omega) | (simp [-List.all_eq_true] at *; grind)))
local macro_rules | `(tactic| trivial) => `(tactic| simp (config := {contextual := true, maxSteps := 1000000, implicitDefEqProofs := false}) (disch := first | with_reducible assumption | omega | (simp only [List.length_map, List.length_set, upto_len, List.length_cons, List.length_nil, List.length_append, big, Bool.not_eq_true, Bool.not_eq_true', Bool.not_eq_false', Bool.and_eq_true, decide_eq_true_eq, decide_eq_false_iff_not] at *; omega)) only [x_slot, x_cst, x_glob, x_fnv, x_bin, x_neg, x_not, x_cmp, x_chain, x_isN, x_notN, x_and, x_or, x_ife, x_tup, x_frz, x_mut, x_call, x_callk, x_callv, x_bi, x_split, x_join, x_index, x_append, x_ix, x_dget, x_sl, x_isi, x_dnew, x_xfld, x_tupr, x_nil, x_cons, x_onone, x_osome, x_tnone, x_tsome, x_knil, x_kcons, x_disp, x_lc, x_fsl, x_rev, x_cat, x_lis, x_val, x_rng, x_rng2, x_enum, x_zip, x_turn, x_comp, y_nil, y_cons, y_set, y_par, y_asg, y_setIx, y_setK, y_ex, y_ife, y_body, y_for, y_forW, y_turn, y_done, y_ret, y_retN, y_raise, y_pass, y_brk, y_cont, y_try, y_hs, kBin2, kBin1, kCmp2, kCmp1, kBool, kNot, kNeg, kCh3, kCh2, kCh1b, kCh1, kIsN, kNotN, kAnd, kOr, kIfe, kTup, kFrz, kMut, kCall, kCallk, kCallv, kBi, kMe2, kMe1, kAp3, kAp2, kAp1, kIx2, kIx1, kDg2, kDg1, kSl3, kSl2, kSl1, kIsi, kDnew, kTupr, kEs2, kEs1, kInt, kTst, kK4, kK3, kK2, kK1, kDisp, kLc, kFs4, kFs3, kFs2, kFs1, kRev2, kRev, kCat4, kCat3, kCat2, kCat1, kLis, kVal, kRng, kRng2b, kRng2, kEnum, kZip2, kZip1, kSome, kTn2, kTn1, jSeq, jSet, jPar, jAsg, jSx3, jSx2, jSx1, jSk3, jSk2, jSk1, jEx, jIf, jBody, jFor, jExc, bind_ok, bind_exc, bind_bad, then_ok, then_exc, then_bad, seq_next, seq_ret, seq_exc, seq_brk, seq_cont, seq_bad, optR_some, blR_some, slotR_some, condR_t, condR_f, condS_t, condS_f, condR_bl, condS_bl, join_and, join_or, bind_ite, then_ite, seq_ite, negR_int, notR_bl, boolR_bl, isNon_non, isNon_int, isNon_str, isNon_tup, isNon_lst, isNon_obj, sizR_0, sizR_1, sizR_2, sizR_3, sizR_4, sizR_5, sizR_6, sizR_7, sizR_8, sizR_ok, intR_int, tstR_bl, recvA_obj, recvL_lst, appR_obj, appL_ok, setKS_obj, setKO_str, setIxS_obj, valO_lst, valR_obj, recvS_str, xfR_ok, tuprR_int, lstR_some, valR_lst, valR_tup, valR_ktup, valR_str, rngR_int, rng2R_int, enumR_lst, zipR_lst, zipR_tup, callvR_ok, noX_ok, noX_ite, noX_f, bindT_name, bindT_tup, bindT_ktup, bindTs_nil, bindTs_cons, wipe_nil, wipe_cons, envS_some, envB_some, loop_next, loop_cont, loop_brk, loop_ret, loop_exc, loop_ite, tryS_exc, tryS_ret, tryS_next, endH_ret, retS_next, retS_ret, retS_exc, retS_ite, setAll, o_isi_int_non, o_isi_int_bl, o_isi_int_int, o_isi_int_str, o_isi_int_tup, o_isi_int_ktup, o_isi_int_lst, o_isi_str_non, o_isi_str_bl, o_isi_str_int, o_isi_str_str, o_isi_str_tup, o_isi_str_ktup, o_isi_str_lst, o_isi_bool_non, o_isi_bool_bl, o_isi_bool_int, o_isi_bool_str, o_isi_bool_tup, o_isi_bool_ktup, o_isi_bool_lst, o_isi_tuple_non, o_isi_tuple_bl, o_isi_tuple_int, o_isi_tuple_str, o_isi_tuple_tup, o_isi_tuple_ktup, o_isi_tuple_lst, o_isi_list_non, o_isi_list_bl, o_isi_list_int, o_isi_list_str, o_isi_list_tup, o_isi_list_ktup, o_isi_list_lst, o_add_ii, o_sub_ii, o_add_ss, o_add_tt, o_add_ll, o_mul_il, o_mul_ir, o_pow_ii, o_dget, dictG_str, dictG_int, keyOf_s, keyOf_i, getset, dnewR_3, o_mod_ii, o_fdiv_ii, o_eq_int, o_eq_str, o_eq_bl, o_ne_int, o_ne_str, o_ne_bl, o_lt_i, o_le_i, o_gt_i, o_ge_i, o_in_s, o_nin_s, o_eq_d, o_ne_d, o_len_s, o_len_t, o_len_kt, o_len_l, o_tup_l, o_tup_t, oTup_l, oLen_l, oIx_l, oLst_l, o_tup_o, o_len_o, o_all, o_any, o_str_i, o_int_i, o_sum, o_join, o_join_t, o_split, atI_0, atI_1, atI_2, atI_3, o_ix_t, o_ix_kt, o_ix_l, o_ix_o, o_ix_s, o_sl_s, o_sl_t, o_sl_l, o_lof_l, o_sof_l, o_sof_t, o_lof_o, List.getElem?_cons_zero, List.getElem?_cons_succ, List.set_cons_zero, List.set_cons_succ, Option.bind_some, List.length_cons, List.length_nil, if_true, if_false, Bool.not_true, Bool.not_false, Bool.and_true, Bool.true_and, Bool.and_false, Bool.false_and, Bool.or_true, Bool.true_or, Bool.or_false, Bool.false_or, Bool.not_not, ite_true, ite_false, reduceIte, Nat.reduceAdd, Int.reduceAdd, Int.reduceSub, Int.reduceMod, Int.reduceMul, Nat.reduceLT, reduceCtorEq, startD, List.map_cons, List.map_nil, List.replicate_succ, List.replicate_zero, List.cons_append, List.nil_append, Nat.reduceSub, decide_true, decide_false, true_and, and_true, eq_self, Int.reduceEq, Int.reduceNe, Int.reduceLT, Int.reduceLE, Nat.reduceEqDiff, Int.reduceToNat, Nat.reduceLeDiff, List.length_map, signs_mp, join_opt, ne_nil_s, ne_nil_i, ne_nil_n, isEmpty_filt, upto_z, compL_nil, Int.toNat_natCast, id_eq, List.length_set, cst0, cst1, cst2, cst3, cst4, cst5, cst6, ne_eq, not_true_eq_false, not_false_eq_true, isi_rowsD, isi_outsD, isi_intsD, len_rowsD, len_outsD, len_intsD, val_outsD, val_rowsD, val_intsD, isNon_rowsD, isNon_intsD, *])
def okG (m : Nat) (g : List Int) (i : Nat) : Bool := decide ((g[i]?).getD 0 < (m : Int)) && (decide (i = 0) || decide ((g[i - 1]?).getD 0 < (g[i]?).getD 0))
theorem okG_all {m : Nat} {g : List Int} (h0 : ∀ x ∈ g, 0 ≤ x) : ((List.range g.length).all (okG m g)) = ((g.all fun x => decide (0 ≤ x) && decide (x < (m : Int))) && riseOK g) := by
  rw [Bool.eq_iff_iff]
  simp only [riseOK, okG, List.all_eq_true, List.mem_range, Bool.and_eq_true, Bool.or_eq_true, decide_eq_true_eq]
  constructor
  · intro h
    refine ⟨fun x hx => ⟨h0 x hx, ?_⟩, fun i hi => ?_⟩
    · obtain ⟨i, hi, rfl⟩ := List.getElem_of_mem hx
      have := (h i hi).1
      rw [List.getElem?_eq_getElem hi] at this
      exact this
    · have := (h (i + 1) (by omega)).2
      simp only [Nat.add_sub_cancel] at this
      rcases this with h | h
      · omega
      · exact h
  · rintro ⟨h1, h2⟩ i hi
    refine ⟨?_, ?_⟩
    · rw [List.getElem?_eq_getElem hi]
      exact (h1 _ (List.getElem_mem hi)).2
    · rcases i with _ | i
      · exact .inl rfl
      · exact .inr (h2 i (by omega))
theorem fin33 {n : Nat} {t p0 p1 p2 : List Nat} {l : List (List Int)} (g : List Int) (hg : g.length ≤ 16777216) : compL (turnE (evFn fs75 (n + 2)) false (.slot 5) (.name 5) (.some (.or (.cmp .ge (.ix (.slot 3) (.slot 5)) (.bi .len (.cons (.slot 2) .nil))) (.and (.cmp .gt (.slot 5) (.cst (.int 0))) (.cmp .le (.ix (.slot 3) (.slot 5)) (.ix (.slot 3) (.bin .sub (.slot 5) (.cst (.int 1)))))))) [5] [some (.str t), some (.lst [.str p0, .str p1, .str p2]), some (rowsD l), some (intsD g), none, none]) (upto 0 g.length) [] = .ok (((List.range g.length).filter fun i => !okG l.length g i).map fun i : Nat => .int (i : Int)) [] := by
  rw [upto0]
  refine comp_if (k := fun i : Nat => D.int (i : Int)) (g := fun i : Nat => D.int (i : Int)) fun i hi => ?_
  have hi := List.mem_range.mp hi
  have g1 : L2.atI (g.map D.int) (i : Int) = some (.int ((g[i]?).getD 0)) := L2.atI_nat (by rw [List.getElem?_map, List.getElem?_eq_getElem hi]; rfl)
  unfold intsD okG
  rcases i with _ | i
  · simp only [cst0] at g1
    trivial
    have e : decide ((l.length : Int) ≤ (g[0]?).getD 0) = !decide ((g[0]?).getD 0 < (l.length : Int)) := by
      rw [Bool.eq_iff_iff]
      simp only [Bool.not_eq_true', decide_eq_true_eq, decide_eq_false_iff_not]
      omega
    rw [e]
  · have g2 : L2.atI (g.map D.int) (((i + 1 : Nat) : Int) - 1) = some (.int ((g[i]?).getD 0)) := by
      rw [show ((i + 1 : Nat) : Int) - 1 = (i : Int) from by omega]
      exact L2.atI_nat (by rw [List.getElem?_map, List.getElem?_eq_getElem (show i < g.length by omega)]; rfl)
    have g3 : ((0 : Int) < ((i + 1 : Nat) : Int)) = True := by simp <;> omega
    trivial
    have e : (decide ((l.length : Int) ≤ (g[i + 1]?).getD 0) || decide ((g[i + 1]?).getD 0 ≤ (g[i]?).getD 0)) = !(decide ((g[i + 1]?).getD 0 < (l.length : Int)) && decide ((g[i + 1 - 1]?).getD 0 < (g[i + 1]?).getD 0)) := by
      rw [Nat.add_sub_cancel, Bool.eq_iff_iff]
      simp only [Bool.or_eq_true, Bool.not_eq_true', Bool.and_eq_false_iff, decide_eq_true_eq, decide_eq_false_iff_not]
      omega
    rw [e]
theorem s_33 {n : Nat} {t : List Nat} (ht : t.length + 2 ≤ 16777216) : ∀ L, callF (evFn fs75 (n + 3)) 33 [.str t] L = .ok (catD (resG t)) L := by
  have hp : ∀ p ∈ cutAt 124 t, p.length + 2 ≤ 16777216 := fun p hp => by have := cutAt_len hp; omega
  have sp := fun L => @split_s L t 124 (by decide) ht
  unfold resG
  generalize cutAt 124 t = ps at *
  by_cases h1 : ps.length ≤ 1
  · have : ∀ L, callF (evFn fs75 (n + 3)) 33 [.str t] L = .ok (twoD cText (.str wRows)) L := by
      refine callF_of (L1 := []) (run_to P75_33 rfl rfl ?_) rfl rfl
      unfold P75_33 twoD
      have c : ((ps.length : Int) < 2) = True := by simp; omega
      simp only [cText, wSigns, wRows, wGood]
      trivial
    rcases ps with _ | ⟨p0, _ | ⟨p1, ps⟩⟩
    · exact this
    · exact this
    · simp at h1
  obtain ⟨p0, p1, ps, rfl⟩ : ∃ p0 p1 r, ps = p0 :: p1 :: r := by
    rcases ps with _ | ⟨p0, _ | ⟨p1, ps⟩⟩
    · simp at h1
    · simp at h1
    · exact ⟨_, _, _, rfl⟩
  have c1 : (((ps.length + 1 + 1 : Nat) : Int) < 2) = False := by simp; omega
  have a1 := fun L => okC_use (L := L) (@c_30 n p1 (hp p1 (by simp)))
  simp only [List.map_cons] at sp
  clear h1
  cases h2 : tabOK p1 with
  | false =>
    rw [h2] at a1
    have : ∀ L, callF (evFn fs75 (n + 3)) 33 [.str t] L = .ok (twoD cText (.str wRows)) L := by
      refine callF_of (L1 := []) (run_to P75_33 rfl rfl ?_) rfl rfl
      unfold P75_33 twoD
      simp only [cText, wSigns, wRows, wGood]
      simp only [Bool.false_eq_true, if_false] at a1
      trivial
    simpa [h2, catD] using this
  | true =>
    rw [h2, if_pos rfl] at a1
    by_cases h4 : ps.length = 1
    · obtain ⟨p2, rfl⟩ : ∃ p2, ps = [p2] := by
        rcases ps with _ | ⟨p2, _ | ⟨p4, ps⟩⟩
        · simp at h4
        · exact ⟨_, rfl⟩
        · simp at h4
      clear c1 h4
      have z1 : SzG p0 (tabV p1) [] := ⟨by have := hp p0 (by simp); omega, by have := tabV_len p1; have := hp p1 (by simp); omega, by simp, fun x hx => by have := tabV_row x hx; have := hp p1 (by simp); omega⟩
      have zs := z1.zs
      have e31 := fun L => okC_use (L := L) (@c_31 (n + 1) p0 zs)
      have e25 := fun L => okC_use (L := L) (@c_25 (n + 1) (tabV p1) p0 zs)
      have b1 := fun L => okC_use (L := L) (@c_29 (n + 1) p2 (hp p2 (by simp)))
      have fin := fun g hg => @fin33 n t p0 p1 p2 (tabV p1) g hg
      have done : ∀ (g : List Int) , (∀ x ∈ g, 0 ≤ x) → ((List.range g.length).all (okG (tabV p1).length g)) = ((g.all fun x => decide (0 ≤ x) && decide (x < ((tabV p1).length : Int))) && riseOK g) := fun g h0 => okG_all h0
      simp only [List.map_cons, List.map_nil] at sp
      by_cases h5 : p2 = []
      · subst h5
        have f0 := fin [] (by simp)
        have res : ∀ L, callF (evFn fs75 (n + 3)) 33 [.str t] L = .ok (catD (guardR p0 (tabV p1) [])) L := by
          refine callF_of (L1 := []) (run_to P75_33 rfl rfl ?_) rfl (by unfold guardR; split <;> simp [catD, twoD, D.pure, purAll, guardD_pure])
          unfold P75_33 guardR
          cases g1 : signsOK p0 with
          | false =>
            trivial
            simp [wrongG, g1, catD, twoD, cGuard, wSigns]
          | true =>
            cases g2 : rowsOK (tabV p1) p0.length with
            | false =>
              trivial
              simp [wrongG, g1, g2, catD, twoD, cGuard, wRows]
            | true =>
              trivial
              simp [wrongG, g1, g2, catD, twoD, cTold, guardD, intsD, riseOK]
        simpa [h2] using res
      · cases h3 : numsOK p2 with
        | false =>
          rw [h3] at b1
          simp only [Bool.false_eq_true, if_false] at b1
          have : ∀ L, callF (evFn fs75 (n + 3)) 33 [.str t] L = .ok (twoD cText (.str wGood)) L := by
            refine callF_of (L1 := []) (run_to P75_33 rfl rfl ?_) rfl rfl
            unfold P75_33 twoD
            simp only [cText, wSigns, wRows, wGood]
            trivial
          simpa [h2, h3, h5, catD] using this
        | true =>
          rw [h3, if_pos rfl] at b1
          have hl : (numsV p2).length ≤ 16777216 := by have := numsV_len p2; have := hp p2 (by simp); omega
          have f0 := fin (numsV p2) hl
          have d0 := done (numsV p2) (fun x hx => by
            obtain ⟨w, hw, rfl⟩ := List.mem_map.mp hx
            exact Int.natCast_nonneg _)
          have res : ∀ L, callF (evFn fs75 (n + 3)) 33 [.str t] L = .ok (catD (guardR p0 (tabV p1) (numsV p2))) L := by
            refine callF_of (L1 := []) (run_to P75_33 rfl rfl ?_) rfl (by unfold guardR; split <;> simp [catD, twoD, D.pure, purAll, guardD_pure])
            unfold P75_33 guardR
            cases g1 : signsOK p0 with
            | false =>
              trivial
              simp [wrongG, g1, catD, twoD, cGuard, wSigns]
            | true =>
              cases g2 : rowsOK (tabV p1) p0.length with
              | false =>
                trivial
                simp [wrongG, g1, g2, catD, twoD, cGuard, wRows]
              | true =>
                trivial
                cases g4 : ((numsV p2).all fun x => decide (0 ≤ x) && decide (x < ((tabV p1).length : Int))) <;> cases g5 : riseOK (numsV p2) <;> simp [wrongG, g1, g2, g4, g5, catD, twoD, cGuard, cTold, wGood, guardD]
          simpa [h2, h3, h5] using res
    · have c3 : (((ps.length + 1 + 1 : Nat) : Int) = 3) = False := by simp; omega
      have : ∀ L, callF (evFn fs75 (n + 3)) 33 [.str t] L = .ok (twoD cText (.str wGood)) L := by
        refine callF_of (L1 := []) (run_to P75_33 rfl rfl ?_) rfl rfl
        unfold P75_33 twoD
        simp only [cText, wSigns, wRows, wGood]
        trivial
      rcases ps with _ | ⟨p3, _ | ⟨p4, ps⟩⟩
      · simpa [h2, catD] using this
      · simp at h4
      · simpa [h2, catD] using this

end EV
end

section
namespace EV
open PySem
local macro_rules | `(tactic| trivial) => `(tactic| simp (config := {contextual := true, maxSteps := 1000000, implicitDefEqProofs := false}) (disch := first | with_reducible assumption | omega | (simp only [List.length_map, List.length_set, upto_len, List.length_cons, List.length_nil, List.length_append, big, Bool.not_eq_true, Bool.not_eq_true', Bool.not_eq_false', Bool.and_eq_true, decide_eq_true_eq, decide_eq_false_iff_not] at *; omega)) only [x_slot, x_cst, x_glob, x_fnv, x_bin, x_neg, x_not, x_cmp, x_chain, x_isN, x_notN, x_and, x_or, x_ife, x_tup, x_frz, x_mut, x_call, x_callk, x_callv, x_bi, x_split, x_join, x_index, x_append, x_ix, x_dget, x_sl, x_isi, x_dnew, x_xfld, x_tupr, x_nil, x_cons, x_onone, x_osome, x_tnone, x_tsome, x_knil, x_kcons, x_disp, x_lc, x_fsl, x_rev, x_cat, x_lis, x_val, x_rng, x_rng2, x_enum, x_zip, x_turn, x_comp, y_nil, y_cons, y_set, y_par, y_asg, y_setIx, y_setK, y_ex, y_ife, y_body, y_for, y_forW, y_turn, y_done, y_ret, y_retN, y_raise, y_pass, y_brk, y_cont, y_try, y_hs, kBin2, kBin1, kCmp2, kCmp1, kBool, kNot, kNeg, kCh3, kCh2, kCh1b, kCh1, kIsN, kNotN, kAnd, kOr, kIfe, kTup, kFrz, kMut, kCall, kCallk, kCallv, kBi, kMe2, kMe1, kAp3, kAp2, kAp1, kIx2, kIx1, kDg2, kDg1, kSl3, kSl2, kSl1, kIsi, kDnew, kTupr, kEs2, kEs1, kInt, kTst, kK4, kK3, kK2, kK1, kDisp, kLc, kFs4, kFs3, kFs2, kFs1, kRev2, kRev, kCat4, kCat3, kCat2, kCat1, kLis, kVal, kRng, kRng2b, kRng2, kEnum, kZip2, kZip1, kSome, kTn2, kTn1, jSeq, jSet, jPar, jAsg, jSx3, jSx2, jSx1, jSk3, jSk2, jSk1, jEx, jIf, jBody, jFor, jExc, bind_ok, bind_exc, bind_bad, then_ok, then_exc, then_bad, seq_next, seq_ret, seq_exc, seq_brk, seq_cont, seq_bad, optR_some, blR_some, slotR_some, condR_t, condR_f, condS_t, condS_f, condR_bl, condS_bl, join_and, join_or, bind_ite, then_ite, seq_ite, negR_int, notR_bl, boolR_bl, isNon_non, isNon_int, isNon_str, isNon_tup, isNon_lst, isNon_obj, sizR_0, sizR_1, sizR_2, sizR_3, sizR_4, sizR_5, sizR_6, sizR_7, sizR_8, sizR_ok, intR_int, tstR_bl, recvA_obj, recvL_lst, appR_obj, appL_ok, setKS_obj, setKO_str, setIxS_obj, valO_lst, valR_obj, recvS_str, xfR_ok, tuprR_int, lstR_some, valR_lst, valR_tup, valR_ktup, valR_str, rngR_int, rng2R_int, enumR_lst, zipR_lst, zipR_tup, callvR_ok, noX_ok, noX_ite, noX_f, bindT_name, bindT_tup, bindT_ktup, bindTs_nil, bindTs_cons, wipe_nil, wipe_cons, envS_some, envB_some, loop_next, loop_cont, loop_brk, loop_ret, loop_exc, loop_ite, tryS_exc, tryS_ret, tryS_next, endH_ret, retS_next, retS_ret, retS_exc, retS_ite, setAll, o_isi_int_non, o_isi_int_bl, o_isi_int_int, o_isi_int_str, o_isi_int_tup, o_isi_int_ktup, o_isi_int_lst, o_isi_str_non, o_isi_str_bl, o_isi_str_int, o_isi_str_str, o_isi_str_tup, o_isi_str_ktup, o_isi_str_lst, o_isi_bool_non, o_isi_bool_bl, o_isi_bool_int, o_isi_bool_str, o_isi_bool_tup, o_isi_bool_ktup, o_isi_bool_lst, o_isi_tuple_non, o_isi_tuple_bl, o_isi_tuple_int, o_isi_tuple_str, o_isi_tuple_tup, o_isi_tuple_ktup, o_isi_tuple_lst, o_isi_list_non, o_isi_list_bl, o_isi_list_int, o_isi_list_str, o_isi_list_tup, o_isi_list_ktup, o_isi_list_lst, o_add_ii, o_sub_ii, o_add_ss, o_add_tt, o_add_ll, o_mul_il, o_mul_ir, o_pow_ii, o_dget, dictG_str, dictG_int, keyOf_s, keyOf_i, getset, dnewR_3, o_mod_ii, o_fdiv_ii, o_eq_int, o_eq_str, o_eq_bl, o_ne_int, o_ne_str, o_ne_bl, o_lt_i, o_le_i, o_gt_i, o_ge_i, o_in_s, o_nin_s, o_eq_d, o_ne_d, o_len_s, o_len_t, o_len_kt, o_len_l, o_tup_l, o_tup_t, oTup_l, oLen_l, oIx_l, oLst_l, o_tup_o, o_len_o, o_all, o_any, o_str_i, o_int_i, o_sum, o_join, o_join_t, o_split, atI_0, atI_1, atI_2, atI_3, o_ix_t, o_ix_kt, o_ix_l, o_ix_o, o_ix_s, o_sl_s, o_sl_t, o_sl_l, o_lof_l, o_sof_l, o_sof_t, o_lof_o, List.getElem?_cons_zero, List.getElem?_cons_succ, List.set_cons_zero, List.set_cons_succ, Option.bind_some, List.length_cons, List.length_nil, if_true, if_false, Bool.not_true, Bool.not_false, Bool.and_true, Bool.true_and, Bool.and_false, Bool.false_and, Bool.or_true, Bool.true_or, Bool.or_false, Bool.false_or, Bool.not_not, ite_true, ite_false, reduceIte, Nat.reduceAdd, Int.reduceAdd, Int.reduceSub, Int.reduceMod, Int.reduceMul, Nat.reduceLT, reduceCtorEq, startD, List.map_cons, List.map_nil, List.replicate_succ, List.replicate_zero, List.cons_append, List.nil_append, Nat.reduceSub, decide_true, decide_false, true_and, and_true, eq_self, Int.reduceEq, Int.reduceNe, Int.reduceLT, Int.reduceLE, Nat.reduceEqDiff, Int.reduceToNat, Nat.reduceLeDiff, List.length_map, signs_mp, join_opt, ne_nil_s, ne_nil_i, ne_nil_n, isEmpty_filt, upto_z, compL_nil, Int.toNat_natCast, id_eq, List.length_set, cst0, cst1, cst2, cst3, cst4, cst5, cst6, ne_eq, not_true_eq_false, not_false_eq_true, *])
local macro_rules | `(tactic| bv_omega) => `(tactic| (first | rfl | (simp [-List.all_eq_true] at *; done) | (simp [-List.all_eq_true] at *; omega) | (simp [-List.all_eq_true] at *; grind)))
/-! ### what is written reads back -/
theorem mem_joinL {c : Nat} {S : List Nat} : ∀ {ps : List (List Nat)}, c ∈ TL.joinL S ps → c ∈ S ∨ ∃ p ∈ ps, c ∈ p
  | [], h => by simp [TL.joinL] at h
  | [a], h => .inr ⟨a, by simp, by simpa [TL.joinL] using h⟩
  | a :: b :: r, h => by
    unfold TL.joinL at h
    rcases List.mem_append.mp h with h | h
    · exact .inr ⟨a, by simp, h⟩
    · rcases List.mem_append.mp h with h | h
      · exact .inl h
      · rcases mem_joinL h with h | ⟨p, hp, h⟩
        · exact .inl h
        · exact .inr ⟨p, List.mem_cons_of_mem _ hp, h⟩
theorem cut_join {c : Nat} {ps : List (List Nat)} (hn : ps ≠ []) (h : ∀ p ∈ ps, c ∉ p) : cutAt c (TL.joinL [c] ps) = ps := TL.spl_join hn h
theorem numT_free {c : Nat} (h : c < 48 ∨ 57 < c) (x : Int) : c ∉ numT x := TL.numL_free h
theorem rowT_free {c : Nat} (h : c < 48 ∨ 57 < c) (h2 : c ≠ 44) (r : List Int) : c ∉ rowT r := fun hm => by
  rcases mem_joinL hm with h' | ⟨p, hp, h'⟩
  · simp at h'; exact h2 h'
  · obtain ⟨x, _, rfl⟩ := List.mem_map.mp hp
    exact numT_free h x h'
theorem tabT_free {c : Nat} (h : c < 48 ∨ 57 < c) (h2 : c ≠ 44) (h3 : c ≠ 59) (l : List (List Int)) : c ∉ tabT l := fun hm => by
  rcases mem_joinL hm with h' | ⟨p, hp, h'⟩
  · simp at h'; exact h3 h'
  · obtain ⟨x, _, rfl⟩ := List.mem_map.mp hp
    exact rowT_free h h2 x h'
theorem outsT_free {c : Nat} {o : List (List (List Nat))} (h2 : c ≠ 44) (h3 : c ≠ 59) (h : ∀ x ∈ o, ∀ t ∈ x, c ∉ t) : c ∉ outsT o := fun hm => by
  rcases mem_joinL hm with h' | ⟨p, hp, h'⟩
  · simp at h'; exact h3 h'
  · obtain ⟨x, hx, rfl⟩ := List.mem_map.mp hp
    rcases mem_joinL h' with h' | ⟨p, hp, h'⟩
    · simp at h'; exact h2 h'
    · exact h x hx p hp h'
theorem numOK_numT {x : Int} (h : 0 ≤ x ∧ x < 60) : numOK (numT x) = true := by
  obtain ⟨n, rfl⟩ := Int.eq_ofNat_of_zero_le h.1
  have hn : n < 60 := by omega
  unfold numT
  rw [Int.toNat_natCast]
  by_cases h1 : n < 10
  · rw [TL.numL_lt h1]
    simp only [numOK, List.length_cons, List.length_nil, List.all_cons, List.all_nil, dig_iff, List.headD_cons]
    by_cases h0 : n = 0
    · subst h0; rfl
    · have : (48 + n = 48) = False := by simp; omega
      simp [this]
      omega
  · rw [TL.numL_step (by omega), TL.numL_lt (by omega)]
    simp only [numOK, List.cons_append, List.nil_append, List.length_cons, List.length_nil, List.all_cons, List.all_nil, dig_iff, List.headD_cons]
    have : (48 + n / 10 = 48) = False := by simp; omega
    simp [this]
    omega
theorem numV_numT {x : Int} (h : 0 ≤ x) : numV (numT x) = x := by
  obtain ⟨n, rfl⟩ := Int.eq_ofNat_of_zero_le h
  unfold numV numT
  rw [Int.toNat_natCast, TL.numL_val]
theorem row_back {r : List Int} (h : smallR r) (hn : r ≠ []) : numsOK (rowT r) = true ∧ numsV (rowT r) = r := by
  have hc : cutAt 44 (rowT r) = r.map numT := cut_join (by simpa using hn) fun p hp => by
    obtain ⟨x, _, rfl⟩ := List.mem_map.mp hp
    exact numT_free (by decide) x
  unfold numsOK numsV
  rw [hc]
  constructor
  · rw [List.all_map, List.all_eq_true]
    exact fun x hx => numOK_numT (h.2 x hx)
  · rw [List.map_map]
    conv => rhs; rw [← List.map_id r]
    exact List.map_congr_left fun x hx => numV_numT (h.2 x hx).1
theorem tab_back {l : List (List Int)} (h : smallL l) (hn : l ≠ []) (hr : ∀ r ∈ l, r ≠ []) : tabOK (tabT l) = true ∧ tabV (tabT l) = l := by
  have hc : cutAt 59 (tabT l) = l.map rowT := cut_join (by simpa using hn) fun p hp => by
    obtain ⟨x, _, rfl⟩ := List.mem_map.mp hp
    exact rowT_free (by decide) (by decide) x
  unfold tabOK tabV
  rw [hc]
  constructor
  · rw [List.all_map, List.all_eq_true]
    exact fun x hx => (row_back (h.2 x hx) (hr x hx)).1
  · rw [List.map_map]
    conv => rhs; rw [← List.map_id l]
    exact List.map_congr_left fun x hx => (row_back (h.2 x hx) (hr x hx)).2
theorem outs_back {o : List (List (List Nat))} (hn : o ≠ []) (hr : ∀ x ∈ o, x ≠ []) (h4 : ∀ x ∈ o, ∀ t ∈ x, 44 ∉ t) (h5 : ∀ x ∈ o, ∀ t ∈ x, 59 ∉ t) : outsV (outsT o) = o := by
  have hc : cutAt 59 (outsT o) = o.map (TL.joinL [44]) := cut_join (by simpa using hn) fun p hp hm => by
    obtain ⟨x, hx, rfl⟩ := List.mem_map.mp hp
    rcases mem_joinL hm with h' | ⟨p, hp, h'⟩
    · simp at h'
    · exact h5 x hx p hp h'
  unfold outsV
  rw [hc, List.map_map]
  conv => rhs; rw [← List.map_id o]
  exact List.map_congr_left fun x hx => cut_join (hr x hx) (h4 x hx)
/-- what a drawn machine is -/
structure MachOK (s : List Nat) (l r : List (List Int)) (o : List (List (List Nat))) : Prop where
  s1 : 2 ≤ s.length
  s2 : s.length ≤ 8
  s3 : s.Nodup
  s4 : ∀ c ∈ s, c ∈ ev8
  l1 : 0 < l.length
  l2 : l.length ≤ 60
  l3 : ∀ x ∈ l, x.length = s.length ∧ ∀ y ∈ x, 0 ≤ y ∧ y < (l.length : Int)
  r1 : 0 < r.length
  r2 : r.length ≤ 60
  r3 : ∀ x ∈ r, x.length = s.length ∧ ∀ y ∈ x, 0 ≤ y ∧ y < (r.length : Int)
  o1 : o.length = l.length
  o2 : ∀ x ∈ o, RowOK s r.length x
theorem signsOK_of {s : List Nat} (h1 : 2 ≤ s.length) (h2 : s.length ≤ 8) (h3 : s.Nodup) (h4 : ∀ c ∈ s, c ∈ ev8) : signsOK s = true := by
  have hall : ∀ c ∈ ev8, c ∈ ALL := by decide
  unfold signsOK setB
  simp only [h1, h2, decide_true, Bool.true_and, Bool.and_eq_true, Bool.not_eq_true', decide_eq_false_iff_not, List.all_eq_true, List.mem_range]
  refine ⟨fun e => by rw [e] at h1; simp at h1, fun i hi => ?_⟩
  rw [List.getElem?_eq_getElem hi]
  simp only [Bool.and_eq_true, decide_eq_true_eq, Bool.not_eq_true', decide_eq_false_iff_not]
  refine ⟨hall _ (h4 _ (List.getElem_mem hi)), fun hm => ?_⟩
  obtain ⟨j, hj, e⟩ := List.getElem_of_mem hm
  rw [List.length_take] at hj
  rw [List.getElem_take] at e
  have := (List.getElem_inj h3).mp e
  omega
theorem rowsOK_of {l : List (List Int)} {m : Nat} (h1 : 0 < l.length) (h2 : l.length ≤ 60) (h3 : ∀ x ∈ l, x.length = m ∧ ∀ y ∈ x, 0 ≤ y ∧ y < (l.length : Int)) : rowsOK l m = true := by
  unfold rowsOK rowOK
  simp only [Bool.and_eq_true, decide_eq_true_eq, List.all_eq_true]
  exact ⟨⟨h1, h2⟩, fun x hx => ⟨(h3 x hx).1, fun y hy => (h3 x hx).2 y hy⟩⟩
theorem smallL_of {l : List (List Int)} {m : Nat} (hm : m ≤ 60) (h2 : l.length ≤ 60) (h3 : ∀ x ∈ l, x.length = m ∧ ∀ y ∈ x, 0 ≤ y ∧ y < (l.length : Int)) : smallL l := ⟨h2, fun x hx => ⟨by rw [(h3 x hx).1]; exact hm, fun y hy => ⟨((h3 x hx).2 y hy).1, by have := ((h3 x hx).2 y hy).2; omega⟩⟩⟩
theorem smallO_of {s : List Nat} {m : Nat} {o : List (List (List Nat))} (hs : s.length ≤ 8) (hm : m ≤ 60) (h1 : o.length ≤ 60) (h2 : ∀ x ∈ o, RowOK s m x) : smallO o := ⟨h1, fun x hx => ⟨by rw [(h2 x hx).1]; exact hs, fun t ht => by rw [((h2 x hx).2 t ht).1]; exact hm⟩⟩
theorem MachOK.wrong {s : List Nat} {l r : List (List Int)} {o : List (List (List Nat))} (h : MachOK s l r o) : wrongM s l r o = [] := by
  have ht : o.all (toldOK s r.length) = true := by
    rw [List.all_eq_true]
    intro x hx
    obtain ⟨a, b⟩ := h.o2 x hx
    unfold toldOK
    simp only [Bool.and_eq_true, decide_eq_true_eq, List.all_eq_true]
    exact ⟨a, fun t ht => ⟨(b t ht).1, (b t ht).2⟩⟩
  unfold wrongM
  rw [signsOK_of h.s1 h.s2 h.s3 h.s4, rowsOK_of h.l1 h.l2 h.l3, rowsOK_of h.r1 h.r2 h.r3, ht, h.o1]
  simp
theorem MachOK.back {s : List Nat} {l r : List (List Int)} {o : List (List (List Nat))} (h : MachOK s l r o) : resM (machT s l r o) = .ok (machD s l r o) := by
  have e8 : ∀ c ∈ ev8, c ≠ 124 ∧ c ≠ 59 ∧ c ≠ 44 := by decide
  have hl := smallL_of (by have := h.s2; omega) h.l2 h.l3
  have hr := smallL_of (by have := h.s2; omega) h.r2 h.r3
  have hs2 := h.s1
  have no : ∀ (k : Nat), (∀ c ∈ ev8, c ≠ k) → ∀ x ∈ o, ∀ t ∈ x, k ∉ t := fun k hk x hx t ht hm => hk k (h.s4 k (((h.o2 x hx).2 t ht).2 k hm)) rfl
  have hc : cutAt 124 (machT s l r o) = [s, tabT l, tabT r, outsT o] := cut_join (by simp) fun p hp => by
    simp only [List.mem_cons, List.not_mem_nil, or_false] at hp
    rcases hp with rfl | rfl | rfl | rfl
    · exact fun hm => (e8 _ (h.s4 _ hm)).1 rfl
    · exact tabT_free (by decide) (by decide) (by decide) l
    · exact tabT_free (by decide) (by decide) (by decide) r
    · exact outsT_free (by decide) (by decide) (no 124 fun c hc => (e8 c hc).1)
  have ne : ∀ {α : Type} {x : List α}, x.length = s.length → x ≠ [] := fun e1 e2 => by rw [e2] at e1; simp at e1; omega
  obtain ⟨a1, a2⟩ := tab_back hl (fun e => by have := h.l1; rw [e] at this; simp at this) fun x hx => ne (h.l3 x hx).1
  obtain ⟨b1, b2⟩ := tab_back hr (fun e => by have := h.r1; rw [e] at this; simp at this) fun x hx => ne (h.r3 x hx).1
  have c1 := outs_back (o := o) (fun e => by have := h.l1; rw [← h.o1, e] at this; simp at this) (fun x hx => ne (h.o2 x hx).1) (no 44 fun c hc => (e8 c hc).2.2) (no 59 fun c hc => (e8 c hc).2.1)
  unfold resM
  rw [hc]
  simp only [a1, b1, a2, b2, c1, machR, h.wrong]
  simp
structure GuardOK (s : List Nat) (l : List (List Int)) (g : List Int) : Prop where
  s1 : 2 ≤ s.length
  s2 : s.length ≤ 8
  s3 : s.Nodup
  s4 : ∀ c ∈ s, c ∈ ev8
  l1 : 0 < l.length
  l2 : l.length ≤ 60
  l3 : ∀ x ∈ l, x.length = s.length ∧ ∀ y ∈ x, 0 ≤ y ∧ y < (l.length : Int)
  g1 : ∃ js : List Nat, js.Sublist (List.range l.length) ∧ g = js.map fun j : Nat => (j : Int)
theorem GuardOK.gs {s : List Nat} {l : List (List Int)} {g : List Int} (h : GuardOK s l g) : smallR g ∧ (∀ x ∈ g, 0 ≤ x ∧ x < (l.length : Int)) ∧ riseOK g = true := by
  obtain ⟨js, hs, rfl⟩ := h.g1
  have hl := h.l2
  have m : ∀ x ∈ js.map (fun j : Nat => (j : Int)), 0 ≤ x ∧ x < (l.length : Int) := fun x hx => by
    obtain ⟨j, hj, rfl⟩ := List.mem_map.mp hx
    have := List.mem_range.mp (hs.subset hj)
    omega
  refine ⟨⟨?_, fun x hx => ⟨(m x hx).1, by have := (m x hx).2; omega⟩⟩, m, ?_⟩
  · rw [List.length_map]
    have := hs.length_le
    rw [List.length_range] at this
    omega
  · have pw : js.Pairwise (· < ·) := (List.pairwise_lt_range).sublist hs
    unfold riseOK
    rw [List.all_eq_true]
    intro i hi
    rw [List.length_map] at hi
    have hi := List.mem_range.mp hi
    rw [List.getElem?_map, List.getElem?_map, List.getElem?_eq_getElem (show i < js.length by omega), List.getElem?_eq_getElem (show i + 1 < js.length by omega)]
    have := (List.pairwise_iff_getElem.mp pw) i (i + 1) (by omega) (by omega) (by omega)
    simp only [Option.map_some, Option.getD_some, decide_eq_true_eq]
    omega
theorem GuardOK.wrong {s : List Nat} {l : List (List Int)} {g : List Int} (h : GuardOK s l g) : wrongG s l g = [] := by
  obtain ⟨_, a, b⟩ := h.gs
  have ha : (g.all fun x => decide (0 ≤ x) && decide (x < (l.length : Int))) = true := by
    rw [List.all_eq_true]
    intro x hx
    have := a x hx
    simp only [Bool.and_eq_true, decide_eq_true_eq]
    exact this
  unfold wrongG
  rw [signsOK_of h.s1 h.s2 h.s3 h.s4, rowsOK_of h.l1 h.l2 h.l3, ha, b]
  simp
theorem GuardOK.back {s : List Nat} {l : List (List Int)} {g : List Int} (h : GuardOK s l g) : resG (guardT s l g) = .ok (guardD s l g) := by
  have e8 : ∀ c ∈ ev8, c ≠ 124 ∧ c ≠ 59 ∧ c ≠ 44 := by decide
  have hl := smallL_of (by have := h.s2; omega) h.l2 h.l3
  have hs2 := h.s1
  obtain ⟨sg, _, _⟩ := h.gs
  have hc : cutAt 124 (guardT s l g) = [s, tabT l, rowT g] := cut_join (by simp) fun p hp => by
    simp only [List.mem_cons, List.not_mem_nil, or_false] at hp
    rcases hp with rfl | rfl | rfl
    · exact fun hm => (e8 _ (h.s4 _ hm)).1 rfl
    · exact tabT_free (by decide) (by decide) (by decide) l
    · exact rowT_free (by decide) (by decide) g
  have ne : ∀ {α : Type} {x : List α}, x.length = s.length → x ≠ [] := fun e1 e2 => by rw [e2] at e1; simp at e1; omega
  obtain ⟨a1, a2⟩ := tab_back hl (fun e => by have := h.l1; rw [e] at this; simp at this) fun x hx => ne (h.l3 x hx).1
  unfold resG
  rw [hc]
  by_cases hg : g = []
  · subst hg
    have : rowT [] = [] := rfl
    simp only [this, a1, a2, guardR, h.wrong]
    simp
  · obtain ⟨b1, b2⟩ := row_back sg hg
    have hne : rowT g ≠ [] := fun e => by
      rw [e] at b1
      exact absurd b1 (by decide)
    simp only [a1, a2, b1, b2, guardR, h.wrong, hne]
    simp
mutual
theorem eqv_self : ∀ (n : Nat) (d : D), d.shp n = true → d.eqv d = true
  | _, .non, _ => by simp [D.eqv]
  | _, .bl b, _ => by simp [D.eqv]
  | _, .int i, _ => by simp [D.eqv]
  | _, .str s, _ => by simp [D.eqv]
  | 0, .tup ds, h => by simp [D.shp] at h
  | 0, .lst ds, h => by simp [D.shp] at h
  | 0, .ktup ds, h => by simp [D.shp] at h
  | n + 1, .tup ds, h => by
    have := eqvAll_self n ds (by simpa [D.shp] using h)
    simpa [D.eqv] using this
  | n + 1, .lst ds, h => by
    have := eqvAll_self n ds (by simpa [D.shp] using h)
    simpa [D.eqv] using this
  | n + 1, .ktup ds, h => by
    have := eqvAll_self n ds (by simpa [D.shp] using h)
    simpa [D.eqv] using this
  | _, .obj _, h => by simp [D.shp] at h
  | _, .fn _, h => by simp [D.shp] at h
  | _, .exn _ _, h => by simp [D.shp] at h
theorem eqvAll_self : ∀ (n : Nat) (ds : List D), shpAll n ds = true → eqvAll ds ds = true
  | _, [], _ => by simp [eqvAll]
  | n, d :: ds, h => by
    simp only [shpAll, Bool.and_eq_true] at h
    simp only [eqvAll, Bool.and_eq_true]
    exact ⟨eqv_self n d h.1, eqvAll_self n ds h.2⟩
end
theorem ne_self {L : Store} {d : D} (h : d.shp 64 = true) : cmpV L .ne d d = some false := by
  rw [o_ne_d h h, eqv_self 64 d h]; rfl
theorem eq_self_d {L : Store} {d : D} (h : d.shp 64 = true) : cmpV L .eq d d = some true := by
  rw [o_eq_d h h, eqv_self 64 d h]

end EV
end

section
namespace EV
open PySem
local macro_rules | `(tactic| trivial) => `(tactic| simp (config := {contextual := true, maxSteps := 1000000, implicitDefEqProofs := false}) (disch := first | with_reducible assumption | omega | (simp only [List.length_map, List.length_set, upto_len, List.length_cons, List.length_nil, List.length_append, big, Bool.not_eq_true, Bool.not_eq_true', Bool.not_eq_false', Bool.and_eq_true, decide_eq_true_eq, decide_eq_false_iff_not] at *; omega)) only [x_slot, x_cst, x_glob, x_fnv, x_bin, x_neg, x_not, x_cmp, x_chain, x_isN, x_notN, x_and, x_or, x_ife, x_tup, x_frz, x_mut, x_call, x_callk, x_callv, x_bi, x_split, x_join, x_index, x_append, x_ix, x_dget, x_sl, x_isi, x_dnew, x_xfld, x_tupr, x_nil, x_cons, x_onone, x_osome, x_tnone, x_tsome, x_knil, x_kcons, x_disp, x_lc, x_fsl, x_rev, x_cat, x_lis, x_val, x_rng, x_rng2, x_enum, x_zip, x_turn, x_comp, y_nil, y_cons, y_set, y_par, y_asg, y_setIx, y_setK, y_ex, y_ife, y_body, y_for, y_forW, y_turn, y_done, y_ret, y_retN, y_raise, y_pass, y_brk, y_cont, y_try, y_hs, kBin2, kBin1, kCmp2, kCmp1, kBool, kNot, kNeg, kCh3, kCh2, kCh1b, kCh1, kIsN, kNotN, kAnd, kOr, kIfe, kTup, kFrz, kMut, kCall, kCallk, kCallv, kBi, kMe2, kMe1, kAp3, kAp2, kAp1, kIx2, kIx1, kDg2, kDg1, kSl3, kSl2, kSl1, kIsi, kDnew, kTupr, kEs2, kEs1, kInt, kTst, kK4, kK3, kK2, kK1, kDisp, kLc, kFs4, kFs3, kFs2, kFs1, kRev2, kRev, kCat4, kCat3, kCat2, kCat1, kLis, kVal, kRng, kRng2b, kRng2, kEnum, kZip2, kZip1, kSome, kTn2, kTn1, jSeq, jSet, jPar, jAsg, jSx3, jSx2, jSx1, jSk3, jSk2, jSk1, jEx, jIf, jBody, jFor, jExc, bind_ok, bind_exc, bind_bad, then_ok, then_exc, then_bad, seq_next, seq_ret, seq_exc, seq_brk, seq_cont, seq_bad, optR_some, blR_some, slotR_some, condR_t, condR_f, condS_t, condS_f, condR_bl, condS_bl, join_and, join_or, bind_ite, then_ite, seq_ite, negR_int, notR_bl, boolR_bl, isNon_non, isNon_int, isNon_str, isNon_tup, isNon_lst, isNon_obj, sizR_0, sizR_1, sizR_2, sizR_3, sizR_4, sizR_5, sizR_6, sizR_7, sizR_8, sizR_ok, intR_int, tstR_bl, recvA_obj, recvL_lst, appR_obj, appL_ok, setKS_obj, setKO_str, setIxS_obj, valO_lst, valR_obj, recvS_str, xfR_ok, tuprR_int, lstR_some, valR_lst, valR_tup, valR_ktup, valR_str, rngR_int, rng2R_int, enumR_lst, zipR_lst, zipR_tup, callvR_ok, noX_ok, noX_ite, noX_f, bindT_name, bindT_tup, bindT_ktup, bindTs_nil, bindTs_cons, wipe_nil, wipe_cons, envS_some, envB_some, loop_next, loop_cont, loop_brk, loop_ret, loop_exc, loop_ite, tryS_exc, tryS_ret, tryS_next, endH_ret, retS_next, retS_ret, retS_exc, retS_ite, setAll, o_isi_int_non, o_isi_int_bl, o_isi_int_int, o_isi_int_str, o_isi_int_tup, o_isi_int_ktup, o_isi_int_lst, o_isi_str_non, o_isi_str_bl, o_isi_str_int, o_isi_str_str, o_isi_str_tup, o_isi_str_ktup, o_isi_str_lst, o_isi_bool_non, o_isi_bool_bl, o_isi_bool_int, o_isi_bool_str, o_isi_bool_tup, o_isi_bool_ktup, o_isi_bool_lst, o_isi_tuple_non, o_isi_tuple_bl, o_isi_tuple_int, o_isi_tuple_str, o_isi_tuple_tup, o_isi_tuple_ktup, o_isi_tuple_lst, o_isi_list_non, o_isi_list_bl, o_isi_list_int, o_isi_list_str, o_isi_list_tup, o_isi_list_ktup, o_isi_list_lst, o_add_ii, o_sub_ii, o_add_ss, o_add_tt, o_add_ll, o_mul_il, o_mul_ir, o_pow_ii, o_dget, dictG_str, dictG_int, keyOf_s, keyOf_i, getset, dnewR_3, o_mod_ii, o_fdiv_ii, o_eq_int, o_eq_str, o_eq_bl, o_ne_int, o_ne_str, o_ne_bl, o_lt_i, o_le_i, o_gt_i, o_ge_i, o_in_s, o_nin_s, o_eq_d, o_ne_d, o_len_s, o_len_t, o_len_kt, o_len_l, o_tup_l, o_tup_t, oTup_l, oLen_l, oIx_l, oLst_l, o_tup_o, o_len_o, o_all, o_any, o_str_i, o_int_i, o_sum, o_join, o_join_t, o_split, atI_0, atI_1, atI_2, atI_3, o_ix_t, o_ix_kt, o_ix_l, o_ix_o, o_ix_s, o_sl_s, o_sl_t, o_sl_l, o_lof_l, o_sof_l, o_sof_t, o_lof_o, List.getElem?_cons_zero, List.getElem?_cons_succ, List.set_cons_zero, List.set_cons_succ, Option.bind_some, List.length_cons, List.length_nil, if_true, if_false, Bool.not_true, Bool.not_false, Bool.and_true, Bool.true_and, Bool.and_false, Bool.false_and, Bool.or_true, Bool.true_or, Bool.or_false, Bool.false_or, Bool.not_not, ite_true, ite_false, reduceIte, Nat.reduceAdd, Int.reduceAdd, Int.reduceSub, Int.reduceMod, Int.reduceMul, Nat.reduceLT, reduceCtorEq, startD, List.map_cons, List.map_nil, List.replicate_succ, List.replicate_zero, List.cons_append, List.nil_append, Nat.reduceSub, decide_true, decide_false, true_and, and_true, eq_self, Int.reduceEq, Int.reduceNe, Int.reduceLT, Int.reduceLE, Nat.reduceEqDiff, Int.reduceToNat, Nat.reduceLeDiff, List.length_map, signs_mp, join_opt, ne_nil_s, ne_nil_i, ne_nil_n, isEmpty_filt, upto_z, compL_nil, Int.toNat_natCast, id_eq, List.length_set, cst0, cst1, cst2, cst3, cst4, cst5, cst6, ne_eq, not_true_eq_false, not_false_eq_true, *])
local macro_rules | `(tactic| bv_omega) => `(tactic| (first | rfl | (simp [-List.all_eq_true] at *; done) | (simp [-List.all_eq_true] at *; omega) | (simp [-List.all_eq_true] at *; grind)))
theorem f19 : fs75[19]? = some fdMixed := rfl
theorem f20 : fs75[20]? = some fdDraw := rfl
theorem f21 : fs75[21]? = some (fdDigit 19) := rfl
theorem f22 : fs75[22]? = some (fdSigns 21) := rfl
theorem f23 : fs75[23]? = some (fdRows 21) := rfl
theorem f24 : fs75[24]? = some (fdSized 21 23) := rfl
/-! ### what is caught is what is due -/
theorem resM_cases (t : List Nat) : (∃ s l r o, resM t = .ok (machD s l r o)) ∨ (∃ w, resM t = .ex 2 (.str w)) ∨ ∃ w, resM t = .ex 0 (.str w) := by
  unfold resM machR
  repeat' split
  all_goals first | exact .inl ⟨_, _, _, _, rfl⟩ | exact .inr (.inl ⟨_, rfl⟩) | exact .inr (.inr ⟨_, rfl⟩)
theorem resG_cases (t : List Nat) : (∃ s l g, resG t = .ok (guardD s l g)) ∨ (∃ w, resG t = .ex 2 (.str w)) ∨ ∃ w, resG t = .ex 1 (.str w) := by
  unfold resG guardR
  repeat' split
  all_goals first | exact .inl ⟨_, _, _, rfl⟩ | exact .inr (.inl ⟨_, rfl⟩) | exact .inr (.inr ⟨_, rfl⟩)
theorem shp_rows {n : Nat} (l : List (List Int)) : (rowsD l).shp (n + 2) = true := by
  unfold rowsD
  rw [D.shp]
  exact shp_of _ _ (fun r => by unfold intsD; rw [D.shp]; exact shp_ints _ _) _
theorem shp_ints' {n : Nat} (r : List Int) : (intsD r).shp (n + 1) = true := by unfold intsD; rw [D.shp]; exact shp_ints _ _
theorem shp_outs {n : Nat} (o : List (List (List Nat))) : (outsD o).shp (n + 2) = true := by
  unfold outsD
  rw [D.shp]
  exact shp_of _ _ (fun r => by unfold strsD; rw [D.shp]; exact shp_of _ _ (fun t => by unfold D.shp; rfl) _) _
theorem shp_mach {n : Nat} (s l r o) : (machD s l r o).shp (n + 3) = true := by
  unfold machD
  simp [D.shp, shpAll, shp_rows, shp_outs]
theorem shp_guard {n : Nat} (s l g) : (guardD s l g).shp (n + 3) = true := by
  unfold guardD
  simp [D.shp, shpAll, shp_rows, shp_ints']
theorem shp_two {n : Nat} {w : List Nat} {d : D} (h : d.shp n = true) : (twoD w d).shp (n + 1) = true := by
  unfold twoD
  simp [D.shp, shpAll, h]
theorem shp_str {n : Nat} {w : List Nat} : (D.str w).shp n = true := by unfold D.shp; rfl
theorem shp_catM (t : List Nat) : (catD (resM t)).shp 64 = true := by
  rcases resM_cases t with ⟨s, l, r, o, e⟩ | ⟨w, e⟩ | ⟨w, e⟩ <;> rw [e]
  · exact shp_two (n := 63) (shp_mach (n := 60) _ _ _ _)
  · exact shp_two (n := 63) shp_str
  · exact shp_two (n := 63) shp_str
theorem shp_catG (t : List Nat) : (catD (resG t)).shp 64 = true := by
  rcases resG_cases t with ⟨s, l, g, e⟩ | ⟨w, e⟩ | ⟨w, e⟩ <;> rw [e]
  · exact shp_two (n := 63) (shp_guard (n := 60) _ _ _)
  · exact shp_two (n := 63) shp_str
  · exact shp_two (n := 63) shp_str
theorem s_27M {n : Nat} {t : List Nat} (ht : t.length + 2 ≤ 16777216) : ∀ L, callF (evFn fs75 (n + 7)) 27 [.fn 17, .str t] L = .ok (catD (resM t)) L := by
  have h := @s_17 n t ht
  rcases resM_cases t with ⟨s, l, r, o, e⟩ | ⟨w, e⟩ | ⟨w, e⟩ <;> rw [e] at h ⊢
  · exact s_27 (by decide) rfl (machD_pure _ _ _ _) h
  · exact s_27t (by decide) rfl rfl h
  · exact s_27m (by decide) rfl rfl h
theorem s_27G {n : Nat} {t : List Nat} (ht : t.length + 2 ≤ 16777216) : ∀ L, callF (evFn fs75 (n + 7)) 27 [.fn 18, .str t] L = .ok (catD (resG t)) L := by
  have h := @s_18 n t ht
  rcases resG_cases t with ⟨s, l, g, e⟩ | ⟨w, e⟩ | ⟨w, e⟩ <;> rw [e] at h ⊢
  · exact s_27 (by decide) rfl (guardD_pure _ _ _) h
  · exact s_27t (by decide) rfl rfl h
  · exact s_27g (by decide) rfl rfl h
/-! ### bent texts -/
theorem cutL_len {α : Type} (xs : List α) (lo hi : Option Int) : (cutL xs lo hi).length ≤ xs.length := by
  unfold cutL
  rw [List.length_take, List.length_drop]
  omega
theorem s_34 {n p B : Nat} {t : List Nat} {L : Store} (h : Dr p (B + 3) L) (h0 : 0 < t.length) (h1 : t.length ≤ 1000000) (hx : ∃ i : Int, ∀ L, meV L .index (.str t) [.str [124]] = some (.int i)) :
    ∃ (t' : List Nat) (o : O), callF (evFn fs75 (n + 3)) 34 [.obj p, .str t] L = .ok (.str t') (L.set p o) ∧ Dr p B (L.set p o) ∧ t'.length ≤ 2 * t.length + 2 := by
  obtain ⟨ix, hx⟩ := hx
  obtain ⟨d, o, e1, d0, d1, D1⟩ := d_digit f19 f21 (n := n) (m := 6) h (by omega) (by omega)
  obtain ⟨a, o2, e2, a0, a1, D2⟩ := d_digit f19 f21 (n := n) (m := (t.length : Int)) D1 (by omega) (by omega)
  obtain ⟨c, o3, e3, c0, c1, D3⟩ := d_digit f19 f21 (n := n) (m := 11) D2 (by omega) (by omega)
  have hF := (((DrF.refl h).step D1).step D2).step D3
  obtain ⟨j, rfl⟩ := Int.eq_ofNat_of_zero_le c0
  have hj : j < [124, 59, 44, 48, 49, 56, 57, 97, 113, 46, 32].length := by simp only [List.length_cons, List.length_nil]; omega
  have hg : L2.atI [124, 59, 44, 48, 49, 56, 57, 97, 113, 46, 32] (j : Int) = some ([124, 59, 44, 48, 49, 56, 57, 97, 113, 46, 32][j]) := L2.atI_nat (List.getElem?_eq_getElem hj)
  generalize [124, 59, 44, 48, 49, 56, 57, 97, 113, 46, 32][j] = g at *
  have k1 := fun lo hi => cutL_len t lo hi
  have b1 := k1 none (some a)
  have b2 := k1 (some (a + 1)) none
  have b3 := k1 none (some (ix + 1))
  have b4 := k1 (some (ix + 1)) none
  have b5 := k1 (some a) none
  have hc : d = 0 ∨ d = 1 ∨ d = 2 ∨ d = 3 ∨ d = 4 ∨ d = 5 := by omega
  have fin : ∀ t' : List Nat, evFn fs75 (n + 3) 34 [.obj p, .str t] L = .ok (.str t') (((L.set p o).set p o2).set p o3) → t'.length ≤ 2 * t.length + 2 → ∃ (t' : List Nat) (o : O), callF (evFn fs75 (n + 3)) 34 [.obj p, .str t] L = .ok (.str t') (L.set p o) ∧ Dr p B (L.set p o) ∧ t'.length ≤ 2 * t.length + 2 := by
    intro t' e hl
    obtain ⟨o', c, hD⟩ := callF_dr' rfl e hF rfl
    exact ⟨t', o', c, hD, hl⟩
  clear hF h D1 D2 D3 hj k1
  rcases hc with rfl | rfl | rfl | rfl | rfl | rfl
  · refine fin (cutL t none (some a) ++ cutL t (some (a + 1)) none) (run_to P75_34 rfl rfl ?_) (by rw [List.length_append]; omega)
    clear fin
    unfold P75_34
    trivial
  · refine fin (cutL t none (some a) ++ [g] ++ cutL t (some (a + 1)) none) (run_to P75_34 rfl rfl ?_) (by simp only [List.length_append, List.length_cons, List.length_nil]; omega)
    clear fin
    unfold P75_34
    trivial
  · refine fin (cutL t none (some a)) (run_to P75_34 rfl rfl ?_) (by omega)
    clear fin
    unfold P75_34
    trivial
  · refine fin (t ++ [124] ++ [g]) (run_to P75_34 rfl rfl ?_) (by simp only [List.length_append, List.length_cons, List.length_nil]; omega)
    clear fin
    unfold P75_34
    trivial
  · refine fin (cutL t none (some (ix + 1)) ++ [48] ++ cutL t (some (ix + 1)) none) (run_to P75_34 rfl rfl ?_) (by simp only [List.length_append, List.length_cons, List.length_nil]; omega)
    clear fin
    unfold P75_34
    trivial
  · refine fin (cutL t none (some a) ++ [g] ++ cutL t (some a) none) (run_to P75_34 rfl rfl ?_) (by simp only [List.length_append, List.length_cons, List.length_nil]; omega)
    clear fin
    unfold P75_34
    trivial

end EV
end

section
namespace EV
open PySem
local macro_rules | `(tactic| trivial) => `(tactic| simp (config := {contextual := true, maxSteps := 1000000, implicitDefEqProofs := false}) (disch := first | with_reducible assumption | omega | (simp only [List.length_map, List.length_set, upto_len, List.length_cons, List.length_nil, List.length_append, big, Bool.not_eq_true, Bool.not_eq_true', Bool.not_eq_false', Bool.and_eq_true, decide_eq_true_eq, decide_eq_false_iff_not] at *; omega)) only [x_slot, x_cst, x_glob, x_fnv, x_bin, x_neg, x_not, x_cmp, x_chain, x_isN, x_notN, x_and, x_or, x_ife, x_tup, x_frz, x_mut, x_call, x_callk, x_callv, x_bi, x_split, x_join, x_index, x_append, x_ix, x_dget, x_sl, x_isi, x_dnew, x_xfld, x_tupr, x_nil, x_cons, x_onone, x_osome, x_tnone, x_tsome, x_knil, x_kcons, x_disp, x_lc, x_fsl, x_rev, x_cat, x_lis, x_val, x_rng, x_rng2, x_enum, x_zip, x_turn, x_comp, y_nil, y_cons, y_set, y_par, y_asg, y_setIx, y_setK, y_ex, y_ife, y_body, y_for, y_forW, y_turn, y_done, y_ret, y_retN, y_raise, y_pass, y_brk, y_cont, y_try, y_hs, kBin2, kBin1, kCmp2, kCmp1, kBool, kNot, kNeg, kCh3, kCh2, kCh1b, kCh1, kIsN, kNotN, kAnd, kOr, kIfe, kTup, kFrz, kMut, kCall, kCallk, kCallv, kBi, kMe2, kMe1, kAp3, kAp2, kAp1, kIx2, kIx1, kDg2, kDg1, kSl3, kSl2, kSl1, kIsi, kDnew, kTupr, kEs2, kEs1, kInt, kTst, kK4, kK3, kK2, kK1, kDisp, kLc, kFs4, kFs3, kFs2, kFs1, kRev2, kRev, kCat4, kCat3, kCat2, kCat1, kLis, kVal, kRng, kRng2b, kRng2, kEnum, kZip2, kZip1, kSome, kTn2, kTn1, jSeq, jSet, jPar, jAsg, jSx3, jSx2, jSx1, jSk3, jSk2, jSk1, jEx, jIf, jBody, jFor, jExc, bind_ok, bind_exc, bind_bad, then_ok, then_exc, then_bad, seq_next, seq_ret, seq_exc, seq_brk, seq_cont, seq_bad, optR_some, blR_some, slotR_some, condR_t, condR_f, condS_t, condS_f, condR_bl, condS_bl, join_and, join_or, bind_ite, then_ite, seq_ite, negR_int, notR_bl, boolR_bl, isNon_non, isNon_int, isNon_str, isNon_tup, isNon_lst, isNon_obj, sizR_0, sizR_1, sizR_2, sizR_3, sizR_4, sizR_5, sizR_6, sizR_7, sizR_8, sizR_ok, intR_int, tstR_bl, recvA_obj, recvL_lst, appR_obj, appL_ok, setKS_obj, setKO_str, setIxS_obj, valO_lst, valR_obj, recvS_str, xfR_ok, tuprR_int, lstR_some, valR_lst, valR_tup, valR_ktup, valR_str, rngR_int, rng2R_int, enumR_lst, zipR_lst, zipR_tup, callvR_ok, noX_ok, noX_ite, noX_f, bindT_name, bindT_tup, bindT_ktup, bindTs_nil, bindTs_cons, wipe_nil, wipe_cons, envS_some, envB_some, loop_next, loop_cont, loop_brk, loop_ret, loop_exc, loop_ite, tryS_exc, tryS_ret, tryS_next, endH_ret, retS_next, retS_ret, retS_exc, retS_ite, setAll, o_isi_int_non, o_isi_int_bl, o_isi_int_int, o_isi_int_str, o_isi_int_tup, o_isi_int_ktup, o_isi_int_lst, o_isi_str_non, o_isi_str_bl, o_isi_str_int, o_isi_str_str, o_isi_str_tup, o_isi_str_ktup, o_isi_str_lst, o_isi_bool_non, o_isi_bool_bl, o_isi_bool_int, o_isi_bool_str, o_isi_bool_tup, o_isi_bool_ktup, o_isi_bool_lst, o_isi_tuple_non, o_isi_tuple_bl, o_isi_tuple_int, o_isi_tuple_str, o_isi_tuple_tup, o_isi_tuple_ktup, o_isi_tuple_lst, o_isi_list_non, o_isi_list_bl, o_isi_list_int, o_isi_list_str, o_isi_list_tup, o_isi_list_ktup, o_isi_list_lst, o_add_ii, o_sub_ii, o_add_ss, o_add_tt, o_add_ll, o_mul_il, o_mul_ir, o_pow_ii, o_dget, dictG_str, dictG_int, keyOf_s, keyOf_i, getset, dnewR_3, o_mod_ii, o_fdiv_ii, o_eq_int, o_eq_str, o_eq_bl, o_ne_int, o_ne_str, o_ne_bl, o_lt_i, o_le_i, o_gt_i, o_ge_i, o_in_s, o_nin_s, o_eq_d, o_ne_d, o_len_s, o_len_t, o_len_kt, o_len_l, o_tup_l, o_tup_t, oTup_l, oLen_l, oIx_l, oLst_l, o_tup_o, o_len_o, o_all, o_any, o_str_i, o_int_i, o_sum, o_join, o_join_t, o_split, atI_0, atI_1, atI_2, atI_3, o_ix_t, o_ix_kt, o_ix_l, o_ix_o, o_ix_s, o_sl_s, o_sl_t, o_sl_l, o_lof_l, o_sof_l, o_sof_t, o_lof_o, List.getElem?_cons_zero, List.getElem?_cons_succ, List.set_cons_zero, List.set_cons_succ, Option.bind_some, List.length_cons, List.length_nil, if_true, if_false, Bool.not_true, Bool.not_false, Bool.and_true, Bool.true_and, Bool.and_false, Bool.false_and, Bool.or_true, Bool.true_or, Bool.or_false, Bool.false_or, Bool.not_not, ite_true, ite_false, reduceIte, Nat.reduceAdd, Int.reduceAdd, Int.reduceSub, Int.reduceMod, Int.reduceMul, Nat.reduceLT, reduceCtorEq, startD, List.map_cons, List.map_nil, List.replicate_succ, List.replicate_zero, List.cons_append, List.nil_append, Nat.reduceSub, decide_true, decide_false, true_and, and_true, eq_self, Int.reduceEq, Int.reduceNe, Int.reduceLT, Int.reduceLE, Nat.reduceEqDiff, Int.reduceToNat, Nat.reduceLeDiff, List.length_map, signs_mp, join_opt, ne_nil_s, ne_nil_i, ne_nil_n, isEmpty_filt, upto_z, compL_nil, Int.toNat_natCast, id_eq, List.length_set, cst0, cst1, cst2, cst3, cst4, cst5, cst6, ne_eq, not_true_eq_false, not_false_eq_true, *])
local macro_rules | `(tactic| bv_omega) => `(tactic| (first | rfl | (simp [-List.all_eq_true] at *; done) | (simp [-List.all_eq_true] at *; omega) | (simp [-List.all_eq_true] at *; grind)))
local macro_rules | `(tactic| trivial) => `(tactic| simp (config := {contextual := true, maxSteps := 1000000, implicitDefEqProofs := false}) (disch := first | with_reducible assumption | omega | (simp only [List.length_map, List.length_set, upto_len, List.length_cons, List.length_nil, List.length_append, big, Bool.not_eq_true, Bool.not_eq_true', Bool.not_eq_false', Bool.and_eq_true, decide_eq_true_eq, decide_eq_false_iff_not] at *; omega)) only [x_slot, x_cst, x_glob, x_fnv, x_bin, x_neg, x_not, x_cmp, x_chain, x_isN, x_notN, x_and, x_or, x_ife, x_tup, x_frz, x_mut, x_call, x_callk, x_callv, x_bi, x_split, x_join, x_index, x_append, x_ix, x_dget, x_sl, x_isi, x_dnew, x_xfld, x_tupr, x_nil, x_cons, x_onone, x_osome, x_tnone, x_tsome, x_knil, x_kcons, x_disp, x_lc, x_fsl, x_rev, x_cat, x_lis, x_val, x_rng, x_rng2, x_enum, x_zip, x_turn, x_comp, y_nil, y_cons, y_set, y_par, y_asg, y_setIx, y_setK, y_ex, y_ife, y_body, y_for, y_forW, y_turn, y_done, y_ret, y_retN, y_raise, y_pass, y_brk, y_cont, y_try, y_hs, kBin2, kBin1, kCmp2, kCmp1, kBool, kNot, kNeg, kCh3, kCh2, kCh1b, kCh1, kIsN, kNotN, kAnd, kOr, kIfe, kTup, kFrz, kMut, kCall, kCallk, kCallv, kBi, kMe2, kMe1, kAp3, kAp2, kAp1, kIx2, kIx1, kDg2, kDg1, kSl3, kSl2, kSl1, kIsi, kDnew, kTupr, kEs2, kEs1, kInt, kTst, kK4, kK3, kK2, kK1, kDisp, kLc, kFs4, kFs3, kFs2, kFs1, kRev2, kRev, kCat4, kCat3, kCat2, kCat1, kLis, kVal, kRng, kRng2b, kRng2, kEnum, kZip2, kZip1, kSome, kTn2, kTn1, jSeq, jSet, jPar, jAsg, jSx3, jSx2, jSx1, jSk3, jSk2, jSk1, jEx, jIf, jBody, jFor, jExc, bind_ok, bind_exc, bind_bad, then_ok, then_exc, then_bad, seq_next, seq_ret, seq_exc, seq_brk, seq_cont, seq_bad, optR_some, blR_some, slotR_some, condR_t, condR_f, condS_t, condS_f, condR_bl, condS_bl, join_and, join_or, bind_ite, then_ite, seq_ite, negR_int, notR_bl, boolR_bl, isNon_non, isNon_int, isNon_str, isNon_tup, isNon_lst, isNon_obj, sizR_0, sizR_1, sizR_2, sizR_3, sizR_4, sizR_5, sizR_6, sizR_7, sizR_8, sizR_ok, intR_int, tstR_bl, recvA_obj, recvL_lst, appR_obj, appL_ok, setKS_obj, setKO_str, setIxS_obj, valO_lst, valR_obj, recvS_str, xfR_ok, tuprR_int, lstR_some, valR_lst, valR_tup, valR_ktup, valR_str, rngR_int, rng2R_int, enumR_lst, zipR_lst, zipR_tup, callvR_ok, noX_ok, noX_ite, noX_f, bindT_name, bindT_tup, bindT_ktup, bindTs_nil, bindTs_cons, wipe_nil, wipe_cons, envS_some, envB_some, loop_next, loop_cont, loop_brk, loop_ret, loop_exc, loop_ite, tryS_exc, tryS_ret, tryS_next, endH_ret, retS_next, retS_ret, retS_exc, retS_ite, setAll, o_isi_int_non, o_isi_int_bl, o_isi_int_int, o_isi_int_str, o_isi_int_tup, o_isi_int_ktup, o_isi_int_lst, o_isi_str_non, o_isi_str_bl, o_isi_str_int, o_isi_str_str, o_isi_str_tup, o_isi_str_ktup, o_isi_str_lst, o_isi_bool_non, o_isi_bool_bl, o_isi_bool_int, o_isi_bool_str, o_isi_bool_tup, o_isi_bool_ktup, o_isi_bool_lst, o_isi_tuple_non, o_isi_tuple_bl, o_isi_tuple_int, o_isi_tuple_str, o_isi_tuple_tup, o_isi_tuple_ktup, o_isi_tuple_lst, o_isi_list_non, o_isi_list_bl, o_isi_list_int, o_isi_list_str, o_isi_list_tup, o_isi_list_ktup, o_isi_list_lst, o_add_ii, o_sub_ii, o_add_ss, o_add_tt, o_add_ll, o_mul_il, o_mul_ir, o_pow_ii, o_dget, dictG_str, dictG_int, keyOf_s, keyOf_i, getset, dnewR_3, o_mod_ii, o_fdiv_ii, o_eq_int, o_eq_str, o_eq_bl, o_ne_int, o_ne_str, o_ne_bl, o_lt_i, o_le_i, o_gt_i, o_ge_i, o_in_s, o_nin_s, o_eq_d, o_ne_d, o_len_s, o_len_t, o_len_kt, o_len_l, o_tup_l, o_tup_t, oTup_l, oLen_l, oIx_l, oLst_l, o_tup_o, o_len_o, o_all, o_any, o_str_i, o_int_i, o_sum, o_join, o_join_t, o_split, atI_0, atI_1, atI_2, atI_3, o_ix_t, o_ix_kt, o_ix_l, o_ix_o, o_ix_s, o_sl_s, o_sl_t, o_sl_l, o_lof_l, o_sof_l, o_sof_t, o_lof_o, List.getElem?_cons_zero, List.getElem?_cons_succ, List.set_cons_zero, List.set_cons_succ, Option.bind_some, List.length_cons, List.length_nil, if_true, if_false, Bool.not_true, Bool.not_false, Bool.and_true, Bool.true_and, Bool.and_false, Bool.false_and, Bool.or_true, Bool.true_or, Bool.or_false, Bool.false_or, Bool.not_not, ite_true, ite_false, reduceIte, Nat.reduceAdd, Int.reduceAdd, Int.reduceSub, Int.reduceMod, Int.reduceMul, Nat.reduceLT, reduceCtorEq, startD, List.map_cons, List.map_nil, List.replicate_succ, List.replicate_zero, List.cons_append, List.nil_append, Nat.reduceSub, decide_true, decide_false, true_and, and_true, eq_self, Int.reduceEq, Int.reduceNe, Int.reduceLT, Int.reduceLE, Nat.reduceEqDiff, Int.reduceToNat, Nat.reduceLeDiff, List.length_map, signs_mp, join_opt, ne_nil_s, ne_nil_i, ne_nil_n, isEmpty_filt, upto_z, compL_nil, Int.toNat_natCast, id_eq, List.length_set, cst0, cst1, cst2, cst3, cst4, cst5, cst6, ne_eq, not_true_eq_false, not_false_eq_true, isi_rowsD, isi_outsD, isi_intsD, len_rowsD, len_outsD, len_intsD, val_outsD, val_rowsD, val_intsD, *])
theorem index_s {L : Store} {s q : List Nat} (h : 124 ∉ s) : meV L .index (.str (s ++ ([124] ++ q))) [.str [124]] = some (.int s.length) := by
  have := @SX.par_head 124 [] s q h
  unfold meV
  simp only
  rw [if_pos (by simp), this]
/-- a comprehension over a list object of two -/
theorem comp_obj2 {f : D → M (Option D)} {k : Nat} {x y a b : D} {L L1 L2 : Store} (h0 : L[k]? = some (.lst [x, y])) (h1 : f x L = .ok (some a) L1) (k1 : L1[k]? = some (.lst [x, y])) (h2 : f y L1 = .ok (some b) L2) (k2 : L2[k]? = some (.lst [x, y])) : compW f (.obj k) L = .ok [a, b] L2 := by
  unfold compW smallW fuelW
  simp only [if_true]
  rw [show big = 16777213 + 1 + 1 + 1 from rfl]
  unfold compG
  simp only [items, listOf, h0, List.getElem?_cons_zero, h1, bind_ok]
  unfold compG
  simp only [items, listOf, k1, List.getElem?_cons_zero, List.getElem?_cons_succ, h2, bind_ok]
  unfold compG
  simp only [items, listOf, k2, List.getElem?_cons_succ, List.getElem?_nil, bind_ok]
structure TextOK (t : List Nat) : Prop where
  a : 0 < t.length
  b : t.length ≤ 60000
  c : ∃ i : Int, ∀ L, meV L .index (.str t) [.str [124]] = some (.int i)
theorem turn35 {n p N m : Nat} {t1 t2 : List Nat} {s : List Nat} {a b c d x8 x9 : Option D} {L0 K : Store} (i : Int) (h1 : TextOK t1) (h2 : TextOK t2) (hK : DrM p L0 (N + 6) K) (hm : L0.length ≤ m) (hk : K[m]? = some (.lst [.str t1, .str t2])) :
    ∃ (ρ' : Env) (K' : Store), bodyF (evFn fs75 (n + 7)) (.name 8) (.cons (.set 9 (.frz (.lc false (.call 34 (.cons (.slot 0) (.cons (.slot 11) .nil))) (.name 11) (.val (.slot 7)) .none [11])))
(.cons (.ife (.cmp .ne (.call 27 (.cons (.fnv 17) (.cons (.ix (.slot 9) (.cst (.int 0))) .nil))) (.call 32 (.cons (.ix (.slot 9) (.cst (.int 0))) .nil)))
(.cons (.ret (.cst (.bl false)))
.nil)
.nil)
(.cons (.ife (.cmp .ne (.call 27 (.cons (.fnv 18) (.cons (.ix (.slot 9) (.cst (.int 1))) .nil))) (.call 33 (.cons (.ix (.slot 9) (.cst (.int 1))) .nil)))
(.cons (.ret (.cst (.bl false)))
.nil)
.nil)
.nil))) (.int i) [some (.obj p), some (.str s), some (.int 12), a, b, c, d, some (.obj m), x8, x9, none, none] K = .next ρ' K' ∧ (∃ x8 x9, ρ' = [some (.obj p), some (.str s), some (.int 12), a, b, c, d, some (.obj m), x8, x9, none, none]) ∧ DrM p L0 N K' ∧ K'[m]? = some (.lst [.str t1, .str t2]) := by
  have hp := hK.lt
  obtain ⟨u, o, e1, D1, l1⟩ := s_34 (n := n + 4) (p := p) (B := N + 3) (t := t1) hK.dr h1.a (by have := h1.b; omega) h1.c
  have m1 := hK.step D1
  have k1 : (K.set p o)[m]? = some (.lst [.str t1, .str t2]) := by rw [set_at (by omega)]; exact hk
  obtain ⟨v, o2, e2, D2, l2⟩ := s_34 (n := n + 4) (p := p) (B := N) (t := t2) D1 h2.a (by have := h2.b; omega) h2.c
  have m2 := m1.step D2
  have k2 : ((K.set p o).set p o2)[m]? = some (.lst [.str t1, .str t2]) := by rw [set_at (by omega)]; exact k1
  have b1 := h1.b
  have b2 := h2.b
  have c1 := @s_27M n u (by omega)
  have c2 := @s_32 (n + 4) u (by omega)
  have c3 := @s_27G n v (by omega)
  have c4 := @s_33 (n + 4) v (by omega)
  have n1 := fun L => @ne_self L _ (shp_catM u)
  have n2 := fun L => @ne_self L _ (shp_catG v)
  have comp : compW (turnE (evFn fs75 (n + 7)) false (.call 34 (.cons (.slot 0) (.cons (.slot 11) .nil))) (.name 11) .none [11] [some (.obj p), some (.str s), some (.int 12), a, b, c, d, some (.obj m), some (.int i), x9, none, none]) (.obj m) K = .ok [.str u, .str v] ((K.set p o).set p o2) := by
    refine comp_obj2 hk (L1 := K.set p o) ?_ k1 ?_ k2
    · trivial
    · trivial
  refine ⟨[some (.obj p), some (.str s), some (.int 12), a, b, c, d, some (.obj m), some (.int i), some (.lst [.str u, .str v]), none, none], (K.set p o).set p o2, ?_, ⟨_, _, rfl⟩, m2, k2⟩
  trivial
theorem machT_ok {s : List Nat} {l r : List (List Int)} {o : List (List (List Nat))} (h : MachOK s l r o) : TextOK (machT s l r o) := by
  have e8 : ∀ c ∈ ev8, c ≠ 124 := by decide
  have hs := h.s2
  have hs1 := h.s1
  have hl := tabT_len (smallL_of (by omega) h.l2 h.l3)
  have hr := tabT_len (smallL_of (by omega) h.r2 h.r3)
  have ho := outsT_len (smallO_of hs h.r2 (by rw [h.o1]; exact h.l2) h.o2)
  have e : machT s l r o = s ++ ([124] ++ TL.joinL [124] [tabT l, tabT r, outsT o]) := rfl
  have j := join_len [124] [tabT l, tabT r, outsT o]
  simp only [lens, List.map_cons, List.map_nil, List.sum_cons, List.sum_nil, List.length_cons, List.length_nil] at j
  refine ⟨?_, ?_, ⟨s.length, fun L => by rw [e]; exact index_s fun hm => e8 _ (h.s4 _ hm) rfl⟩⟩
  · rw [e]; simp; omega
  · rw [e]; simp only [List.length_append, List.length_cons, List.length_nil]; omega
theorem guardT_ok {s : List Nat} {l : List (List Int)} {g : List Int} (h : GuardOK s l g) : TextOK (guardT s l g) := by
  have e8 : ∀ c ∈ ev8, c ≠ 124 := by decide
  have hs := h.s2
  have hs1 := h.s1
  have hl := tabT_len (smallL_of (by omega) h.l2 h.l3)
  have hg := rowT_len h.gs.1
  have e : guardT s l g = s ++ ([124] ++ TL.joinL [124] [tabT l, rowT g]) := rfl
  have j := join_len [124] [tabT l, rowT g]
  simp only [lens, List.map_cons, List.map_nil, List.sum_cons, List.sum_nil, List.length_cons, List.length_nil] at j
  refine ⟨?_, ?_, ⟨s.length, fun L => by rw [e]; exact index_s fun hm => e8 _ (h.s4 _ hm) rfl⟩⟩
  · rw [e]; simp; omega
  · rw [e]; simp only [List.length_append, List.length_cons, List.length_nil]; omega
/-- the guard's rows that are good -/
theorem good35 {n p N : Nat} {s : List Nat} {a b : Option D} {l : List (List Int)} {L : Store} (h : Dr p (N + l.length) L) : ∃ (js : List Nat) (o : O), compL (turnE (evFn fs75 (n + 7)) false (.slot 10) (.name 10) (.some (.cmp .eq (.call 21 (.cons (.slot 0) (.cons (.cst (.int 2)) .nil))) (.cst (.int 1)))) [10] [some (.obj p), some (.str s), some (.int 12), a, some (rowsD l), b, none, none, none, none, none, none]) (upto 0 l.length) L = .ok (js.map fun j : Nat => .int (j : Int)) (L.set p o) ∧ Dr p N (L.set p o) ∧ js.Sublist (List.range l.length) := by
  rw [upto0]
  have := comp_stf (f := turnE (evFn fs75 (n + 7)) false (.slot 10) (.name 10) (.some (.cmp .eq (.call 21 (.cons (.slot 0) (.cons (.cst (.int 2)) .nil))) (.cst (.int 1)))) [10] [some (.obj p), some (.str s), some (.int 12), a, some (rowsD l), b, none, none, none, none, none, none]) (k := fun j : Nat => D.int (j : Int)) (g := fun j : Nat => D.int (j : Int)) (I := DrF p L) 1 (l := List.range l.length) (n := N) (L := L) (fun i hi N K hI => ?_) (by rw [List.length_range, Nat.one_mul]; exact DrF.refl h)
  · obtain ⟨js, L', e, hF, hs⟩ := this
    obtain ⟨⟨o, rfl⟩, hD⟩ := hF
    exact ⟨js, o, e, hD, hs⟩
  · obtain ⟨d, o, e, d0, d1, hD⟩ := d_digit f19 f21 (n := n + 5) (m := 2) hI.2 (by omega) (by omega)
    refine ⟨decide (d = 1), K.set p o, ?_, hI.step hD⟩
    trivial

end EV
end

section
namespace EV
open PySem
local macro_rules | `(tactic| trivial) => `(tactic| simp (config := {contextual := true, maxSteps := 1000000, implicitDefEqProofs := false}) (disch := first | with_reducible assumption | omega | (simp only [List.length_map, List.length_set, upto_len, List.length_cons, List.length_nil, List.length_append, big, Bool.not_eq_true, Bool.not_eq_true', Bool.not_eq_false', Bool.and_eq_true, decide_eq_true_eq, decide_eq_false_iff_not] at *; omega)) only [x_slot, x_cst, x_glob, x_fnv, x_bin, x_neg, x_not, x_cmp, x_chain, x_isN, x_notN, x_and, x_or, x_ife, x_tup, x_frz, x_mut, x_call, x_callk, x_callv, x_bi, x_split, x_join, x_index, x_append, x_ix, x_dget, x_sl, x_isi, x_dnew, x_xfld, x_tupr, x_nil, x_cons, x_onone, x_osome, x_tnone, x_tsome, x_knil, x_kcons, x_disp, x_lc, x_fsl, x_rev, x_cat, x_lis, x_val, x_rng, x_rng2, x_enum, x_zip, x_turn, x_comp, y_nil, y_cons, y_set, y_par, y_asg, y_setIx, y_setK, y_ex, y_ife, y_body, y_for, y_forW, y_turn, y_done, y_ret, y_retN, y_raise, y_pass, y_brk, y_cont, y_try, y_hs, kBin2, kBin1, kCmp2, kCmp1, kBool, kNot, kNeg, kCh3, kCh2, kCh1b, kCh1, kIsN, kNotN, kAnd, kOr, kIfe, kTup, kFrz, kMut, kCall, kCallk, kCallv, kBi, kMe2, kMe1, kAp3, kAp2, kAp1, kIx2, kIx1, kDg2, kDg1, kSl3, kSl2, kSl1, kIsi, kDnew, kTupr, kEs2, kEs1, kInt, kTst, kK4, kK3, kK2, kK1, kDisp, kLc, kFs4, kFs3, kFs2, kFs1, kRev2, kRev, kCat4, kCat3, kCat2, kCat1, kLis, kVal, kRng, kRng2b, kRng2, kEnum, kZip2, kZip1, kSome, kTn2, kTn1, jSeq, jSet, jPar, jAsg, jSx3, jSx2, jSx1, jSk3, jSk2, jSk1, jEx, jIf, jBody, jFor, jExc, bind_ok, bind_exc, bind_bad, then_ok, then_exc, then_bad, seq_next, seq_ret, seq_exc, seq_brk, seq_cont, seq_bad, optR_some, blR_some, slotR_some, condR_t, condR_f, condS_t, condS_f, condR_bl, condS_bl, join_and, join_or, bind_ite, then_ite, seq_ite, negR_int, notR_bl, boolR_bl, isNon_non, isNon_int, isNon_str, isNon_tup, isNon_lst, isNon_obj, sizR_0, sizR_1, sizR_2, sizR_3, sizR_4, sizR_5, sizR_6, sizR_7, sizR_8, sizR_ok, intR_int, tstR_bl, recvA_obj, recvL_lst, appR_obj, appL_ok, setKS_obj, setKO_str, setIxS_obj, valO_lst, valR_obj, recvS_str, xfR_ok, tuprR_int, lstR_some, valR_lst, valR_tup, valR_ktup, valR_str, rngR_int, rng2R_int, enumR_lst, zipR_lst, zipR_tup, callvR_ok, noX_ok, noX_ite, noX_f, bindT_name, bindT_tup, bindT_ktup, bindTs_nil, bindTs_cons, wipe_nil, wipe_cons, envS_some, envB_some, loop_next, loop_cont, loop_brk, loop_ret, loop_exc, loop_ite, tryS_exc, tryS_ret, tryS_next, endH_ret, retS_next, retS_ret, retS_exc, retS_ite, setAll, o_isi_int_non, o_isi_int_bl, o_isi_int_int, o_isi_int_str, o_isi_int_tup, o_isi_int_ktup, o_isi_int_lst, o_isi_str_non, o_isi_str_bl, o_isi_str_int, o_isi_str_str, o_isi_str_tup, o_isi_str_ktup, o_isi_str_lst, o_isi_bool_non, o_isi_bool_bl, o_isi_bool_int, o_isi_bool_str, o_isi_bool_tup, o_isi_bool_ktup, o_isi_bool_lst, o_isi_tuple_non, o_isi_tuple_bl, o_isi_tuple_int, o_isi_tuple_str, o_isi_tuple_tup, o_isi_tuple_ktup, o_isi_tuple_lst, o_isi_list_non, o_isi_list_bl, o_isi_list_int, o_isi_list_str, o_isi_list_tup, o_isi_list_ktup, o_isi_list_lst, o_add_ii, o_sub_ii, o_add_ss, o_add_tt, o_add_ll, o_mul_il, o_mul_ir, o_pow_ii, o_dget, dictG_str, dictG_int, keyOf_s, keyOf_i, getset, dnewR_3, o_mod_ii, o_fdiv_ii, o_eq_int, o_eq_str, o_eq_bl, o_ne_int, o_ne_str, o_ne_bl, o_lt_i, o_le_i, o_gt_i, o_ge_i, o_in_s, o_nin_s, o_eq_d, o_ne_d, o_len_s, o_len_t, o_len_kt, o_len_l, o_tup_l, o_tup_t, oTup_l, oLen_l, oIx_l, oLst_l, o_tup_o, o_len_o, o_all, o_any, o_str_i, o_int_i, o_sum, o_join, o_join_t, o_split, atI_0, atI_1, atI_2, atI_3, o_ix_t, o_ix_kt, o_ix_l, o_ix_o, o_ix_s, o_sl_s, o_sl_t, o_sl_l, o_lof_l, o_sof_l, o_sof_t, o_lof_o, List.getElem?_cons_zero, List.getElem?_cons_succ, List.set_cons_zero, List.set_cons_succ, Option.bind_some, List.length_cons, List.length_nil, if_true, if_false, Bool.not_true, Bool.not_false, Bool.and_true, Bool.true_and, Bool.and_false, Bool.false_and, Bool.or_true, Bool.true_or, Bool.or_false, Bool.false_or, Bool.not_not, ite_true, ite_false, reduceIte, Nat.reduceAdd, Int.reduceAdd, Int.reduceSub, Int.reduceMod, Int.reduceMul, Nat.reduceLT, reduceCtorEq, startD, List.map_cons, List.map_nil, List.replicate_succ, List.replicate_zero, List.cons_append, List.nil_append, Nat.reduceSub, decide_true, decide_false, true_and, and_true, eq_self, Int.reduceEq, Int.reduceNe, Int.reduceLT, Int.reduceLE, Nat.reduceEqDiff, Int.reduceToNat, Nat.reduceLeDiff, List.length_map, signs_mp, join_opt, ne_nil_s, ne_nil_i, ne_nil_n, isEmpty_filt, upto_z, compL_nil, Int.toNat_natCast, id_eq, List.length_set, cst0, cst1, cst2, cst3, cst4, cst5, cst6, ne_eq, not_true_eq_false, not_false_eq_true, *])
local macro_rules | `(tactic| bv_omega) => `(tactic| (first | rfl | (simp [-List.all_eq_true] at *; done) | (simp [-List.all_eq_true] at *; omega) | (simp [-List.all_eq_true] at *; grind)))
local macro_rules | `(tactic| trivial) => `(tactic| simp (config := {contextual := true, maxSteps := 1000000, implicitDefEqProofs := false}) (disch := first | with_reducible assumption | omega | (simp only [List.length_map, List.length_set, upto_len, List.length_cons, List.length_nil, List.length_append, big, Bool.not_eq_true, Bool.not_eq_true', Bool.not_eq_false', Bool.and_eq_true, decide_eq_true_eq, decide_eq_false_iff_not] at *; omega)) only [x_slot, x_cst, x_glob, x_fnv, x_bin, x_neg, x_not, x_cmp, x_chain, x_isN, x_notN, x_and, x_or, x_ife, x_tup, x_frz, x_mut, x_call, x_callk, x_callv, x_bi, x_split, x_join, x_index, x_append, x_ix, x_dget, x_sl, x_isi, x_dnew, x_xfld, x_tupr, x_nil, x_cons, x_onone, x_osome, x_tnone, x_tsome, x_knil, x_kcons, x_disp, x_lc, x_fsl, x_rev, x_cat, x_lis, x_val, x_rng, x_rng2, x_enum, x_zip, x_turn, x_comp, y_nil, y_cons, y_set, y_par, y_asg, y_setIx, y_setK, y_ex, y_ife, y_body, y_for, y_forW, y_turn, y_done, y_ret, y_retN, y_raise, y_pass, y_brk, y_cont, y_try, y_hs, kBin2, kBin1, kCmp2, kCmp1, kBool, kNot, kNeg, kCh3, kCh2, kCh1b, kCh1, kIsN, kNotN, kAnd, kOr, kIfe, kTup, kFrz, kMut, kCall, kCallk, kCallv, kBi, kMe2, kMe1, kAp3, kAp2, kAp1, kIx2, kIx1, kDg2, kDg1, kSl3, kSl2, kSl1, kIsi, kDnew, kTupr, kEs2, kEs1, kInt, kTst, kK4, kK3, kK2, kK1, kDisp, kLc, kFs4, kFs3, kFs2, kFs1, kRev2, kRev, kCat4, kCat3, kCat2, kCat1, kLis, kVal, kRng, kRng2b, kRng2, kEnum, kZip2, kZip1, kSome, kTn2, kTn1, jSeq, jSet, jPar, jAsg, jSx3, jSx2, jSx1, jSk3, jSk2, jSk1, jEx, jIf, jBody, jFor, jExc, bind_ok, bind_exc, bind_bad, then_ok, then_exc, then_bad, seq_next, seq_ret, seq_exc, seq_brk, seq_cont, seq_bad, optR_some, blR_some, slotR_some, condR_t, condR_f, condS_t, condS_f, condR_bl, condS_bl, join_and, join_or, bind_ite, then_ite, seq_ite, negR_int, notR_bl, boolR_bl, isNon_non, isNon_int, isNon_str, isNon_tup, isNon_lst, isNon_obj, sizR_0, sizR_1, sizR_2, sizR_3, sizR_4, sizR_5, sizR_6, sizR_7, sizR_8, sizR_ok, intR_int, tstR_bl, recvA_obj, recvL_lst, appR_obj, appL_ok, setKS_obj, setKO_str, setIxS_obj, valO_lst, valR_obj, recvS_str, xfR_ok, tuprR_int, lstR_some, valR_lst, valR_tup, valR_ktup, valR_str, rngR_int, rng2R_int, enumR_lst, zipR_lst, zipR_tup, callvR_ok, noX_ok, noX_ite, noX_f, bindT_name, bindT_tup, bindT_ktup, bindTs_nil, bindTs_cons, wipe_nil, wipe_cons, envS_some, envB_some, loop_next, loop_cont, loop_brk, loop_ret, loop_exc, loop_ite, tryS_exc, tryS_ret, tryS_next, endH_ret, retS_next, retS_ret, retS_exc, retS_ite, setAll, o_isi_int_non, o_isi_int_bl, o_isi_int_int, o_isi_int_str, o_isi_int_tup, o_isi_int_ktup, o_isi_int_lst, o_isi_str_non, o_isi_str_bl, o_isi_str_int, o_isi_str_str, o_isi_str_tup, o_isi_str_ktup, o_isi_str_lst, o_isi_bool_non, o_isi_bool_bl, o_isi_bool_int, o_isi_bool_str, o_isi_bool_tup, o_isi_bool_ktup, o_isi_bool_lst, o_isi_tuple_non, o_isi_tuple_bl, o_isi_tuple_int, o_isi_tuple_str, o_isi_tuple_tup, o_isi_tuple_ktup, o_isi_tuple_lst, o_isi_list_non, o_isi_list_bl, o_isi_list_int, o_isi_list_str, o_isi_list_tup, o_isi_list_ktup, o_isi_list_lst, o_add_ii, o_sub_ii, o_add_ss, o_add_tt, o_add_ll, o_mul_il, o_mul_ir, o_pow_ii, o_dget, dictG_str, dictG_int, keyOf_s, keyOf_i, getset, dnewR_3, o_mod_ii, o_fdiv_ii, o_eq_int, o_eq_str, o_eq_bl, o_ne_int, o_ne_str, o_ne_bl, o_lt_i, o_le_i, o_gt_i, o_ge_i, o_in_s, o_nin_s, o_eq_d, o_ne_d, o_len_s, o_len_t, o_len_kt, o_len_l, o_tup_l, o_tup_t, oTup_l, oLen_l, oIx_l, oLst_l, o_tup_o, o_len_o, o_all, o_any, o_str_i, o_int_i, o_sum, o_join, o_join_t, o_split, atI_0, atI_1, atI_2, atI_3, o_ix_t, o_ix_kt, o_ix_l, o_ix_o, o_ix_s, o_sl_s, o_sl_t, o_sl_l, o_lof_l, o_sof_l, o_sof_t, o_lof_o, List.getElem?_cons_zero, List.getElem?_cons_succ, List.set_cons_zero, List.set_cons_succ, Option.bind_some, List.length_cons, List.length_nil, if_true, if_false, Bool.not_true, Bool.not_false, Bool.and_true, Bool.true_and, Bool.and_false, Bool.false_and, Bool.or_true, Bool.true_or, Bool.or_false, Bool.false_or, Bool.not_not, ite_true, ite_false, reduceIte, Nat.reduceAdd, Int.reduceAdd, Int.reduceSub, Int.reduceMod, Int.reduceMul, Nat.reduceLT, reduceCtorEq, startD, List.map_cons, List.map_nil, List.replicate_succ, List.replicate_zero, List.cons_append, List.nil_append, Nat.reduceSub, decide_true, decide_false, true_and, and_true, eq_self, Int.reduceEq, Int.reduceNe, Int.reduceLT, Int.reduceLE, Nat.reduceEqDiff, Int.reduceToNat, Nat.reduceLeDiff, List.length_map, signs_mp, join_opt, ne_nil_s, ne_nil_i, ne_nil_n, isEmpty_filt, upto_z, compL_nil, Int.toNat_natCast, id_eq, List.length_set, cst0, cst1, cst2, cst3, cst4, cst5, cst6, ne_eq, not_true_eq_false, not_false_eq_true, isi_rowsD, isi_outsD, isi_intsD, len_rowsD, len_outsD, len_intsD, val_outsD, val_rowsD, val_intsD, *])
theorem ix_m1 {L : Store} {s l r o} : ixV L (machD s l r o) (.int 1) = some (rowsD l) := atI_1
theorem ix_m2 {L : Store} {s l r o} : ixV L (machD s l r o) (.int 2) = some (rowsD r) := atI_2
theorem ix_m3 {L : Store} {s l r o} : ixV L (machD s l r o) (.int 3) = some (outsD o) := atI_3
theorem ix_g2 {L : Store} {s l g} : ixV L (guardD s l g) (.int 2) = some (intsD g) := atI_2
theorem outs35 {n : Nat} {os : List (List (List Nat))} {a b c d e : D} {f : D} {K : Store} (h : smallO os) : compL (turnE (evFn fs75 (n + 7)) false (.meth .join (.cst (.str [44])) (.cons (.frz (.lc true (.slot 11) (.name 11) (.val (.slot 10)) .none [11])) .nil)) (.name 10) .none [10] [some a, some b, some c, some d, some e, some f, none, none, none, none, none, none]) (os.map strsD) K = .ok (os.map fun x => .str (TL.joinL [44] x)) K := by
  refine comp_of fun x hx => ?_
  have hb := h.b x hx
  have hb1 := hb.1
  have j2 := fun L => @o_join_l L [44] x (by have := lens_txt hb; simp only [List.length_cons, List.length_nil]; omega)
  unfold strsD
  trivial
  rw [comp_of (k := D.str) (g := D.str)]
  · trivial
  · intro t ht
    trivial
theorem good_txt {n : Nat} {g : List Int} {a b c d e f h i : D} {K : Store} (hg : smallR g) : compL (turnE (evFn fs75 (n + 7)) false (.bi .str (.cons (.slot 10) .nil)) (.name 10) .none [10] [some a, some b, some c, some d, some e, some f, some h, some i, none, none, none, none]) (g.map .int) K = .ok (g.map fun x => .str (numT x)) K := by
  refine comp_of fun x hx => ?_
  have sx := fun L => @str_small L x (hg.2 x hx)
  trivial
local macro_rules | `(tactic| trivial) => `(tactic| simp (config := {contextual := true, maxSteps := 1000000, implicitDefEqProofs := false}) (disch := first | with_reducible assumption | omega | (simp only [List.length_map, List.length_set, upto_len, List.length_cons, List.length_nil, List.length_append, big, Bool.not_eq_true, Bool.not_eq_true', Bool.not_eq_false', Bool.and_eq_true, decide_eq_true_eq, decide_eq_false_iff_not] at *; omega)) only [x_slot, x_cst, x_glob, x_fnv, x_bin, x_neg, x_not, x_cmp, x_chain, x_isN, x_notN, x_and, x_or, x_ife, x_tup, x_frz, x_mut, x_call, x_callk, x_callv, x_bi, x_split, x_join, x_index, x_append, x_ix, x_dget, x_sl, x_isi, x_dnew, x_xfld, x_tupr, x_nil, x_cons, x_onone, x_osome, x_tnone, x_tsome, x_knil, x_kcons, x_disp, x_lc, x_fsl, x_rev, x_cat, x_lis, x_val, x_rng, x_rng2, x_enum, x_zip, x_turn, x_comp, y_nil, y_cons, y_set, y_par, y_asg, y_setIx, y_setK, y_ex, y_ife, y_body, y_for, y_forW, y_turn, y_done, y_ret, y_retN, y_raise, y_pass, y_brk, y_cont, y_try, y_hs, kBin2, kBin1, kCmp2, kCmp1, kBool, kNot, kNeg, kCh3, kCh2, kCh1b, kCh1, kIsN, kNotN, kAnd, kOr, kIfe, kTup, kFrz, kMut, kCall, kCallk, kCallv, kBi, kMe2, kMe1, kAp3, kAp2, kAp1, kIx2, kIx1, kDg2, kDg1, kSl3, kSl2, kSl1, kIsi, kDnew, kTupr, kEs2, kEs1, kInt, kTst, kK4, kK3, kK2, kK1, kDisp, kLc, kFs4, kFs3, kFs2, kFs1, kRev2, kRev, kCat4, kCat3, kCat2, kCat1, kLis, kVal, kRng, kRng2b, kRng2, kEnum, kZip2, kZip1, kSome, kTn2, kTn1, jSeq, jSet, jPar, jAsg, jSx3, jSx2, jSx1, jSk3, jSk2, jSk1, jEx, jIf, jBody, jFor, jExc, bind_ok, bind_exc, bind_bad, then_ok, then_exc, then_bad, seq_next, seq_ret, seq_exc, seq_brk, seq_cont, seq_bad, optR_some, blR_some, slotR_some, condR_t, condR_f, condS_t, condS_f, condR_bl, condS_bl, join_and, join_or, bind_ite, then_ite, seq_ite, negR_int, notR_bl, boolR_bl, isNon_non, isNon_int, isNon_str, isNon_tup, isNon_lst, isNon_obj, sizR_0, sizR_1, sizR_2, sizR_3, sizR_4, sizR_5, sizR_6, sizR_7, sizR_8, sizR_ok, intR_int, tstR_bl, recvA_obj, recvL_lst, appR_obj, appL_ok, setKS_obj, setKO_str, setIxS_obj, valO_lst, valR_obj, recvS_str, xfR_ok, tuprR_int, lstR_some, valR_lst, valR_tup, valR_ktup, valR_str, rngR_int, rng2R_int, enumR_lst, zipR_lst, zipR_tup, callvR_ok, noX_ok, noX_ite, noX_f, bindT_name, bindT_tup, bindT_ktup, bindTs_nil, bindTs_cons, wipe_nil, wipe_cons, envS_some, envB_some, loop_next, loop_cont, loop_brk, loop_ret, loop_exc, loop_ite, tryS_exc, tryS_ret, tryS_next, endH_ret, retS_next, retS_ret, retS_exc, retS_ite, setAll, o_isi_int_non, o_isi_int_bl, o_isi_int_int, o_isi_int_str, o_isi_int_tup, o_isi_int_ktup, o_isi_int_lst, o_isi_str_non, o_isi_str_bl, o_isi_str_int, o_isi_str_str, o_isi_str_tup, o_isi_str_ktup, o_isi_str_lst, o_isi_bool_non, o_isi_bool_bl, o_isi_bool_int, o_isi_bool_str, o_isi_bool_tup, o_isi_bool_ktup, o_isi_bool_lst, o_isi_tuple_non, o_isi_tuple_bl, o_isi_tuple_int, o_isi_tuple_str, o_isi_tuple_tup, o_isi_tuple_ktup, o_isi_tuple_lst, o_isi_list_non, o_isi_list_bl, o_isi_list_int, o_isi_list_str, o_isi_list_tup, o_isi_list_ktup, o_isi_list_lst, o_add_ii, o_sub_ii, o_add_ss, o_add_tt, o_add_ll, o_mul_il, o_mul_ir, o_pow_ii, o_dget, dictG_str, dictG_int, keyOf_s, keyOf_i, getset, dnewR_3, o_mod_ii, o_fdiv_ii, o_eq_int, o_eq_str, o_eq_bl, o_ne_int, o_ne_str, o_ne_bl, o_lt_i, o_le_i, o_gt_i, o_ge_i, o_in_s, o_nin_s, o_eq_d, o_ne_d, o_len_s, o_len_t, o_len_kt, o_len_l, o_tup_l, o_tup_t, oTup_l, oLen_l, oIx_l, oLst_l, o_tup_o, o_len_o, o_all, o_any, o_str_i, o_int_i, o_sum, o_join, o_join_t, o_split, atI_0, atI_1, atI_2, atI_3, o_ix_t, o_ix_kt, o_ix_l, o_ix_o, o_ix_s, o_sl_s, o_sl_t, o_sl_l, o_lof_l, o_sof_l, o_sof_t, o_lof_o, List.getElem?_cons_zero, List.getElem?_cons_succ, List.set_cons_zero, List.set_cons_succ, Option.bind_some, List.length_cons, List.length_nil, if_true, if_false, Bool.not_true, Bool.not_false, Bool.and_true, Bool.true_and, Bool.and_false, Bool.false_and, Bool.or_true, Bool.true_or, Bool.or_false, Bool.false_or, Bool.not_not, ite_true, ite_false, reduceIte, Nat.reduceAdd, Int.reduceAdd, Int.reduceSub, Int.reduceMod, Int.reduceMul, Nat.reduceLT, reduceCtorEq, startD, List.map_cons, List.map_nil, List.replicate_succ, List.replicate_zero, List.cons_append, List.nil_append, Nat.reduceSub, decide_true, decide_false, true_and, and_true, eq_self, Int.reduceEq, Int.reduceNe, Int.reduceLT, Int.reduceLE, Nat.reduceEqDiff, Int.reduceToNat, Nat.reduceLeDiff, List.length_map, signs_mp, join_opt, ne_nil_s, ne_nil_i, ne_nil_n, isEmpty_filt, upto_z, compL_nil, Int.toNat_natCast, id_eq, List.length_set, cst0, cst1, cst2, cst3, cst4, cst5, cst6, ne_eq, not_true_eq_false, not_false_eq_true, isi_rowsD, isi_outsD, isi_intsD, len_rowsD, len_outsD, len_intsD, val_outsD, val_rowsD, val_intsD, ix_m1, ix_m2, ix_m3, ix_g2, *])
theorem s_35 {n p B : Nat} {s : List Nat} {L : Store} (h : Dr p (B + 10000) L) (s1 : 2 ≤ s.length) (s2 : s.length ≤ 8) (s3 : s.Nodup) (s4 : ∀ c ∈ s, c ∈ ev8) :
    ∃ o, callF (evFn fs75 (n + 8)) 35 [.obj p, .str s, .int 12] L = .ok (.bl true) (L.set p o) ∧ Dr p B (L.set p o) := by
  obtain ⟨a1, o1, e1, a10, a11, D1⟩ := d_digit f19 f21 (n := n + 5) (m := 12) (B := B + 9999) h (by omega) (by omega)
  obtain ⟨a2, o2, e2, a20, a21, D2⟩ := d_digit f19 f21 (n := n + 5) (m := 12) (B := B + 9998) D1 (by omega) (by omega)
  obtain ⟨i1, rfl⟩ := Int.eq_ofNat_of_zero_le a10
  obtain ⟨i2, rfl⟩ := Int.eq_ofNat_of_zero_le a20
  have q1 : s.length * (1 + i1) ≤ 8 * 12 := Nat.mul_le_mul s2 (by omega)
  have q2 : s.length * (1 + i2) ≤ 8 * 12 := Nat.mul_le_mul s2 (by omega)
  have q3 : 2 * (1 + i2) * s.length * (1 + i1) ≤ 2 * 12 * 8 * 12 := Nat.mul_le_mul (Nat.mul_le_mul (by omega) s2) (by omega)
  obtain ⟨l, r, os, o3, e3, D3, lq, rq, oq⟩ := d_sized f19 f21 f23 f24 (n := n + 3) (p := p) (B := B + 7000) (lf := 1 + i1) (rg := 1 + i2) (s := s) (D2.less (by omega)) (by omega) (by omega) (by omega) (by omega) (by omega) (by omega)
  obtain ⟨a4, o4, e4, a40, a41, D4⟩ := d_digit f19 f21 (n := n + 5) (m := 12) (B := B + 6999) D3 (by omega) (by omega)
  obtain ⟨i4, rfl⟩ := Int.eq_ofNat_of_zero_le a40
  have q4 : s.length * (1 + i4) ≤ 8 * 12 := Nat.mul_le_mul s2 (by omega)
  obtain ⟨rs, o5, e5, D5, rsl, rsq⟩ := d_rows f19 f21 f23 (n := n + 4) (p := p) (B := B + 6000) (many := 1 + i4) (s := s) (D4.less (by omega)) (by omega) (by omega) (by omega)
  have mo : MachOK s l r os := ⟨s1, s2, s3, s4, by omega, by omega, by rw [lq.1]; exact lq.2, by omega, by omega, by rw [rq.1]; exact rq.2, by omega, by rw [rq.1]; exact oq.2⟩
  obtain ⟨js, o6, e6, D6, jq⟩ := good35 (n := n) (p := p) (N := B + 48) (s := s) (a := some (machD s l r os)) (b := none) (l := rs) (D5.less (by omega))
  have go : GuardOK s rs (js.map fun j : Nat => (j : Int)) := ⟨s1, s2, s3, s4, by omega, by omega, by rw [rsl]; exact rsq, ⟨js, jq, rfl⟩⟩
  have F6 := (((((DrF.refl h).step D1).step D2).step D3).step D4).step D5 |>.step D6
  have M6 := (((((DrM.of h).step D1).step D2).step D3).step D4).step D5 |>.step D6
  have g6 : (js.map fun j : Nat => D.int (j : Int)) = (js.map fun j : Nat => (j : Int)).map .int := by rw [List.map_map]; rfl
  have to1 := machT_ok mo
  have to2 := guardT_ok go
  have e3 : callF (evFn fs75 (n + 7)) 24 [.obj p, .str s, .int (1 + (i1 : Int)), .int (1 + (i2 : Int))] ((L.set p o1).set p o2) = .ok (machD s l r os) (((L.set p o1).set p o2).set p o3) := by
    rw [← show ((1 + i1 : Nat) : Int) = 1 + (i1 : Int) from by omega, ← show ((1 + i2 : Nat) : Int) = 1 + (i2 : Int) from by omega]
    exact e3
  have e5 : callF (evFn fs75 (n + 7)) 23 [.obj p, .int (1 + (i4 : Int)), .str s] ((((L.set p o1).set p o2).set p o3).set p o4) = .ok (rowsD rs) (((((L.set p o1).set p o2).set p o3).set p o4).set p o5) := by
    rw [← show ((1 + i4 : Nat) : Int) = 1 + (i4 : Int) from by omega]
    exact e5
  have rs60 : rs.length ≤ 60 := by omega
  have l60 : l.length ≤ 60 := by omega
  clear D1 D2 D3 D4 D5 a10 a11 a20 a21 a40 a41 q1 q2 q3 q4 lq rq oq rsq jq rsl
  obtain ⟨g, hg⟩ : ∃ g, g = js.map (fun j : Nat => (j : Int)) := ⟨_, rfl⟩
  rw [← hg] at g6 to2 go
  clear hg
  have gfold : D.tup (js.map fun j : Nat => D.int (j : Int)) = intsD g := by rw [g6]; rfl
  have gfold2 : D.tup [.str s, rowsD rs, intsD g] = guardD s rs g := rfl
  clear g6
  have hlen := F6.len
  generalize hK : ((((((L.set p o1).set p o2).set p o3).set p o4).set p o5).set p o6) = K at *
  clear hK F6
  have sl := smallL_of (by have := mo.s2; omega) mo.l2 mo.l3
  have sr := smallL_of (by have := mo.s2; omega) mo.r2 mo.r3
  have so := smallO_of mo.s2 mo.r2 (by rw [mo.o1]; exact mo.l2) mo.o2
  have sg := go.gs.1
  have srs := smallL_of (by have := go.s2; omega) go.l2 go.l3
  have v28l := @s_28 (n + 6) l sl
  have v28r := @s_28 (n + 6) r sr
  have v28s := @s_28 (n + 6) rs srs
  have v10 := @s_10 (n + 1) s l r os mo.s2 sl sr so mo.wrong
  have v11 := @s_11 (n + 1) s rs g go.s2 srs sg go.wrong
  have v17 : ∀ L, callF (evFn fs75 (n + 7)) 17 [.str (machT s l r os)] L = .ok (machD s l r os) L := by
    have := @s_17 (n + 1) (machT s l r os) (by have := to1.b; omega)
    rw [mo.back] at this
    exact this
  have v18 : ∀ L, callF (evFn fs75 (n + 7)) 18 [.str (guardT s rs g)] L = .ok (guardD s rs g) L := by
    have := @s_18 (n + 1) (guardT s rs g) (by have := to2.b; omega)
    rw [go.back] at this
    exact this
  have w27 := @s_27M n (guardT s rs g) (by have := to2.b; omega)
  have w32 := @s_32 (n + 4) (guardT s rs g) (by have := to2.b; omega)
  have n1 := fun L => @ne_self L _ (shp_mach (n := 61) s l r os)
  have n2 := fun L => @ne_self L _ (shp_guard (n := 61) s rs g)
  have n3 := fun L => @eq_self_d L _ (shp_catM (guardT s rs g))
  have c1 := fun (a b c d e f : D) K => @outs35 n os a b c d e f K so
  have c2 := fun (a b c d e f h i : D) K => @good_txt n g a b c d e f h i K sg
  have os60 : os.length ≤ 60 := so.a
  have g60 : g.length ≤ 60 := sg.1
  have hz1 : lens (os.map fun x => TL.joinL [44] x) + [59].length * os.length ≤ 16777216 := by
    have : lens (os.map fun x => TL.joinL [44] x) ≤ 30000 := lens_outs so
    simp only [List.length_cons, List.length_nil]; omega
  have hz2 : lens (g.map fun x => numT x) + [44].length * g.length ≤ 16777216 := by
    have q : lens (g.map fun x => numT x) ≤ 120 := lens_row sg
    simp only [List.length_cons, List.length_nil]; omega
  have of1 : TL.joinL [59] (os.map fun x => TL.joinL [44] x) = outsT os := rfl
  have of2 : TL.joinL [44] (g.map fun x => numT x) = rowT g := rfl
  have j1 := fun L => @o_join_l L [124] [s, tabT l, tabT r, outsT os] (by
    have := tabT_len sl
    have := tabT_len sr
    have := outsT_len so
    simp only [lens, List.map_cons, List.map_nil, List.sum_cons, List.sum_nil, List.length_cons, List.length_nil]
    omega)
  have j2 := fun L => @o_join_l L [124] [s, tabT rs, rowT g] (by
    have := tabT_len srs
    have := rowT_len sg
    simp only [lens, List.map_cons, List.map_nil, List.sum_cons, List.sum_nil, List.length_cons, List.length_nil]
    omega)
  simp only [List.map_cons, List.map_nil] at j1 j2
  have jf1 : TL.joinL [124] [s, tabT l, tabT r, outsT os] = machT s l r os := rfl
  have jf2 : TL.joinL [124] [s, tabT rs, rowT g] = guardT s rs g := rfl
  rw [jf1] at j1
  rw [jf2] at j2
  clear jf1 jf2
  generalize machT s l r os = T1 at *
  generalize guardT s rs g = T2 at *
  have k0 : (K ++ [O.lst [.str T1]])[L.length]? = some (.lst [.str T1]) := by rw [List.getElem?_append_right (by omega), hlen, Nat.sub_self]; rfl
  have hl7 : L.length < (K ++ [O.lst [.str T1]]).length := by rw [List.length_append, hlen]; simp
  have M7 : DrM p L (B + 48) ((K ++ [O.lst [.str T1]]).set L.length (.lst [.str T1, .str T2])) := (M6.app rfl).own (Nat.le_refl _) rfl
  have k7 : ((K ++ [O.lst [.str T1]]).set L.length (.lst [.str T1, .str T2]))[L.length]? = some (.lst [.str T1, .str T2]) := List.getElem?_set_self hl7
  generalize hK7 : (K ++ [O.lst [.str T1]]).set L.length (.lst [.str T1, .str T2]) = K7 at *
  have loop : ∃ ρ' K8, forL (bodyF (evFn fs75 (n + 7)) (.name 8) (.cons (.set 9 (.frz (.lc false (.call 34 (.cons (.slot 0) (.cons (.slot 11) .nil))) (.name 11) (.val (.slot 7)) .none [11])))
(.cons (.ife (.cmp .ne (.call 27 (.cons (.fnv 17) (.cons (.ix (.slot 9) (.cst (.int 0))) .nil))) (.call 32 (.cons (.ix (.slot 9) (.cst (.int 0))) .nil)))
(.cons (.ret (.cst (.bl false)))
.nil)
.nil)
(.cons (.ife (.cmp .ne (.call 27 (.cons (.fnv 18) (.cons (.ix (.slot 9) (.cst (.int 1))) .nil))) (.call 33 (.cons (.ix (.slot 9) (.cst (.int 1))) .nil)))
(.cons (.ret (.cst (.bl false)))
.nil)
.nil)
.nil)))) (upto 0 8) [some (.obj p), some (.str s), some (.int 12), some (machD s l r os), some (rowsD rs), some (guardD s rs g), some (.str (outsT os)), some (.obj L.length), none, none, none, none] K7 = .next ρ' K8 ∧ (∃ x8 x9, ρ' = [some (.obj p), some (.str s), some (.int 12), some (machD s l r os), some (rowsD rs), some (guardD s rs g), some (.str (outsT os)), some (.obj L.length), x8, x9, none, none]) ∧ DrM p L B K8 ∧ K8[L.length]? = some (.lst [.str T1, .str T2]) := by
    rw [upto0]
    exact for_st (k := fun i : Nat => D.int (i : Int)) (I := fun _ N ρ K8 => (∃ x8 x9, ρ = [some (.obj p), some (.str s), some (.int 12), some (machD s l r os), some (rowsD rs), some (guardD s rs g), some (.str (outsT os)), some (.obj L.length), x8, x9, none, none]) ∧ DrM p L N K8 ∧ K8[L.length]? = some (.lst [.str T1, .str T2])) 6 (w := List.range 8) (n := B) ⟨⟨_, _, rfl⟩, M7, k7⟩ (fun d a r hw N ρ K8 hI => by
      obtain ⟨⟨x8, x9, rfl⟩, hM, hk⟩ := hI
      exact turn35 (n := n) (a : Int) to1 to2 hM (Nat.le_refl _) hk)
  obtain ⟨ρ', K8, el, ⟨x8, x9, rfl⟩, M8, k8⟩ := loop
  have run : evFn fs75 (n + 8) 35 [.obj p, .str s, .int 12] L = .ok (.bl true) K8 := by
    refine run_to P75_35 rfl rfl ?_
    clear M8 M7 M6 to1 to2 mo go h hl7 sl sr so sg srs
    unfold P75_35
    trivial
  have := callF_dr (cf := evFn fs75 (n + 8)) (f := 35) (xs := [.obj p, .str s, .int 12]) (L := L) rfl run M8.toF rfl
  exact this

end EV
end

section
namespace EV
open PySem
local macro_rules | `(tactic| trivial) => `(tactic| simp (config := {contextual := true, maxSteps := 1000000, implicitDefEqProofs := false}) (disch := first | with_reducible assumption | omega | (simp only [List.length_map, List.length_set, upto_len, List.length_cons, List.length_nil, List.length_append, big, Bool.not_eq_true, Bool.not_eq_true', Bool.not_eq_false', Bool.and_eq_true, decide_eq_true_eq, decide_eq_false_iff_not] at *; omega)) only [x_slot, x_cst, x_glob, x_fnv, x_bin, x_neg, x_not, x_cmp, x_chain, x_isN, x_notN, x_and, x_or, x_ife, x_tup, x_frz, x_mut, x_call, x_callk, x_callv, x_bi, x_split, x_join, x_index, x_append, x_ix, x_dget, x_sl, x_isi, x_dnew, x_xfld, x_tupr, x_nil, x_cons, x_onone, x_osome, x_tnone, x_tsome, x_knil, x_kcons, x_disp, x_lc, x_fsl, x_rev, x_cat, x_lis, x_val, x_rng, x_rng2, x_enum, x_zip, x_turn, x_comp, y_nil, y_cons, y_set, y_par, y_asg, y_setIx, y_setK, y_ex, y_ife, y_body, y_for, y_forW, y_turn, y_done, y_ret, y_retN, y_raise, y_pass, y_brk, y_cont, y_try, y_hs, kBin2, kBin1, kCmp2, kCmp1, kBool, kNot, kNeg, kCh3, kCh2, kCh1b, kCh1, kIsN, kNotN, kAnd, kOr, kIfe, kTup, kFrz, kMut, kCall, kCallk, kCallv, kBi, kMe2, kMe1, kAp3, kAp2, kAp1, kIx2, kIx1, kDg2, kDg1, kSl3, kSl2, kSl1, kIsi, kDnew, kTupr, kEs2, kEs1, kInt, kTst, kK4, kK3, kK2, kK1, kDisp, kLc, kFs4, kFs3, kFs2, kFs1, kRev2, kRev, kCat4, kCat3, kCat2, kCat1, kLis, kVal, kRng, kRng2b, kRng2, kEnum, kZip2, kZip1, kSome, kTn2, kTn1, jSeq, jSet, jPar, jAsg, jSx3, jSx2, jSx1, jSk3, jSk2, jSk1, jEx, jIf, jBody, jFor, jExc, bind_ok, bind_exc, bind_bad, then_ok, then_exc, then_bad, seq_next, seq_ret, seq_exc, seq_brk, seq_cont, seq_bad, optR_some, blR_some, slotR_some, condR_t, condR_f, condS_t, condS_f, condR_bl, condS_bl, join_and, join_or, bind_ite, then_ite, seq_ite, negR_int, notR_bl, boolR_bl, isNon_non, isNon_int, isNon_str, isNon_tup, isNon_lst, isNon_obj, sizR_0, sizR_1, sizR_2, sizR_3, sizR_4, sizR_5, sizR_6, sizR_7, sizR_8, sizR_ok, intR_int, tstR_bl, recvA_obj, recvL_lst, appR_obj, appL_ok, setKS_obj, setKO_str, setIxS_obj, valO_lst, valR_obj, recvS_str, xfR_ok, tuprR_int, lstR_some, valR_lst, valR_tup, valR_ktup, valR_str, rngR_int, rng2R_int, enumR_lst, zipR_lst, zipR_tup, callvR_ok, noX_ok, noX_ite, noX_f, bindT_name, bindT_tup, bindT_ktup, bindTs_nil, bindTs_cons, wipe_nil, wipe_cons, envS_some, envB_some, loop_next, loop_cont, loop_brk, loop_ret, loop_exc, loop_ite, tryS_exc, tryS_ret, tryS_next, endH_ret, retS_next, retS_ret, retS_exc, retS_ite, setAll, o_isi_int_non, o_isi_int_bl, o_isi_int_int, o_isi_int_str, o_isi_int_tup, o_isi_int_ktup, o_isi_int_lst, o_isi_str_non, o_isi_str_bl, o_isi_str_int, o_isi_str_str, o_isi_str_tup, o_isi_str_ktup, o_isi_str_lst, o_isi_bool_non, o_isi_bool_bl, o_isi_bool_int, o_isi_bool_str, o_isi_bool_tup, o_isi_bool_ktup, o_isi_bool_lst, o_isi_tuple_non, o_isi_tuple_bl, o_isi_tuple_int, o_isi_tuple_str, o_isi_tuple_tup, o_isi_tuple_ktup, o_isi_tuple_lst, o_isi_list_non, o_isi_list_bl, o_isi_list_int, o_isi_list_str, o_isi_list_tup, o_isi_list_ktup, o_isi_list_lst, o_add_ii, o_sub_ii, o_add_ss, o_add_tt, o_add_ll, o_mul_il, o_mul_ir, o_pow_ii, o_dget, dictG_str, dictG_int, keyOf_s, keyOf_i, getset, dnewR_3, o_mod_ii, o_fdiv_ii, o_eq_int, o_eq_str, o_eq_bl, o_ne_int, o_ne_str, o_ne_bl, o_lt_i, o_le_i, o_gt_i, o_ge_i, o_in_s, o_nin_s, o_eq_d, o_ne_d, o_len_s, o_len_t, o_len_kt, o_len_l, o_tup_l, o_tup_t, oTup_l, oLen_l, oIx_l, oLst_l, o_tup_o, o_len_o, o_all, o_any, o_str_i, o_int_i, o_sum, o_join, o_join_t, o_split, atI_0, atI_1, atI_2, atI_3, o_ix_t, o_ix_kt, o_ix_l, o_ix_o, o_ix_s, o_sl_s, o_sl_t, o_sl_l, o_lof_l, o_sof_l, o_sof_t, o_lof_o, List.getElem?_cons_zero, List.getElem?_cons_succ, List.set_cons_zero, List.set_cons_succ, Option.bind_some, List.length_cons, List.length_nil, if_true, if_false, Bool.not_true, Bool.not_false, Bool.and_true, Bool.true_and, Bool.and_false, Bool.false_and, Bool.or_true, Bool.true_or, Bool.or_false, Bool.false_or, Bool.not_not, ite_true, ite_false, reduceIte, Nat.reduceAdd, Int.reduceAdd, Int.reduceSub, Int.reduceMod, Int.reduceMul, Nat.reduceLT, reduceCtorEq, startD, List.map_cons, List.map_nil, List.replicate_succ, List.replicate_zero, List.cons_append, List.nil_append, Nat.reduceSub, decide_true, decide_false, true_and, and_true, eq_self, Int.reduceEq, Int.reduceNe, Int.reduceLT, Int.reduceLE, Nat.reduceEqDiff, Int.reduceToNat, Nat.reduceLeDiff, List.length_map, signs_mp, join_opt, ne_nil_s, ne_nil_i, ne_nil_n, isEmpty_filt, upto_z, compL_nil, Int.toNat_natCast, id_eq, List.length_set, cst0, cst1, cst2, cst3, cst4, cst5, cst6, ne_eq, not_true_eq_false, not_false_eq_true, *])
local macro_rules | `(tactic| bv_omega) => `(tactic| (first | rfl | (simp [-List.all_eq_true] at *; done) | (simp [-List.all_eq_true] at *; omega) | (simp [-List.all_eq_true] at *; grind)))
theorem ne_non {L : Store} {w : List Nat} : cmpV L .ne .non (.str w) = some true := by
  rw [o_ne_d (by unfold D.shp; rfl) (by unfold D.shp; rfl)]
  simp [D.eqv]
local macro_rules | `(tactic| trivial) => `(tactic| simp (config := {contextual := true, maxSteps := 1000000, implicitDefEqProofs := false}) (disch := first | with_reducible assumption | omega | (simp only [List.length_map, List.length_set, upto_len, List.length_cons, List.length_nil, List.length_append, big, Bool.not_eq_true, Bool.not_eq_true', Bool.not_eq_false', Bool.and_eq_true, decide_eq_true_eq, decide_eq_false_iff_not] at *; omega)) only [x_slot, x_cst, x_glob, x_fnv, x_bin, x_neg, x_not, x_cmp, x_chain, x_isN, x_notN, x_and, x_or, x_ife, x_tup, x_frz, x_mut, x_call, x_callk, x_callv, x_bi, x_split, x_join, x_index, x_append, x_ix, x_dget, x_sl, x_isi, x_dnew, x_xfld, x_tupr, x_nil, x_cons, x_onone, x_osome, x_tnone, x_tsome, x_knil, x_kcons, x_disp, x_lc, x_fsl, x_rev, x_cat, x_lis, x_val, x_rng, x_rng2, x_enum, x_zip, x_turn, x_comp, y_nil, y_cons, y_set, y_par, y_asg, y_setIx, y_setK, y_ex, y_ife, y_body, y_for, y_forW, y_turn, y_done, y_ret, y_retN, y_raise, y_pass, y_brk, y_cont, y_try, y_hs, kBin2, kBin1, kCmp2, kCmp1, kBool, kNot, kNeg, kCh3, kCh2, kCh1b, kCh1, kIsN, kNotN, kAnd, kOr, kIfe, kTup, kFrz, kMut, kCall, kCallk, kCallv, kBi, kMe2, kMe1, kAp3, kAp2, kAp1, kIx2, kIx1, kDg2, kDg1, kSl3, kSl2, kSl1, kIsi, kDnew, kTupr, kEs2, kEs1, kInt, kTst, kK4, kK3, kK2, kK1, kDisp, kLc, kFs4, kFs3, kFs2, kFs1, kRev2, kRev, kCat4, kCat3, kCat2, kCat1, kLis, kVal, kRng, kRng2b, kRng2, kEnum, kZip2, kZip1, kSome, kTn2, kTn1, jSeq, jSet, jPar, jAsg, jSx3, jSx2, jSx1, jSk3, jSk2, jSk1, jEx, jIf, jBody, jFor, jExc, bind_ok, bind_exc, bind_bad, then_ok, then_exc, then_bad, seq_next, seq_ret, seq_exc, seq_brk, seq_cont, seq_bad, optR_some, blR_some, slotR_some, condR_t, condR_f, condS_t, condS_f, condR_bl, condS_bl, join_and, join_or, bind_ite, then_ite, seq_ite, negR_int, notR_bl, boolR_bl, isNon_non, isNon_int, isNon_str, isNon_tup, isNon_lst, isNon_obj, sizR_0, sizR_1, sizR_2, sizR_3, sizR_4, sizR_5, sizR_6, sizR_7, sizR_8, sizR_ok, intR_int, tstR_bl, recvA_obj, recvL_lst, appR_obj, appL_ok, setKS_obj, setKO_str, setIxS_obj, valO_lst, valR_obj, recvS_str, xfR_ok, tuprR_int, lstR_some, valR_lst, valR_tup, valR_ktup, valR_str, rngR_int, rng2R_int, enumR_lst, zipR_lst, zipR_tup, callvR_ok, noX_ok, noX_ite, noX_f, bindT_name, bindT_tup, bindT_ktup, bindTs_nil, bindTs_cons, wipe_nil, wipe_cons, envS_some, envB_some, loop_next, loop_cont, loop_brk, loop_ret, loop_exc, loop_ite, tryS_exc, tryS_ret, tryS_next, endH_ret, retS_next, retS_ret, retS_exc, retS_ite, setAll, o_isi_int_non, o_isi_int_bl, o_isi_int_int, o_isi_int_str, o_isi_int_tup, o_isi_int_ktup, o_isi_int_lst, o_isi_str_non, o_isi_str_bl, o_isi_str_int, o_isi_str_str, o_isi_str_tup, o_isi_str_ktup, o_isi_str_lst, o_isi_bool_non, o_isi_bool_bl, o_isi_bool_int, o_isi_bool_str, o_isi_bool_tup, o_isi_bool_ktup, o_isi_bool_lst, o_isi_tuple_non, o_isi_tuple_bl, o_isi_tuple_int, o_isi_tuple_str, o_isi_tuple_tup, o_isi_tuple_ktup, o_isi_tuple_lst, o_isi_list_non, o_isi_list_bl, o_isi_list_int, o_isi_list_str, o_isi_list_tup, o_isi_list_ktup, o_isi_list_lst, o_add_ii, o_sub_ii, o_add_ss, o_add_tt, o_add_ll, o_mul_il, o_mul_ir, o_pow_ii, o_dget, dictG_str, dictG_int, keyOf_s, keyOf_i, getset, dnewR_3, o_mod_ii, o_fdiv_ii, o_eq_int, o_eq_str, o_eq_bl, o_ne_int, o_ne_str, o_ne_bl, o_lt_i, o_le_i, o_gt_i, o_ge_i, o_in_s, o_nin_s, o_eq_d, o_ne_d, o_len_s, o_len_t, o_len_kt, o_len_l, o_tup_l, o_tup_t, oTup_l, oLen_l, oIx_l, oLst_l, o_tup_o, o_len_o, o_all, o_any, o_str_i, o_int_i, o_sum, o_join, o_join_t, o_split, atI_0, atI_1, atI_2, atI_3, o_ix_t, o_ix_kt, o_ix_l, o_ix_o, o_ix_s, o_sl_s, o_sl_t, o_sl_l, o_lof_l, o_sof_l, o_sof_t, o_lof_o, List.getElem?_cons_zero, List.getElem?_cons_succ, List.set_cons_zero, List.set_cons_succ, Option.bind_some, List.length_cons, List.length_nil, if_true, if_false, Bool.not_true, Bool.not_false, Bool.and_true, Bool.true_and, Bool.and_false, Bool.false_and, Bool.or_true, Bool.true_or, Bool.or_false, Bool.false_or, Bool.not_not, ite_true, ite_false, reduceIte, Nat.reduceAdd, Int.reduceAdd, Int.reduceSub, Int.reduceMod, Int.reduceMul, Nat.reduceLT, reduceCtorEq, startD, List.map_cons, List.map_nil, List.replicate_succ, List.replicate_zero, List.cons_append, List.nil_append, Nat.reduceSub, decide_true, decide_false, true_and, and_true, eq_self, Int.reduceEq, Int.reduceNe, Int.reduceLT, Int.reduceLE, Nat.reduceEqDiff, Int.reduceToNat, Nat.reduceLeDiff, List.length_map, signs_mp, join_opt, ne_nil_s, ne_nil_i, ne_nil_n, isEmpty_filt, upto_z, compL_nil, Int.toNat_natCast, id_eq, List.length_set, cst0, cst1, cst2, cst3, cst4, cst5, cst6, ne_eq, not_true_eq_false, not_false_eq_true, isi_rowsD, isi_outsD, isi_intsD, len_rowsD, len_outsD, len_intsD, val_outsD, val_rowsD, val_intsD, ne_non, *])
theorem bad15 {n : Nat} {x : D} (hp : x.pure = true) (h : ∀ L, isiV .str L x = some false) : ∀ L, callF (evFn fs75 (n + 1)) 15 [x] L = .exc 2 .non L := by
  refine callF_ofE (L1 := []) (run_to P75_15 rfl rfl ?_) (by simp [purAll, hp]) rfl
  unfold P75_15
  trivial
theorem bad17 {n : Nat} {x : D} (hp : x.pure = true) (h : ∀ L, isiV .str L x = some false) : ∀ L, callF (evFn fs75 (n + 2)) 17 [x] L = .exc 2 .non L := by
  have e := @bad15 n x hp h
  refine callF_ofE (L1 := []) (run_to P75_17 rfl rfl ?_) (by simp [purAll, hp]) rfl
  unfold P75_17
  trivial
theorem bad18 {n : Nat} {x : D} (hp : x.pure = true) (h : ∀ L, isiV .str L x = some false) : ∀ L, callF (evFn fs75 (n + 2)) 18 [x] L = .exc 2 .non L := by
  have e := @bad15 n x hp h
  refine callF_ofE (L1 := []) (run_to P75_18 rfl rfl ?_) (by simp [purAll, hp]) rfl
  unfold P75_18
  trivial
theorem bad5 {n : Nat} {x : D} (hp : x.pure = true) (h : (∀ L, isiV .tuple L x = some false) ∨ ∃ d, x = .tup [d]) : ∀ L, callF (evFn fs75 (n + 1)) 5 [x] L = .ok .non L := by
  refine callF_of (L1 := []) (run_to P75_5 rfl rfl ?_) (by simp [purAll, hp]) rfl
  rcases h with h | ⟨d, rfl⟩
  · unfold P75_5
    trivial
  · unfold P75_5
    trivial
theorem bad7 {n : Nat} {x : D} (hp : x.pure = true) (h : (∀ L, isiV .tuple L x = some false) ∨ ∃ d, x = .tup [d]) : ∀ L, callF (evFn fs75 (n + 1)) 7 [x] L = .ok .non L := by
  refine callF_of (L1 := []) (run_to P75_7 rfl rfl ?_) (by simp [purAll, hp]) rfl
  rcases h with h | ⟨d, rfl⟩
  · unfold P75_7
    trivial
  · unfold P75_7
    trivial
theorem bad10 {n : Nat} {x : D} (hp : x.pure = true) (h : (∀ L, isiV .tuple L x = some false) ∨ ∃ d, x = .tup [d]) : ∀ L, callF (evFn fs75 (n + 3)) 10 [x] L = .exc 0 .non L := by
  have e := @bad5 n x hp h
  clear h
  have e6 : ∀ L, callF (evFn fs75 (n + 2)) 6 [x] L = .exc 0 .non L := by
    refine callF_ofE (L1 := []) (run_to P75_6 rfl rfl ?_) (by simp [purAll, hp]) rfl
    unfold P75_6
    trivial
  refine callF_ofE (L1 := []) (run_to P75_10 rfl rfl ?_) (by simp [purAll, hp]) rfl
  unfold P75_10
  trivial
theorem bad11 {n : Nat} {x : D} (hp : x.pure = true) (h : (∀ L, isiV .tuple L x = some false) ∨ ∃ d, x = .tup [d]) : ∀ L, callF (evFn fs75 (n + 3)) 11 [x] L = .exc 1 .non L := by
  have e := @bad7 n x hp h
  clear h
  have e6 : ∀ L, callF (evFn fs75 (n + 2)) 8 [x] L = .exc 1 .non L := by
    refine callF_ofE (L1 := []) (run_to P75_8 rfl rfl ?_) (by simp [purAll, hp]) rfl
    unfold P75_8
    trivial
  refine callF_ofE (L1 := []) (run_to P75_11 rfl rfl ?_) (by simp [purAll, hp]) rfl
  unfold P75_11
  trivial
theorem odd10 {n : Nat} : ∀ L, callF (evFn fs75 (n + 6)) 10 [machD [97, 98] [[0, 0]] [[0, 1]] []] L = .exc 0 (.str wRights) L := by
  have hw : wrongM [97, 98] [[0, 0]] [[0, 1]] [] = wRights := by decide
  have e := (@s_6 n [97, 98] [[0, 0]] [[0, 1]] [] ⟨by simp, by simp, by simp, by simp, by simp, by simp, by simp, by simp⟩).2 (by rw [hw]; decide)
  rw [hw] at e
  refine callF_ofE (L1 := []) (run_to P75_10 rfl rfl ?_) (by simp [purAll, machD_pure]) rfl
  unfold P75_10
  trivial
def pairsA (a : Int) : List Int → List (Int × Int)
  | [] => []
  | c :: r => (a, c) :: pairsA (a + 1) r
theorem numbered_pairs : ∀ (l : List Int) (a : Int), numbered a (l.map .int) = (pairsA a l).map fun q => .tup [.int q.1, .int q.2]
  | [], _ => rfl
  | c :: r, a => by rw [List.map_cons, numbered, numbered_pairs r (a + 1)]; rfl
theorem pairsA_mem : ∀ (l : List Int) (a : Int), ∀ q ∈ pairsA a l, a ≤ q.1 ∧ q.1 < a + l.length
  | [], _, q, h => by simp [pairsA] at h
  | c :: r, a, q, h => by
    rcases List.mem_cons.mp h with rfl | h
    · simp only [List.length_cons]; omega
    · have := pairsA_mem r (a + 1) q h
      simp only [List.length_cons]
      omega
theorem cutL_map {α β : Type} (g : α → β) (xs : List α) (lo hi : Option Int) : cutL (xs.map g) lo hi = (cutL xs lo hi).map g := by
  unfold cutL
  rw [List.length_map, ← List.map_drop, ← List.map_take]
theorem turn36 {n : Nat} {sc : List D} {a c d : Option D} {k ce : Int} {L : Store} (h0 : 0 ≤ k) (h1 : k ≤ 1000) (hs : storeP L = true) :
    ∃ (ρ' : Env) (L' : Store), bodyF (evFn fs75 (n + 8)) (.tup (.cons (.name 3) (.cons (.name 4) .nil))) (.cons (.set 1 (.callk 20 (.cons (.slot 4) (.cons (.slot 3) .nil))))
(.cons (.ife (.not (.call 35 (.cons (.slot 1) (.cons (.call 22 (.cons (.slot 1) (.cons (.cst (.int 5)) .nil))) (.cons (.cst (.int 12)) .nil)))))
(.cons (.ret (.cst (.bl false)))
.nil)
.nil)
.nil)) (.tup [.int k, .int ce]) [some (.lst sc), a, none, c, d, none, none] L = .next ρ' L' ∧ (∃ a c d, ρ' = [some (.lst sc), a, none, c, d, none, none]) ∧ storeP L' = true := by
  obtain ⟨o, e1, ho⟩ := d_draw f20 (n := n + 7) (B := 0 + 10000 + 9) (c := ce) (k := k) h0 h1 (by omega)
  have e1 := e1 L
  have hD : Dr L.length (0 + 10000 + 9) (L ++ [o]) := ⟨by rw [List.length_append]; simp, ⟨o, by simp, ho⟩, storeP_app hs (by simp [storeP, ho.pure])⟩
  obtain ⟨s, o2, e2, D2, s1, s2, s3, s4⟩ := d_signs f19 f21 f22 (n := n + 5) (p := L.length) (B := 0 + 10000) (most := 5) hD (by omega) (by omega)
  obtain ⟨o3, e3, D3⟩ := s_35 (n := n) (p := L.length) (B := 0) (s := s) D2 s1 (by omega) s3 s4
  have e2 : callF (evFn fs75 (n + 8)) 22 [.obj L.length, .int 5] (L ++ [o]) = .ok (.str s) ((L ++ [o]).set L.length o2) := e2
  refine ⟨[some (.lst sc), some (.obj L.length), none, some (.int k), some (.int ce), none, none], ((L ++ [o]).set L.length o2).set L.length o3, ?_, ⟨_, _, _, rfl⟩, D3.pu⟩
  clear hD D2 D3 hs ho
  trivial

end EV
end

section
namespace EV
open PySem
local macro_rules | `(tactic| trivial) => `(tactic| simp (config := {contextual := true, maxSteps := 1000000, implicitDefEqProofs := false}) (disch := first | with_reducible assumption | omega | (simp only [List.length_map, List.length_set, upto_len, List.length_cons, List.length_nil, List.length_append, big, Bool.not_eq_true, Bool.not_eq_true', Bool.not_eq_false', Bool.and_eq_true, decide_eq_true_eq, decide_eq_false_iff_not] at *; omega)) only [x_slot, x_cst, x_glob, x_fnv, x_bin, x_neg, x_not, x_cmp, x_chain, x_isN, x_notN, x_and, x_or, x_ife, x_tup, x_frz, x_mut, x_call, x_callk, x_callv, x_bi, x_split, x_join, x_index, x_append, x_ix, x_dget, x_sl, x_isi, x_dnew, x_xfld, x_tupr, x_nil, x_cons, x_onone, x_osome, x_tnone, x_tsome, x_knil, x_kcons, x_disp, x_lc, x_fsl, x_rev, x_cat, x_lis, x_val, x_rng, x_rng2, x_enum, x_zip, x_turn, x_comp, y_nil, y_cons, y_set, y_par, y_asg, y_setIx, y_setK, y_ex, y_ife, y_body, y_for, y_forW, y_turn, y_done, y_ret, y_retN, y_raise, y_pass, y_brk, y_cont, y_try, y_hs, kBin2, kBin1, kCmp2, kCmp1, kBool, kNot, kNeg, kCh3, kCh2, kCh1b, kCh1, kIsN, kNotN, kAnd, kOr, kIfe, kTup, kFrz, kMut, kCall, kCallk, kCallv, kBi, kMe2, kMe1, kAp3, kAp2, kAp1, kIx2, kIx1, kDg2, kDg1, kSl3, kSl2, kSl1, kIsi, kDnew, kTupr, kEs2, kEs1, kInt, kTst, kK4, kK3, kK2, kK1, kDisp, kLc, kFs4, kFs3, kFs2, kFs1, kRev2, kRev, kCat4, kCat3, kCat2, kCat1, kLis, kVal, kRng, kRng2b, kRng2, kEnum, kZip2, kZip1, kSome, kTn2, kTn1, jSeq, jSet, jPar, jAsg, jSx3, jSx2, jSx1, jSk3, jSk2, jSk1, jEx, jIf, jBody, jFor, jExc, bind_ok, bind_exc, bind_bad, then_ok, then_exc, then_bad, seq_next, seq_ret, seq_exc, seq_brk, seq_cont, seq_bad, optR_some, blR_some, slotR_some, condR_t, condR_f, condS_t, condS_f, condR_bl, condS_bl, join_and, join_or, bind_ite, then_ite, seq_ite, negR_int, notR_bl, boolR_bl, isNon_non, isNon_int, isNon_str, isNon_tup, isNon_lst, isNon_obj, sizR_0, sizR_1, sizR_2, sizR_3, sizR_4, sizR_5, sizR_6, sizR_7, sizR_8, sizR_ok, intR_int, tstR_bl, recvA_obj, recvL_lst, appR_obj, appL_ok, setKS_obj, setKO_str, setIxS_obj, valO_lst, valR_obj, recvS_str, xfR_ok, tuprR_int, lstR_some, valR_lst, valR_tup, valR_ktup, valR_str, rngR_int, rng2R_int, enumR_lst, zipR_lst, zipR_tup, callvR_ok, noX_ok, noX_ite, noX_f, bindT_name, bindT_tup, bindT_ktup, bindTs_nil, bindTs_cons, wipe_nil, wipe_cons, envS_some, envB_some, loop_next, loop_cont, loop_brk, loop_ret, loop_exc, loop_ite, tryS_exc, tryS_ret, tryS_next, endH_ret, retS_next, retS_ret, retS_exc, retS_ite, setAll, o_isi_int_non, o_isi_int_bl, o_isi_int_int, o_isi_int_str, o_isi_int_tup, o_isi_int_ktup, o_isi_int_lst, o_isi_str_non, o_isi_str_bl, o_isi_str_int, o_isi_str_str, o_isi_str_tup, o_isi_str_ktup, o_isi_str_lst, o_isi_bool_non, o_isi_bool_bl, o_isi_bool_int, o_isi_bool_str, o_isi_bool_tup, o_isi_bool_ktup, o_isi_bool_lst, o_isi_tuple_non, o_isi_tuple_bl, o_isi_tuple_int, o_isi_tuple_str, o_isi_tuple_tup, o_isi_tuple_ktup, o_isi_tuple_lst, o_isi_list_non, o_isi_list_bl, o_isi_list_int, o_isi_list_str, o_isi_list_tup, o_isi_list_ktup, o_isi_list_lst, o_add_ii, o_sub_ii, o_add_ss, o_add_tt, o_add_ll, o_mul_il, o_mul_ir, o_pow_ii, o_dget, dictG_str, dictG_int, keyOf_s, keyOf_i, getset, dnewR_3, o_mod_ii, o_fdiv_ii, o_eq_int, o_eq_str, o_eq_bl, o_ne_int, o_ne_str, o_ne_bl, o_lt_i, o_le_i, o_gt_i, o_ge_i, o_in_s, o_nin_s, o_eq_d, o_ne_d, o_len_s, o_len_t, o_len_kt, o_len_l, o_tup_l, o_tup_t, oTup_l, oLen_l, oIx_l, oLst_l, o_tup_o, o_len_o, o_all, o_any, o_str_i, o_int_i, o_sum, o_join, o_join_t, o_split, atI_0, atI_1, atI_2, atI_3, o_ix_t, o_ix_kt, o_ix_l, o_ix_o, o_ix_s, o_sl_s, o_sl_t, o_sl_l, o_lof_l, o_sof_l, o_sof_t, o_lof_o, List.getElem?_cons_zero, List.getElem?_cons_succ, List.set_cons_zero, List.set_cons_succ, Option.bind_some, List.length_cons, List.length_nil, if_true, if_false, Bool.not_true, Bool.not_false, Bool.and_true, Bool.true_and, Bool.and_false, Bool.false_and, Bool.or_true, Bool.true_or, Bool.or_false, Bool.false_or, Bool.not_not, ite_true, ite_false, reduceIte, Nat.reduceAdd, Int.reduceAdd, Int.reduceSub, Int.reduceMod, Int.reduceMul, Nat.reduceLT, reduceCtorEq, startD, List.map_cons, List.map_nil, List.replicate_succ, List.replicate_zero, List.cons_append, List.nil_append, Nat.reduceSub, decide_true, decide_false, true_and, and_true, eq_self, Int.reduceEq, Int.reduceNe, Int.reduceLT, Int.reduceLE, Nat.reduceEqDiff, Int.reduceToNat, Nat.reduceLeDiff, List.length_map, signs_mp, join_opt, ne_nil_s, ne_nil_i, ne_nil_n, isEmpty_filt, upto_z, compL_nil, Int.toNat_natCast, id_eq, List.length_set, cst0, cst1, cst2, cst3, cst4, cst5, cst6, ne_eq, not_true_eq_false, not_false_eq_true, *])
local macro_rules | `(tactic| bv_omega) => `(tactic| (first | rfl | (simp [-List.all_eq_true] at *; done) | (simp [-List.all_eq_true] at *; omega) | (simp [-List.all_eq_true] at *; grind)))
local macro_rules | `(tactic| trivial) => `(tactic| simp (config := {contextual := true, maxSteps := 1000000, implicitDefEqProofs := false}) (disch := first | with_reducible assumption | omega | (simp only [List.length_map, List.length_set, upto_len, List.length_cons, List.length_nil, List.length_append, big, Bool.not_eq_true, Bool.not_eq_true', Bool.not_eq_false', Bool.and_eq_true, decide_eq_true_eq, decide_eq_false_iff_not] at *; omega)) only [x_slot, x_cst, x_glob, x_fnv, x_bin, x_neg, x_not, x_cmp, x_chain, x_isN, x_notN, x_and, x_or, x_ife, x_tup, x_frz, x_mut, x_call, x_callk, x_callv, x_bi, x_split, x_join, x_index, x_append, x_ix, x_dget, x_sl, x_isi, x_dnew, x_xfld, x_tupr, x_nil, x_cons, x_onone, x_osome, x_tnone, x_tsome, x_knil, x_kcons, x_disp, x_lc, x_fsl, x_rev, x_cat, x_lis, x_val, x_rng, x_rng2, x_enum, x_zip, x_turn, x_comp, y_nil, y_cons, y_set, y_par, y_asg, y_setIx, y_setK, y_ex, y_ife, y_body, y_for, y_forW, y_turn, y_done, y_ret, y_retN, y_raise, y_pass, y_brk, y_cont, y_try, y_hs, kBin2, kBin1, kCmp2, kCmp1, kBool, kNot, kNeg, kCh3, kCh2, kCh1b, kCh1, kIsN, kNotN, kAnd, kOr, kIfe, kTup, kFrz, kMut, kCall, kCallk, kCallv, kBi, kMe2, kMe1, kAp3, kAp2, kAp1, kIx2, kIx1, kDg2, kDg1, kSl3, kSl2, kSl1, kIsi, kDnew, kTupr, kEs2, kEs1, kInt, kTst, kK4, kK3, kK2, kK1, kDisp, kLc, kFs4, kFs3, kFs2, kFs1, kRev2, kRev, kCat4, kCat3, kCat2, kCat1, kLis, kVal, kRng, kRng2b, kRng2, kEnum, kZip2, kZip1, kSome, kTn2, kTn1, jSeq, jSet, jPar, jAsg, jSx3, jSx2, jSx1, jSk3, jSk2, jSk1, jEx, jIf, jBody, jFor, jExc, bind_ok, bind_exc, bind_bad, then_ok, then_exc, then_bad, seq_next, seq_ret, seq_exc, seq_brk, seq_cont, seq_bad, optR_some, blR_some, slotR_some, condR_t, condR_f, condS_t, condS_f, condR_bl, condS_bl, join_and, join_or, bind_ite, then_ite, seq_ite, negR_int, notR_bl, boolR_bl, isNon_non, isNon_int, isNon_str, isNon_tup, isNon_lst, isNon_obj, sizR_0, sizR_1, sizR_2, sizR_3, sizR_4, sizR_5, sizR_6, sizR_7, sizR_8, sizR_ok, intR_int, tstR_bl, recvA_obj, recvL_lst, appR_obj, appL_ok, setKS_obj, setKO_str, setIxS_obj, valO_lst, valR_obj, recvS_str, xfR_ok, tuprR_int, lstR_some, valR_lst, valR_tup, valR_ktup, valR_str, rngR_int, rng2R_int, enumR_lst, zipR_lst, zipR_tup, callvR_ok, noX_ok, noX_ite, noX_f, bindT_name, bindT_tup, bindT_ktup, bindTs_nil, bindTs_cons, wipe_nil, wipe_cons, envS_some, envB_some, loop_next, loop_cont, loop_brk, loop_ret, loop_exc, loop_ite, tryS_exc, tryS_ret, tryS_next, endH_ret, retS_next, retS_ret, retS_exc, retS_ite, setAll, o_isi_int_non, o_isi_int_bl, o_isi_int_int, o_isi_int_str, o_isi_int_tup, o_isi_int_ktup, o_isi_int_lst, o_isi_str_non, o_isi_str_bl, o_isi_str_int, o_isi_str_str, o_isi_str_tup, o_isi_str_ktup, o_isi_str_lst, o_isi_bool_non, o_isi_bool_bl, o_isi_bool_int, o_isi_bool_str, o_isi_bool_tup, o_isi_bool_ktup, o_isi_bool_lst, o_isi_tuple_non, o_isi_tuple_bl, o_isi_tuple_int, o_isi_tuple_str, o_isi_tuple_tup, o_isi_tuple_ktup, o_isi_tuple_lst, o_isi_list_non, o_isi_list_bl, o_isi_list_int, o_isi_list_str, o_isi_list_tup, o_isi_list_ktup, o_isi_list_lst, o_add_ii, o_sub_ii, o_add_ss, o_add_tt, o_add_ll, o_mul_il, o_mul_ir, o_pow_ii, o_dget, dictG_str, dictG_int, keyOf_s, keyOf_i, getset, dnewR_3, o_mod_ii, o_fdiv_ii, o_eq_int, o_eq_str, o_eq_bl, o_ne_int, o_ne_str, o_ne_bl, o_lt_i, o_le_i, o_gt_i, o_ge_i, o_in_s, o_nin_s, o_eq_d, o_ne_d, o_len_s, o_len_t, o_len_kt, o_len_l, o_tup_l, o_tup_t, oTup_l, oLen_l, oIx_l, oLst_l, o_tup_o, o_len_o, o_all, o_any, o_str_i, o_int_i, o_sum, o_join, o_join_t, o_split, atI_0, atI_1, atI_2, atI_3, o_ix_t, o_ix_kt, o_ix_l, o_ix_o, o_ix_s, o_sl_s, o_sl_t, o_sl_l, o_lof_l, o_sof_l, o_sof_t, o_lof_o, List.getElem?_cons_zero, List.getElem?_cons_succ, List.set_cons_zero, List.set_cons_succ, Option.bind_some, List.length_cons, List.length_nil, if_true, if_false, Bool.not_true, Bool.not_false, Bool.and_true, Bool.true_and, Bool.and_false, Bool.false_and, Bool.or_true, Bool.true_or, Bool.or_false, Bool.false_or, Bool.not_not, ite_true, ite_false, reduceIte, Nat.reduceAdd, Int.reduceAdd, Int.reduceSub, Int.reduceMod, Int.reduceMul, Nat.reduceLT, reduceCtorEq, startD, List.map_cons, List.map_nil, List.replicate_succ, List.replicate_zero, List.cons_append, List.nil_append, Nat.reduceSub, decide_true, decide_false, true_and, and_true, eq_self, Int.reduceEq, Int.reduceNe, Int.reduceLT, Int.reduceLE, Nat.reduceEqDiff, Int.reduceToNat, Nat.reduceLeDiff, List.length_map, signs_mp, join_opt, ne_nil_s, ne_nil_i, ne_nil_n, isEmpty_filt, upto_z, compL_nil, Int.toNat_natCast, id_eq, List.length_set, cst0, cst1, cst2, cst3, cst4, cst5, cst6, ne_eq, not_true_eq_false, not_false_eq_true, isi_rowsD, isi_outsD, isi_intsD, len_rowsD, len_outsD, len_intsD, val_outsD, val_rowsD, val_intsD, ne_non, *])
theorem ab_ok : (∀ c ∈ [97, 98], c ∈ ev8) ∧ ([97, 98] : List Nat).Nodup := by decide
theorem ne_two {L : Store} {w : List Nat} : cmpV L .ne (.tup [.str w, .non]) (.tup [.str w, .non]) = some false := ne_self (by simp [D.shp, shpAll])
theorem ne_two' {L : Store} {w v : List Nat} : cmpV L .ne (.tup [.str w, .str v]) (.tup [.str w, .str v]) = some false := ne_self (by simp [D.shp, shpAll])
theorem eq_two' {L : Store} {w v : List Nat} : cmpV L .eq (.tup [.str w, .str v]) (.tup [.str w, .str v]) = some true := eq_self_d (by simp [D.shp, shpAll])
local macro_rules | `(tactic| trivial) => `(tactic| simp (config := {contextual := true, maxSteps := 1000000, implicitDefEqProofs := false}) (disch := first | with_reducible assumption | omega | (simp only [List.length_map, List.length_set, upto_len, List.length_cons, List.length_nil, List.length_append, big, Bool.not_eq_true, Bool.not_eq_true', Bool.not_eq_false', Bool.and_eq_true, decide_eq_true_eq, decide_eq_false_iff_not] at *; omega)) only [x_slot, x_cst, x_glob, x_fnv, x_bin, x_neg, x_not, x_cmp, x_chain, x_isN, x_notN, x_and, x_or, x_ife, x_tup, x_frz, x_mut, x_call, x_callk, x_callv, x_bi, x_split, x_join, x_index, x_append, x_ix, x_dget, x_sl, x_isi, x_dnew, x_xfld, x_tupr, x_nil, x_cons, x_onone, x_osome, x_tnone, x_tsome, x_knil, x_kcons, x_disp, x_lc, x_fsl, x_rev, x_cat, x_lis, x_val, x_rng, x_rng2, x_enum, x_zip, x_turn, x_comp, y_nil, y_cons, y_set, y_par, y_asg, y_setIx, y_setK, y_ex, y_ife, y_body, y_for, y_forW, y_turn, y_done, y_ret, y_retN, y_raise, y_pass, y_brk, y_cont, y_try, y_hs, kBin2, kBin1, kCmp2, kCmp1, kBool, kNot, kNeg, kCh3, kCh2, kCh1b, kCh1, kIsN, kNotN, kAnd, kOr, kIfe, kTup, kFrz, kMut, kCall, kCallk, kCallv, kBi, kMe2, kMe1, kAp3, kAp2, kAp1, kIx2, kIx1, kDg2, kDg1, kSl3, kSl2, kSl1, kIsi, kDnew, kTupr, kEs2, kEs1, kInt, kTst, kK4, kK3, kK2, kK1, kDisp, kLc, kFs4, kFs3, kFs2, kFs1, kRev2, kRev, kCat4, kCat3, kCat2, kCat1, kLis, kVal, kRng, kRng2b, kRng2, kEnum, kZip2, kZip1, kSome, kTn2, kTn1, jSeq, jSet, jPar, jAsg, jSx3, jSx2, jSx1, jSk3, jSk2, jSk1, jEx, jIf, jBody, jFor, jExc, bind_ok, bind_exc, bind_bad, then_ok, then_exc, then_bad, seq_next, seq_ret, seq_exc, seq_brk, seq_cont, seq_bad, optR_some, blR_some, slotR_some, condR_t, condR_f, condS_t, condS_f, condR_bl, condS_bl, join_and, join_or, bind_ite, then_ite, seq_ite, negR_int, notR_bl, boolR_bl, isNon_non, isNon_int, isNon_str, isNon_tup, isNon_lst, isNon_obj, sizR_0, sizR_1, sizR_2, sizR_3, sizR_4, sizR_5, sizR_6, sizR_7, sizR_8, sizR_ok, intR_int, tstR_bl, recvA_obj, recvL_lst, appR_obj, appL_ok, setKS_obj, setKO_str, setIxS_obj, valO_lst, valR_obj, recvS_str, xfR_ok, tuprR_int, lstR_some, valR_lst, valR_tup, valR_ktup, valR_str, rngR_int, rng2R_int, enumR_lst, zipR_lst, zipR_tup, callvR_ok, noX_ok, noX_ite, noX_f, bindT_name, bindT_tup, bindT_ktup, bindTs_nil, bindTs_cons, wipe_nil, wipe_cons, envS_some, envB_some, loop_next, loop_cont, loop_brk, loop_ret, loop_exc, loop_ite, tryS_exc, tryS_ret, tryS_next, endH_ret, retS_next, retS_ret, retS_exc, retS_ite, setAll, o_isi_int_non, o_isi_int_bl, o_isi_int_int, o_isi_int_str, o_isi_int_tup, o_isi_int_ktup, o_isi_int_lst, o_isi_str_non, o_isi_str_bl, o_isi_str_int, o_isi_str_str, o_isi_str_tup, o_isi_str_ktup, o_isi_str_lst, o_isi_bool_non, o_isi_bool_bl, o_isi_bool_int, o_isi_bool_str, o_isi_bool_tup, o_isi_bool_ktup, o_isi_bool_lst, o_isi_tuple_non, o_isi_tuple_bl, o_isi_tuple_int, o_isi_tuple_str, o_isi_tuple_tup, o_isi_tuple_ktup, o_isi_tuple_lst, o_isi_list_non, o_isi_list_bl, o_isi_list_int, o_isi_list_str, o_isi_list_tup, o_isi_list_ktup, o_isi_list_lst, o_add_ii, o_sub_ii, o_add_ss, o_add_tt, o_add_ll, o_mul_il, o_mul_ir, o_pow_ii, o_dget, dictG_str, dictG_int, keyOf_s, keyOf_i, getset, dnewR_3, o_mod_ii, o_fdiv_ii, o_eq_int, o_eq_str, o_eq_bl, o_ne_int, o_ne_str, o_ne_bl, o_lt_i, o_le_i, o_gt_i, o_ge_i, o_in_s, o_nin_s, o_eq_d, o_ne_d, o_len_s, o_len_t, o_len_kt, o_len_l, o_tup_l, o_tup_t, oTup_l, oLen_l, oIx_l, oLst_l, o_tup_o, o_len_o, o_all, o_any, o_str_i, o_int_i, o_sum, o_join, o_join_t, o_split, atI_0, atI_1, atI_2, atI_3, o_ix_t, o_ix_kt, o_ix_l, o_ix_o, o_ix_s, o_sl_s, o_sl_t, o_sl_l, o_lof_l, o_sof_l, o_sof_t, o_lof_o, List.getElem?_cons_zero, List.getElem?_cons_succ, List.set_cons_zero, List.set_cons_succ, Option.bind_some, List.length_cons, List.length_nil, if_true, if_false, Bool.not_true, Bool.not_false, Bool.and_true, Bool.true_and, Bool.and_false, Bool.false_and, Bool.or_true, Bool.true_or, Bool.or_false, Bool.false_or, Bool.not_not, ite_true, ite_false, reduceIte, Nat.reduceAdd, Int.reduceAdd, Int.reduceSub, Int.reduceMod, Int.reduceMul, Nat.reduceLT, reduceCtorEq, startD, List.map_cons, List.map_nil, List.replicate_succ, List.replicate_zero, List.cons_append, List.nil_append, Nat.reduceSub, decide_true, decide_false, true_and, and_true, eq_self, Int.reduceEq, Int.reduceNe, Int.reduceLT, Int.reduceLE, Nat.reduceEqDiff, Int.reduceToNat, Nat.reduceLeDiff, List.length_map, signs_mp, join_opt, ne_nil_s, ne_nil_i, ne_nil_n, isEmpty_filt, upto_z, compL_nil, Int.toNat_natCast, id_eq, List.length_set, cst0, cst1, cst2, cst3, cst4, cst5, cst6, ne_eq, not_true_eq_false, not_false_eq_true, isi_rowsD, isi_outsD, isi_intsD, len_rowsD, len_outsD, len_intsD, val_outsD, val_rowsD, val_intsD, ne_non, ne_two, ne_two', eq_two', *])
theorem bads36 {n : Nat} {x : D} (hp : x.pure = true) (h1 : ∀ L, isiV .str L x = some false) (h2 : (∀ L, isiV .tuple L x = some false) ∨ ∃ d, x = .tup [d]) :
    (∀ L, callF (evFn fs75 (n + 8)) 27 [.fn 17, x] L = .ok (.tup [.str [116, 101, 120, 116], .non]) L) ∧ (∀ L, callF (evFn fs75 (n + 8)) 27 [.fn 18, x] L = .ok (.tup [.str [116, 101, 120, 116], .non]) L) ∧
    (∀ L, callF (evFn fs75 (n + 8)) 27 [.fn 10, x] L = .ok (.tup [.str [109, 97, 99, 104, 105, 110, 101], .non]) L) ∧ (∀ L, callF (evFn fs75 (n + 8)) 27 [.fn 11, x] L = .ok (.tup [.str [103, 117, 97, 114, 100], .non]) L) :=
  ⟨s_27t (n := n + 7) (f := 17) (by decide) hp rfl (@bad17 (n + 5) x hp h1), s_27t (n := n + 7) (f := 18) (by decide) hp rfl (@bad18 (n + 5) x hp h1), s_27m (n := n + 7) (f := 10) (by decide) hp rfl (@bad10 (n + 4) x hp h2), s_27g (n := n + 7) (f := 11) (by decide) hp rfl (@bad11 (n + 4) x hp h2)⟩
theorem pure75 (ns : List Int) (hn : ns.length ≤ 63) : ∃ L, evFn fs75 9 36 [.lst (ns.map .int)] [] = .ok (.bl true) L := by
  obtain ⟨l4, hl4⟩ : ∃ l4 : List Int, l4 = cutL ns none (some 3) ++ [ns.sum] := ⟨_, rfl⟩
  have l4n : l4.length ≤ 64 := by
    have := cutL_len ns none (some 3)
    rw [hl4, List.length_append]
    simp only [List.length_cons, List.length_nil]
    omega
  have cl : (cutL (ns.map D.int) none (some 3)).length ≤ 63 := by have := cutL_len (ns.map D.int) none (some 3); rw [List.length_map] at this; omega
  have cc : cutL (ns.map D.int) none (some 3) ++ [.int ns.sum] = l4.map .int := by rw [hl4, cutL_map, List.map_append]; rfl
  have np := numbered_pairs l4 0
  have pm := pairsA_mem l4 0
  have loop := for_st (b := bodyF (evFn fs75 8) (.tup (.cons (.name 3) (.cons (.name 4) .nil))) (.cons (.set 1 (.callk 20 (.cons (.slot 4) (.cons (.slot 3) .nil))))
(.cons (.ife (.not (.call 35 (.cons (.slot 1) (.cons (.call 22 (.cons (.slot 1) (.cons (.cst (.int 5)) .nil))) (.cons (.cst (.int 12)) .nil)))))
(.cons (.ret (.cst (.bl false)))
.nil)
.nil)
.nil))) (k := fun q : Int × Int => D.tup [.int q.1, .int q.2]) (I := fun _ N ρ L => (∃ a c d, ρ = [some (.lst (ns.map .int)), a, none, c, d, none, none]) ∧ storeP L = true) 0 (w := pairsA 0 l4) (n := 0) (ρ := [some (.lst (ns.map .int)), none, none, none, none, none, none]) (L := []) ⟨⟨_, _, _, rfl⟩, rfl⟩ (fun d q r hw N ρ L hI => by
      obtain ⟨⟨a, c, d, rfl⟩, hs⟩ := hI
      have := pm q (by rw [hw]; simp)
      exact turn36 (n := 0) (by omega) (by omega) hs)
  obtain ⟨ρ', K, el, ⟨a, c, d, rfl⟩, hs⟩ := loop
  obtain ⟨ce, hce⟩ : ∃ ce : Int, (ns = [] ∧ ce = 0) ∨ ∃ r, ns = ce :: r := by
    rcases ns with _ | ⟨x, r⟩
    · exact ⟨0, .inl ⟨rfl, rfl⟩⟩
    · exact ⟨x, .inr ⟨r, rfl⟩⟩
  obtain ⟨o, e1, ho⟩ := d_draw f20 (n := 7) (B := 100000) (c := ce) (k := 9) (by omega) (by omega) (by omega)
  have e1 := e1 K
  have hD : Dr K.length 100000 (K ++ [o]) := ⟨by rw [List.length_append]; simp, ⟨o, by simp, ho⟩, storeP_app hs (by simp [storeP, ho.pure])⟩
  obtain ⟨l, r, os, o2, e2, D2, lq, rq, oq⟩ := d_sized f19 f21 f23 f24 (n := 4) (p := K.length) (B := 10000) (lf := 60) (rg := 60) (s := [97, 98]) (hD.less (by simp)) (by omega) (by omega) (by omega) (by omega) (by simp) (by simp)
  obtain ⟨rs, o3, e3, D3, rsl, rsq⟩ := d_rows f19 f21 f23 (n := 5) (p := K.length) (B := 0) (many := 60) (s := [97, 98]) (D2.less (by simp)) (by omega) (by omega) (by simp)
  have mo : MachOK [97, 98] l r os := ⟨by simp, by simp, ab_ok.2, ab_ok.1, by omega, by omega, by rw [lq.1]; exact lq.2, by omega, by omega, by rw [rq.1]; exact rq.2, by omega, by rw [rq.1]; exact oq.2⟩
  have go : GuardOK [97, 98] rs ((List.range 60).map fun j : Nat => (j : Int)) := ⟨by simp, by simp, ab_ok.2, ab_ok.1, by omega, by omega, by rw [rsl]; exact rsq, ⟨_, by rw [rsl]; exact List.Sublist.refl _, rfl⟩⟩
  have e2 : callF (evFn fs75 8) 24 [.obj K.length, .str [97, 98], .int 60, .int 60] (K ++ [o]) = .ok (machD [97, 98] l r os) ((K ++ [o]).set K.length o2) := e2
  have e3 : callF (evFn fs75 8) 23 [.obj K.length, .int 60, .str [97, 98]] ((K ++ [o]).set K.length o2) = .ok (rowsD rs) (((K ++ [o]).set K.length o2).set K.length o3) := e3
  have up : D.tup (upto 0 60) = intsD ((List.range 60).map fun j : Nat => (j : Int)) := by rw [upto0]; unfold intsD; rw [List.map_map]; rfl
  generalize (List.range 60).map (fun j : Nat => (j : Int)) = g at *
  have gf : D.tup [.str [97, 98], rowsD rs, intsD g] = guardD [97, 98] rs g := rfl
  have sl := smallL_of (by have := mo.s2; omega) mo.l2 mo.l3
  have sr := smallL_of (by have := mo.s2; omega) mo.r2 mo.r3
  have so := smallO_of mo.s2 mo.r2 (by rw [mo.o1]; exact mo.l2) mo.o2
  have sg := go.gs.1
  have srs := smallL_of (by have := go.s2; omega) go.l2 go.l3
  have to1 := machT_ok mo
  have to2 := guardT_ok go
  have v10 := @s_10 2 [97, 98] l r os mo.s2 sl sr so mo.wrong
  have v11 := @s_11 2 [97, 98] rs g go.s2 srs sg go.wrong
  have v17 : ∀ L, callF (evFn fs75 8) 17 [.str (machT [97, 98] l r os)] L = .ok (machD [97, 98] l r os) L := by
    have := @s_17 2 (machT [97, 98] l r os) (by have := to1.b; omega)
    rw [mo.back] at this
    exact this
  have v18 : ∀ L, callF (evFn fs75 8) 18 [.str (guardT [97, 98] rs g)] L = .ok (guardD [97, 98] rs g) L := by
    have := @s_18 2 (guardT [97, 98] rs g) (by have := to2.b; omega)
    rw [go.back] at this
    exact this
  have n1 := fun L => @ne_self L _ (shp_mach (n := 61) [97, 98] l r os)
  have n2 := fun L => @ne_self L _ (shp_guard (n := 61) [97, 98] rs g)
  obtain ⟨b11, b12, b13, b14⟩ := @bads36 0 .non rfl (fun _ => rfl) (.inl fun _ => rfl)
  obtain ⟨b21, b22, b23, b24⟩ := @bads36 0 (.int 5) rfl (fun _ => rfl) (.inl fun _ => rfl)
  obtain ⟨b31, b32, b33, b34⟩ := @bads36 0 (.tup [.str [97, 98]]) rfl (fun _ => rfl) (.inr ⟨_, rfl⟩)
  obtain ⟨b41, b42, b43, b44⟩ := @bads36 0 (.lst [.str [97]]) rfl (fun _ => rfl) (.inl fun _ => rfl)
  have c1 := s_27m (n := 7) (f := 10) (by decide) (machD_pure _ _ _ _) rfl (@odd10 1)
  have mf : machD [97, 98] [[0, 0]] [[0, 1]] [] = .tup [.str [97, 98], .tup [.tup [.int 0, .int 0]], .tup [.tup [.int 0, .int 1]], .tup []] := rfl
  rw [mf] at c1
  have c2 := @s_27M 1 [] (by simp)
  have c3 := @s_27G 1 [97, 98, 124, 48, 44, 48] (by simp)
  rw [show catD (resM []) = twoD cText (.str wLefts) from rfl] at c2
  rw [show catD (resG [97, 98, 124, 48, 44, 48]) = twoD cText (.str wGood) from rfl] at c3
  simp only [twoD, cText, cMach, wLefts, wRights, wGood] at c1 c2 c3
  clear hD D2 D3 hs ho to1 to2 mo go sl sr so sg srs lq rq oq rsl rsq pm hl4 mf
  refine ⟨((K ++ [o]).set K.length o2).set K.length o3, run_to P75_36 rfl rfl ?_⟩
  have hce' : (ns.isEmpty = true ∧ ce = 0) ∨ (ns.isEmpty = false ∧ L2.atI (ns.map D.int) 0 = some (.int ce)) := by
    rcases hce with ⟨rfl, rfl⟩ | ⟨r, rfl⟩
    · exact .inl ⟨rfl, rfl⟩
    · exact .inr ⟨rfl, atI_0⟩
  clear hce
  have nn := fun L => @ne_nil_i L Int id ns
  simp only [id] at nn
  have nn : ∀ L, cmpV L .ne (.lst (ns.map D.int)) (.lst []) = some (!ns.isEmpty) := nn
  unfold P75_36
  rcases hce' with ⟨hE, rfl⟩ | ⟨hE, hix⟩
  · rw [hE] at nn
    trivial
  · rw [hE] at nn
    trivial

end EV
end

namespace EV
def P75_depth : Nat := 9
theorem P75_ok : P75_dat.okB = true := by kernel_rfl
theorem P75_pure : ∀ ns : List Int, ns.length ≤ 63 → ∃ L, evFn P75_dat.fs P75_depth 36 [.lst (ns.map .int)] [] = .ok (.bl true) L := fun ns h => pure75 ns h
end EV

set_option maxHeartbeats 8000000
namespace EV
open PySem PySem.Spec PyProof.Rows
abbrev P75_R : PySem.W.OpenRow := PySem.W.OpenLaw.row PySem.Challenge.rw_playedalike_k75_texts_of_machines_and_gu
abbrev P75_hk : PySem.W.Hook := hookL 6 P75_dat.fa P75_dat.fn P75_dat.ex
def P75_ob (s : PySem.W.SharedT) : AlL := obsL 6 P75_dat.fa P75_dat.fn P75_dat.ex (HandSHeadRun.getT s)
theorem P75_obeq (s : PySem.W.SharedT) : P75_ob s = P75_hk.obs s.abs := obsL_eq (HandSHeadRun.getT_eq s)
def P75_nm : List PySem.Str := (["PlayError", "BadMachine", "BadGuard", "BadText", "ALL_SIGNS", "MOST_SIGNS", "MOST_ROWS", "is_whole", "is_set", "is_signs", "are_rows", "is_told", "wrong_part", "need_machine", "wrong_guard", "need_guard", "MACHINE_PARTS", "GUARD_PARTS", "rows_text", "machine_text", "guard_text", "is_number", "numbers_by", "rows_by", "parts_by", "need_part", "read_machine", "read_guard", "_law_mixed", "_law_draw"] : List PySem.Str) ++ (["_law_digit", "_law_signs", "_law_rows", "_law_sized", "_law_rows_right", "_law_shape", "_law_caught", "_law_table", "_law_numbers", "_law_read_table", "_law_signs_right", "_law_machine_due", "_law_guard_due", "_law_bent", "_law_right"] : List PySem.Str)
theorem P75_run (w : World) : HandSHeadRun.RunEq P75_R (PySem.W.view P75_R.prog [51]) P75_hk P75_ob 6000 P75_nm w := by
  intro os
  kernel_rfl
end EV
open PySem PySem.W PySem.Calls PyProof.Rows
theorem PySem.Challenge.cw_playedalike_k75_texts_of_machines_and_gu_holds : PySem.Challenge.rw_playedalike_k75_texts_of_machines_and_gu.Holds := by
  w_on; o_law
  refine HandSHeadRun.head_any (r := OpenLaw.row PySem.Challenge.rw_playedalike_k75_texts_of_machines_and_gu) (q := view (OpenLaw.row PySem.Challenge.rw_playedalike_k75_texts_of_machines_and_gu).prog [51]) (H := EV.P75_hk) (ob := EV.P75_ob) (M := 6000) (loose := EV.P75_nm) (d := HandSHeadRun.topDef (OpenLaw.row PySem.Challenge.rw_playedalike_k75_texts_of_machines_and_gu).prog 51) (kwd := []) EV.P75_obeq
    (by kernel_rfl) (fun s => by kernel_rfl) EV.P75_run (by kernel_rfl) (by kernel_rfl) (by kernel_rfl) (by rfl) (by first | assumption | decide +kernel) (by decide +kernel) ⟨rfl, rfl, rfl, rfl, rfl, by decide +kernel⟩ ?hw ?hc
  case hw => w_witness2
  case hc =>
    exact EV.end_of (l := PySem.Challenge.rw_playedalike_k75_texts_of_machines_and_gu) (d := EV.P75_dat) (n := EV.P75_depth) (ix := 36) (x := "script") rfl (by kernel_rfl) EV.P75_ok rfl (by kernel_rfl) (by kernel_rfl) ⟨rfl, by decide, by decide⟩ EV.P75_pure

