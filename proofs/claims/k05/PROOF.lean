import PyProof.Rows.All
import Wide.All
import OpenK.AllK
import Wide.FinOn
import HandS.ExcInit
import HandS.ExcOwn
import KE.KExcSuper
import HandS.Exc
import HandS.TryMany
import HandS.Text
import PyProof.StrLawsFirst
import HandS.ForMost
import HandS.Flow
import HandS.Wide
import HandS.TupAny
import HandS.WordsExc
import HandS.CallSlots
import HandS.Defaults
import HandS.TupMul
import PyProof.StrOps2
import HandS.IsInst
import HandS.Style
import HandS.Sort
import PyProof.StrLawsRepr
import PyProof.ReprRoads
import KE.GoesMore
import KE.GoesZip
import HandS.Zip
import HandS.TryOnly
import HandS.Conv
import HandS.Dict
import PySem.Challenge.RW_exactclash_k05_breaks_of_fraction_texts
section
set_option Elab.async false
set_option maxRecDepth 100000
namespace XC
open PySem

inductive D where
  | non | bl (b : Bool) | int (i : Int) | str (s : Str)
  | tup (xs : List D) | vls (xs : List D) | scr (xs : List D)
  | loc (a : Nat)
  deriving Inhabited

inductive O where
  | lst (xs : List D)
  | dic (kvs : List (Sum Int Str × D))
  | kt (ks : List (Sum Int Str))
  | dct (kvs : List (List (Sum Int Str) × D))
  | ins (c : Nat) (fs : List (Str × D))
  deriving Inhabited

abbrev Store := Nat → Option O
abbrev Env := List (Option D)
def put (S : Store) (a : Nat) (o : O) : Store := fun b => if b = a then some o else S b
theorem put_same {S : Store} {a : Nat} {o : O} : put S a o a = some o := by unfold put; rw [if_pos rfl]
theorem put_ne {S : Store} {a b : Nat} {o : O} (h : b ≠ a) : put S a o b = S b := by unfold put; rw [if_neg h]
theorem put_put {S : Store} {a : Nat} {o u : O} : put (put S a o) a u = put S a u := by
  funext b; unfold put; split <;> rfl
/-- S' has all that S has -/
def Sub (S S' : Store) : Prop := ∀ a o, S a = some o → S' a = some o
theorem Sub.refl (S : Store) : Sub S S := fun _ _ h => h
theorem Sub.trans {S S1 S2 : Store} (a : Sub S S1) (b : Sub S1 S2) : Sub S S2 := fun c o h => b c o (a c o h)
theorem Sub.put {S : Store} {p : Nat} {o : O} (h : S p = none) : Sub S (put S p o) := fun a u e => by
  have : a ≠ p := fun z => by subst z; rw [h] at e; cases e
  rw [put_ne this]; exact e
theorem ne_put {S : Store} {p a : Nat} {o : O} (h : S p = none) (e : S a = some o) : a ≠ p := fun z => by subst z; rw [h] at e; cases e

/-- an exception: its class's number, its field -/
structure Xc where
  cls : Nat
  arg : Option D
abbrev QE := D → Store → Prop
abbrev EX := Xc → Store → Prop
/-- what a call of a def wants: arguments, store, the end, the exceptions -/
abbrev Spec := List D → Store → QE → EX → Prop
structure Ctx where
  fn : Nat → Spec
  ar : Nat → Nat
  con : Nat → Option D
  /-- is the class under the other -/
  sub : Nat → Nat → Option Bool
  /-- the text of a value -/
  rp : D → Str

inductive Bt where
  | len | abs | int | bool | str | list | listM | tuple | all | any | max | min | sum | repr | sorted | set | dict
  deriving DecidableEq, Repr
inductive Mt where
  | append | pop | popAt | insert | remove | index | count | join | extend
  deriving DecidableEq, Repr
inductive Tyn where
  | int | bool | str | tuple | list
  deriving DecidableEq, Repr
mutual
inductive CE where
  | con (d : D)
  | var (i : Nat)
  | glob (g : Nat)
  | bin (op : Operator) (a b : CE)
  | catM (a b : CE)
  | neg (a : CE)
  | nt (a : CE)
  | and (a b : CE)
  | or (a b : CE)
  | cmp (op : CmpOp) (a b : CE)
  | chain (op op' : CmpOp) (a b c : CE)
  | ite (c a b : CE)
  | tup (es : CEs)
  | lst (m : Bool) (es : CEs)
  | idx (a i : CE)
  | sli (a : CE) (lo hi : CO)
  | call (f : Nat) (es : CEs)
  | callk (f n m : Nat) (perm : List Nat) (es kes : CEs)
  | blt (b : Bt) (es : CEs)
  | isi (a : CE) (ts : List Tyn)
  | comp (m : Bool) (own : List Nat) (t : CT) (it : CI) (c : CO) (elt : CE)
  | meth (m : Mt) (o : CE) (es : CEs)
  | comp2 (m : Bool) (own : List Nat) (t : CT) (it : CI) (c : CO) (own1 : List Nat) (t1 : CT) (it1 : CI) (c1 : CO) (elt : CE)
  | rpr (a : CE)
  | dnew
  | dnewT
  | tupK (es : CEs)
  | join (a b : CE)
  | find (a b : CE)
  | lrng (m : Bool) (a : CE)
  | dget (o k d : CE)
inductive CEs where
  | nil
  | cons (e : CE) (es : CEs)
inductive CO where
  | none
  | some (e : CE)
inductive CT where
  | nm (i : Nat)
  | tp (ts : CTs)
  | ix (o i : CE)
inductive CTs where
  | nil
  | cons (t : CT) (ts : CTs)
inductive CI where
  | ev (e : CE)
  | range1 (a : CE)
  | range2 (a b : CE)
  | enum (e : CE)
  | zip (a b : CE)
end

/-- except c: the slot i gets d -/
structure CH where
  c : Nat
  i : Nat
  d : D
mutual
inductive CS where
  | asg (t : CT) (e : CE)
  | par (i j : Nat) (a b : CE)
  | par3 (i j l : Nat) (a b c : CE)
  | aug (i : Nat) (op : Operator) (e : CE)
  | ife (c : CE) (a b : CSs)
  | whl (c : CE) (b : CSs)
  | for_ (t : CT) (it : CI) (b : CSs)
  | ret (e : CE)
  | retN
  | exp (e : CE)
  | pass
  | brk
  | cnt
  | never
  | rse (c : Nat)
  | rsf (c : Nat) (e : CE)
  | tryf (b : CSs) (c i ie : Nat) (l : Bool)
  | dput (o i e : CE)
  | try_ (b : CSs) (hs : List CH)
inductive CSs where
  | nil
  | cons (s : CS) (ss : CSs)
end

mutual
/-- the slots that a target stores to -/
def slotsT : CT → List Nat
  | .nm i => [i]
  | .tp ts => slotsTs ts
  | .ix _ _ => []
def slotsTs : CTs → List Nat
  | .nil => []
  | .cons t ts => slotsT t ++ slotsTs ts
end
def lenTs : CTs → Nat
  | .nil => 0
  | .cons _ r => lenTs r + 1
def sizeL : Nat := 16777216
mutual
def D.noLoc : D → Bool
  | .loc _ => false
  | .tup xs => noLocs xs
  | .vls xs => noLocs xs
  | .scr xs => noLocs xs
  | _ => true
def noLocs : List D → Bool
  | [] => true
  | x :: xs => x.noLoc && noLocs xs
end
def strOkD (x : Str) : Bool := x.cps.all (· < 0x110000)
mutual
/-- depth at most n, texts of right signs, no places -/
def D.ok : Nat → D → Bool
  | _, .non => true
  | _, .bl _ => true
  | _, .int _ => true
  | _, .str x => strOkD x
  | n + 1, .tup xs => oks n xs
  | n + 1, .vls xs => oks n xs
  | n + 1, .scr xs => oks n xs
  | _, _ => false
def oks : Nat → List D → Bool
  | _, [] => true
  | n, x :: xs => x.ok n && oks n xs
end
mutual
/-- == of data -/
def D.eqv : D → D → Bool
  | .non, .non => true
  | .bl a, .bl b => a == b
  | .bl a, .int j => (if a then 1 else 0) == j
  | .int i, .bl b => i == (if b then 1 else 0)
  | .int i, .int j => i == j
  | .str x, .str y => x == y
  | .tup xs, .tup ys => eqvs xs ys
  | .vls xs, .vls ys => eqvs xs ys
  | .scr xs, .vls ys => eqvs xs ys
  | .vls xs, .scr ys => eqvs xs ys
  | .scr xs, .scr ys => eqvs xs ys
  | _, _ => false
def eqvs : List D → List D → Bool
  | [], [] => true
  | x :: xs, y :: ys => x.eqv y && eqvs xs ys
  | _, _ => false
end
/-- what stands at a place, as data -/
def fz (S : Store) (d : D) : D := match d with
  | .loc a => match S a with
    | some (.lst xs) => .vls xs
    | _ => .loc a
  | d => d
/-- scalars: no condition -/
def scalD : D → D → Option Bool
  | .non, .non => some true
  | .non, .int _ => some false
  | .int _, .non => some false
  | .non, .bl _ => some false
  | .bl _, .non => some false
  | .non, .str _ => some false
  | .str _, .non => some false
  | .int i, .int j => some (decide (i = j))
  | .bl i, .bl j => some (decide (i = j))
  | .str i, .str j => some (decide (i = j))
  | .int _, .str _ => some false
  | .str _, .int _ => some false
  | .bl _, .str _ => some false
  | .str _, .bl _ => some false
  | _, _ => none
def eqD (S : Store) (x y : D) : Option Bool :=
  match scalD x y with
  | some b => some b
  | none => if (fz S x).ok 40 && (fz S y).ok 40 then some ((fz S x).eqv (fz S y)) else none
def truth (S : Store) : D → Option Bool
  | .non => some false
  | .bl b => some b
  | .int i => some (i != 0)
  | .str s => if s.length ≤ sizeL then some ((s.length : Int) != 0) else none
  | .tup xs => some (!xs.isEmpty)
  | .vls xs => some (!xs.isEmpty)
  | .scr xs => some (!xs.isEmpty)
  | .loc a => match S a with
    | some (.lst xs) => some (!xs.isEmpty)
    | some (.dic kvs) => some (!kvs.isEmpty)
    | _ => none
def br (b : Option Bool) (P Q : Prop) : Prop := match b with
  | some true => P
  | some false => Q
  | none => False
theorem br_some {b : Bool} {P Q : Prop} : br (some b) P Q = if b = true then P else Q := by
  cases b <;> simp [br]
/-- the place of an index of any sign -/
def ixN (n : Nat) (i : Int) : Option Nat := if 0 ≤ i then (if i < n then some i.toNat else none) else if -(n : Int) ≤ i then some (i + n).toNat else none
def atI {α : Type} (xs : List α) (i : Int) : Option α := (ixN xs.length i).bind fun j => xs[j]?
def idxD (S : Store) (x y : D) : Option D := match x, y with
  | .tup xs, .int i => atI xs i
  | .vls xs, .int i => atI xs i
  | .scr xs, .int i => atI xs i
  | .loc a, .int i => match S a with
    | some (.lst xs) => atI xs i
    | _ => none
  | .str z, .int i => if z.length ≤ sizeL then (atI z.cps.toList i).map fun c => .str ⟨#[c]⟩ else none
  | _, _ => none
def sIx (n d : Nat) : Option Int → Nat
  | none => d
  | some v => if v < 0 then (v + (n : Int)).toNat else min v.toNat n
def cut {α : Type} (xs : List α) (lo hi : Option Int) : List α := (xs.drop (sIx xs.length 0 lo)).take (sIx xs.length xs.length hi - sIx xs.length 0 lo)
def sliD (S : Store) (x : D) (lo hi : Option Int) : Option D :=
  match x with
  | .tup xs => some (.tup (cut xs lo hi))
  | .vls xs => some (.vls (cut xs lo hi))
  | .scr xs => some (.vls (cut xs lo hi))
  | .loc a => match S a with
    | some (.lst xs) => some (.vls (cut xs lo hi))
    | _ => none
  | .str z => if z.length ≤ sizeL then some (.str ⟨(cut z.cps.toList lo hi).toArray⟩) else none
  | _ => none
def MulOk (i j : Int) : Prop := i.natAbs.log2 + j.natAbs.log2 < 1000000 ∨ (-(2 ^ 64) < i ∧ i < 2 ^ 64) ∨ (-(2 ^ 64) < j ∧ j < 2 ^ 64)
def addW (S : Store) (x y : D) (Q : D → Prop) : Prop := match x, y with
  | .int i, .int j => Q (.int (i + j))
  | .str i, .str j => i.length + j.length ≤ sizeL ∧ Q (.str (i ++ j))
  | .tup xs, .tup ys => xs.length + ys.length ≤ sizeL ∧ Q (.tup (xs ++ ys))
  | x, y => match fz S x, fz S y with
    | .vls xs, .vls ys => xs.length + ys.length ≤ sizeL ∧ Q (.vls (xs ++ ys))
    | _, _ => False
def subW (x y : D) (Q : D → Prop) : Prop := match x, y with
  | .int i, .int j => Q (.int (i - j))
  | _, _ => False
def mulW (S : Store) (x y : D) (Q : D → Prop) : Prop := match x, y with
  | .int i, .int j => MulOk i j ∧ Q (.int (i * j))
  | .str z, .int k => 0 ≤ k ∧ k ≤ 1000 ∧ z.length = 1 ∧ Q (.str ⟨(List.replicate k.toNat z.cps).foldl (· ++ ·) #[]⟩)
  | .tup xs, .int k => xs ≠ [] ∧ 0 ≤ k ∧ k ≤ 1000 ∧ xs.length ≤ 1000 ∧ Q (.tup (List.replicate k.toNat xs).flatten)
  | x, .int k => match fz S x with
    | .vls xs => -(2 ^ 63) ≤ k ∧ k < 2 ^ 63 ∧ xs.length * k.toNat ≤ sizeL ∧ Q (.vls (List.replicate k.toNat xs).flatten)
    | _ => False
  | _, _ => False
def divW (x y : D) (Q : D → Prop) : Prop := match x, y with
  | .int i, .int j => (j ≠ 0 ∧ j.natAbs.log2 < 9000) ∧ Q (.int (i.fdiv j))
  | _, _ => False
def modW (x y : D) (Q : D → Prop) : Prop := match x, y with
  | .int i, .int j => j ≠ 0 ∧ Q (.int (i.fmod j))
  | _, _ => False
def powW (x y : D) (Q : D → Prop) : Prop := match x, y with
  | .int i, .int j => (0 ≤ j ∧ j ≤ 1000000 ∧ i.natAbs < 2 ^ 64) ∧ Q (.int (i ^ j.toNat))
  | _, _ => False
def binW (S : Store) (op : Operator) (x y : D) (Q : D → Prop) : Prop := match op with
  | .Add => addW S x y Q
  | .Sub => subW x y Q
  | .Mult => mulW S x y Q
  | .FloorDiv => divW x y Q
  | .Mod => modW x y Q
  | .Pow => powW x y Q
  | _ => False
/-- name op= e -/
def augW (op : Operator) (x y : D) (Q : D → Prop) : Prop := match op, x, y with
  | .Add, .int i, .int j => Q (.int (i + j))
  | .Sub, .int i, .int j => Q (.int (i - j))
  | .Add, .str i, .str j => i.length + j.length ≤ sizeL ∧ Q (.str (i ++ j))
  | _, _, _ => False
def ltI (p : Int → Int → Bool) (x y : D) : Option Bool := match x, y with
  | .int i, .int j => some (p i j)
  | _, _ => none
def isNon : D → Bool
  | .non => true
  | _ => false
def isD (x y : D) : Option Bool := match y with
  | .non => some (isNon x)
  | .bl b => match x with
    | .bl c => some (decide (c = b))
    | _ => none
  | _ => none
/-- x in y -/
def flat : D → Bool
  | .non => true | .bl _ => true | .int _ => true | .str _ => true
  | _ => false
def inL (x : D) (xs : List D) : Option Bool := if flat x && xs.all flat then some (xs.any fun y => y.eqv x) else none
def inD (S : Store) (x y : D) : Option Bool :=
  match y with
  | .tup xs => inL x xs
  | .vls xs => inL x xs
  | .scr xs => inL x xs
  | .str z => match x with
    | .str s => match s.cps.toList with
      | [c] => some (decide (c ∈ z.cps.toList))
      | _ => none
    | _ => none
  | .loc a => match S a with
    | some (.lst xs) => inL x xs
    | _ => none
  | _ => none
def cmpD (S : Store) (op : CmpOp) (x y : D) : Option Bool := match op with
  | .Eq => eqD S x y
  | .NotEq => (eqD S x y).map not
  | .Lt => ltI (fun i j => decide (i < j)) x y
  | .LtE => ltI (fun i j => decide (i ≤ j)) x y
  | .Gt => ltI (fun i j => decide (j < i)) x y
  | .GtE => ltI (fun i j => decide (j ≤ i)) x y
  | .Is => isD x y
  | .IsNot => (isD x y).map not
  | .In => inD S x y
  | .NotIn => (inD S x y).map not
def whenB (b : Option Bool) (Q : Bool → Prop) : Prop := match b with
  | some k => Q k
  | none => False
def tyOf (S : Store) : D → Option (List Tyn)
  | .non => some []
  | .bl _ => some [.bool, .int]
  | .int _ => some [.int]
  | .str _ => some [.str]
  | .tup _ => some [.tuple]
  | .vls _ => some [.list]
  | .scr _ => some [.list]
  | .loc a => match S a with
    | some (.lst _) => some [.list]
    | some (.dic _) => some []
    | _ => none
def isiD (S : Store) (x : D) (ts : List Tyn) : Option Bool := (tyOf S x).map fun l => ts.any fun t => l.contains t
/-- the items of a list or tuple -/
def items (S : Store) : D → Option (List D)
  | .tup xs => some xs
  | .vls xs => some xs
  | .scr xs => some xs
  | .loc a => match S a with
    | some (.lst xs) => some xs
    | _ => none
  | _ => none
def boolsOf : List D → Option (List Bool)
  | [] => some []
  | .bl b :: r => (boolsOf r).map (b :: ·)
  | _ => none
/-- a list of truths -/
def listB (S : Store) (x : D) : Option (List Bool) := match x with
  | .tup _ => none
  | x => (items S x).bind boolsOf
def lenD (S : Store) (x : D) : Option Nat :=
  match x with
  | .str z => if z.length ≤ sizeL then some z.length else none
  | _ => (items S x).map List.length
def pickD (xs : List D) (perm : List Nat) : Option (List D) := perm.mapM fun i => xs[i]?

/-- behind a statement -/
structure Post where
  nx : Env → Store → Prop
  rt : QE
  bk : Env → Store → Prop
  ct : Env → Store → Prop
  ex : Xc → Env → Store → Prop
abbrev Post.at (P : Post) (ρ : Env) : EX := fun x S => P.ex x ρ S
/-- the same, another next -/
def Post.nxt (P : Post) (n : Env → Store → Prop) : Post := { P with nx := n }
/-- within a loop -/
def Post.loop (P : Post) (n b : Env → Store → Prop) : Post := { P with nx := n, ct := n, bk := b }
def Post.exc (P : Post) (e : Xc → Env → Store → Prop) : Post := { P with ex := e }
section
variable {P : Post} {n b : Env → Store → Prop} {e : Xc → Env → Store → Prop}
theorem nxt_nx : (P.nxt n).nx = n := rfl
theorem nxt_rt : (P.nxt n).rt = P.rt := rfl
theorem nxt_bk : (P.nxt n).bk = P.bk := rfl
theorem nxt_ct : (P.nxt n).ct = P.ct := rfl
theorem nxt_ex : (P.nxt n).ex = P.ex := rfl
theorem loop_nx : (P.loop n b).nx = n := rfl
theorem loop_rt : (P.loop n b).rt = P.rt := rfl
theorem loop_bk : (P.loop n b).bk = b := rfl
theorem loop_ct : (P.loop n b).ct = n := rfl
theorem loop_ex : (P.loop n b).ex = P.ex := rfl
theorem exc_nx : (P.exc e).nx = P.nx := rfl
theorem exc_rt : (P.exc e).rt = P.rt := rfl
theorem exc_bk : (P.exc e).bk = P.bk := rfl
theorem exc_ct : (P.exc e).ct = P.ct := rfl
theorem exc_ex : (P.exc e).ex = e := rfl
end
abbrev WE := Env → Store → QE → Prop
abbrev WT := D → Env → Store → (Env → Store → Prop) → Prop
abbrev WS := Post → Env → Store → Prop
/-- a slot read -/
def look (ρ : Env) (i : Nat) (K : D → Prop) : Prop := match ρ[i]? with
  | some (some d) => K d
  | _ => False
theorem look_zero {d : D} {r : Env} {K : D → Prop} : look (some d :: r) 0 K = K d := rfl
theorem look_succ {x : Option D} {r : Env} {n : Nat} {K : D → Prop} : look (x :: r) (n + 1) K = look r n K := rfl
theorem whenB_some {k : Bool} {Q : Bool → Prop} : whenB (some k) Q = Q k := rfl
/-- a new list -/
def newL (m : Bool) (xs : List D) (S : Store) (Q : QE) : Prop :=
  if m = true then ∀ p, S p = none → Q (.loc p) (put S p (.lst xs)) else Q (.vls xs) S
/-- a call, its end upwards closed -/
def callW (Γ : Ctx) (f : Nat) (ds : List D) (S : Store) (E : EX) (Q : QE) : Prop :=
  ds.length = Γ.ar f ∧ ∃ Q0 E0, Γ.fn f ds S Q0 E0 ∧ (∀ d S', Q0 d S' → Q d S') ∧ ∀ x S', E0 x S' → E x S'
/-- the number of digits -/
def digI (l : List Nat) : Option Nat := if l ≠ [] ∧ ∀ c ∈ l, 48 ≤ c ∧ c ≤ 57 then some (l.foldl (fun acc c => acc * 10 + (c - 48)) 0) else none
def intD (x : Str) : Option Int := match x.cps.toList with
  | 45 :: cs => (digI cs).map fun n => -(n : Int)
  | cs => (digI cs).map fun n => (n : Int)
def keyD : D → Option (Sum Int Str)
  | .int i => some (.inl i)
  | .str x => some (.inr x)
  | _ => none
def keysD : List D → Option (List (Sum Int Str))
  | [] => some []
  | x :: r => match keyD x, keysD r with
    | some k, some ks => some (k :: ks)
    | _, _ => none
def valD {κ : Type} [DecidableEq κ] (kvs : List (κ × D)) (k : κ) : Option D := (kvs.find? fun kv => decide (kv.1 = k)).map (·.2)
def putD {κ : Type} [DecidableEq κ] (kvs : List (κ × D)) (k : κ) (v : D) : List (κ × D) :=
  if (kvs.any fun kv => decide (kv.1 = k)) = true then kvs.map (fun kv => if kv.1 = k then (kv.1, v) else kv) else kvs ++ [(k, v)]
def dicAt (S : Store) (x : D) : Prop := match x with
  | .loc a => match S a with
    | some (.dic _) => True
    | some (.dct _) => True
    | _ => False
  | _ => False
/-- a tracked key of several parts -/
def ktAt (S : Store) (y : D) : Option (List (Sum Int Str)) := match y with
  | .loc b => match S b with
    | some (.kt ks) => some ks
    | _ => none
  | _ => none
def dgetW (S : Store) (x y z : D) (K : D → Prop) : Prop := match x with
  | .loc a => match S a with
    | some (.dic kvs) => match keyD y with
      | some k => K ((valD kvs k).getD z)
      | none => False
    | some (.dct kvs) => match ktAt S y with
      | some k => K ((valD kvs k).getD z)
      | none => False
    | _ => False
  | _ => False
def dputW (S : Store) (x y v : D) (K : Store → Prop) : Prop := match x with
  | .loc a => match S a with
    | some (.dic kvs) => match keyD y with
      | some k => kvs.length < sizeL ∧ K (put S a (.dic (putD kvs k v)))
      | none => False
    | some (.dct kvs) => match ktAt S y with
      | some k => kvs.length < sizeL ∧ K (put S a (.dct (putD kvs k v)))
      | none => False
    | _ => False
  | _ => False
def isStrD : D → Bool
  | .str _ => true
  | _ => false
def strsD : List D → Option (List Str)
  | [] => some []
  | .str x :: r => (strsD r).map (x :: ·)
  | _ => none
/-- the first place of a sign in a text -/
def findC (a : Str) (c : Nat) : Int := match a.cps.toList.findIdx? (· == c) with
  | some k => (k : Int)
  | none => -1
def findW (x y : D) (Q : D → Prop) : Prop := match x, y with
  | .str a, .str b => match b.cps.toList with
    | [c] => Q (.int (findC a c))
    | _ => False
  | _, _ => False
def joinW (x y : D) (Q : D → Prop) : Prop := match x, y with
  | .str a, .vls xs => match strsD xs with
    | some ys => (ys.map (·.length)).sum + ys.length * a.length ≤ 1000000 ∧ Q (.str (Str.join a ys))
    | none => False
  | _, _ => False
def isPairD : D → Bool
  | .tup [.int _, .int _] => true
  | _ => false
def bltW (b : Bt) (ds : List D) (S : Store) (Q : QE) : Prop :=
  match b, ds with
  | .len, [x] => match lenD S x with
    | some n => Q (.int n) S
    | none => False
  | .abs, [.int i] => Q (.int (if i < 0 then -i else i)) S
  | .int, [.int i] => Q (.int i) S
  | .int, [.bl b] => Q (.int (if b then 1 else 0)) S
  | .int, [.str x] => match intD x with
    | some n => x.length ≤ 640 ∧ Q (.int n) S
    | none => False
  | .bool, [.int i] => Q (.bl (i != 0)) S
  | .bool, [.bl b] => Q (.bl b) S
  | .str, [.int i] => i.natAbs.log2 < 1920 ∧ Q (.str (Str.ofString (toString i))) S
  | .list, [x] => match items S x with
    | some xs => Q (.vls xs) S
    | none => False
  | .listM, [x] => match items S x with
    | some xs => newL true xs S Q
    | none => False
  | .tuple, [x] => match items S x with
    | some xs => Q (.tup xs) S
    | none => False
  | .all, [x] => match listB S x with
    | some bs => Q (.bl (bs.all id)) S
    | none => False
  | .any, [x] => match listB S x with
    | some bs => Q (.bl (bs.any id)) S
    | none => False
  | .sorted, [x] => match x with
    | .tup _ => False
    | x => match items S x with
      | some xs => xs.all isPairD = true ∧ ∀ ys : List D, ys.Perm xs → Q (.vls ys) S
      | none => False
  | .max, [.int i, .int j] => Q (.int (if j > i then j else i)) S
  | .min, [.int i, .int j] => Q (.int (if j < i then j else i)) S
  | _, _ => False
def methW (m : Mt) (o : D) (ds : List D) (S : Store) (Q : QE) : Prop :=
  match o with
  | .loc a => match S a with
    | some (.lst xs) => match m, ds with
      | .append, [y] => xs.length < sizeL ∧ Q .non (put S a (.lst (xs ++ [y])))
      | .pop, [] => match xs[xs.length - 1]? with
        | some y => Q y (put S a (.lst xs.dropLast))
        | none => False
      | .popAt, [.int i] => -(2 ^ 63) ≤ i ∧ i < 2 ^ 63 ∧ match ixN xs.length i with
        | some k => match xs[k]? with
          | some y => Q y (put S a (.lst (xs.eraseIdx k)))
          | none => False
        | none => False
      | _, _ => False
    | _ => False
  | .vls xs => match m, ds with
    | .count, [.bl b] => match boolsOf xs with
      | some bs => Q (.int (bs.count b : Nat)) S
      | none => False
    | _, _ => False
  | _ => False
/-- a list -/
def lstAt (S : Store) (x : D) : Prop := match x with
  | .loc a => match S a with
    | some (.lst _) => True
    | _ => False
  | .vls _ => True
  | _ => False
def isTrueW (S : Store) (d : D) (Q : Bool → Prop) : Prop := whenB (truth S d) Q
def setIx (S : Store) (o i v : D) (K : Store → Prop) : Prop :=
  match o, i with
  | .loc a, .int k => match S a with
    | some (.lst xs) => match ixN xs.length k with
      | some j => K (put S a (.lst (xs.set j v)))
      | none => False
    | _ => False
  | _, _ => False
/-- a comprehension over the items xs, its list at p (bare: the slots it begins each turn with) -/
def compW (G : Store → Prop) (p : Nat) (bare : Env) (tgt : D → Env → Store → (Env → Store → Prop) → Prop) (cond : Env → Store → (Bool → Store → Prop) → Prop) (elt : Env → Store → QE → Prop) :
    List D → List D → Store → (List D → Store → Prop) → Prop
  | [], acc, S, K => G S ∧ K acc S
  | x :: r, acc, S, K => G S ∧ tgt x bare S fun ρ S1 => cond ρ S1 fun b S2 =>
      if b = true then elt ρ S2 fun y S3 => S3 p = some (.lst acc) ∧ acc.length < sizeL ∧ compW G p bare tgt cond elt r (acc ++ [y]) (put S3 p (.lst (acc ++ [y]))) K
      else S2 p = some (.lst acc) ∧ compW G p bare tgt cond elt r acc S2 K
/-- a comprehension of two clauses, the second one's loop as inner -/
def comp2W (G : Store → Prop) (p : Nat) (bare : Env) (tgt : D → Env → Store → (Env → Store → Prop) → Prop) (cond : Env → Store → (Bool → Store → Prop) → Prop) (inner : Env → Store → List D → (List D → Store → Prop) → Prop) :
    List D → List D → Store → (List D → Store → Prop) → Prop
  | [], acc, S, K => G S ∧ K acc S
  | x :: r, acc, S, K => G S ∧ tgt x bare S fun ρ S1 => cond ρ S1 fun b S2 =>
      if b = true then inner ρ S2 acc fun acc' S3 => comp2W G p bare tgt cond inner r acc' S3 K
      else S2 p = some (.lst acc) ∧ comp2W G p bare tgt cond inner r acc S2 K
mutual
/-- a bound of the text of a value -/
def D.wt : D → Nat
  | .non => 4
  | .bl _ => 5
  | .int i => i.natAbs.log2 + 2
  | .str x => 10 * x.length + 2
  | .tup xs => wts xs + 3
  | .vls xs => wts xs + 3
  | .scr xs => wts xs + 3
  | .loc _ => 0
def wts : List D → Nat
  | [] => 0
  | x :: xs => x.wt + 2 + wts xs
end
mutual
/-- what has a text: no places, not too deep, no very long numbers -/
def D.tx : Nat → D → Bool
  | _, .non => true
  | _, .bl _ => true
  | _, .int i => decide (i.natAbs.log2 < 1900)
  | _, .str x => strOkD x
  | n + 1, .tup xs => txs n xs
  | n + 1, .vls xs => txs n xs
  | n + 1, .scr xs => txs n xs
  | _, _ => false
def txs : Nat → List D → Bool
  | _, [] => true
  | n, x :: xs => x.tx n && txs n xs
end
/-- p is not tracked any more -/
def rem (S : Store) (p : Nat) : Store := fun b => if b = p then none else S b
theorem rem_put {S : Store} {p : Nat} {o : O} (h : S p = none) : rem (put S p o) p = S := by
  funext b
  unfold rem put
  by_cases e : b = p
  · subst e; rw [if_pos rfl, h]
  · rw [if_neg e, if_neg e]
def compEnd (m : Bool) (p : Nat) (Q : QE) (ys : List D) (S : Store) : Prop := if m = true then Q (.loc p) S else Q (.vls ys) (rem S p)
def wipe (ρ : Env) (vs : List Nat) : Env := vs.foldl (fun l i => l.set i none) ρ
/-- a for over the items xs -/
def forW (G : Store → Prop) (tgt : D → Env → Store → (Env → Store → Prop) → Prop) (body : WS) (P : Post) : List D → Env → Store → Prop
  | [], ρ, S => G S ∧ P.nx ρ S
  | x :: r, ρ, S => G S ∧ tgt x ρ S fun ρ1 S1 =>
      body (P.loop (fun ρ2 S2 => forW G tgt body P r ρ2 S2) P.nx) ρ1 S1
def rngD (lo : Int) (n : Nat) : List D := (List.range n).map fun (i : Nat) => .int (lo + i)
/-- what an iterable walks: its items, and what must stay -/
def srcW (S : Store) (d : D) (K : List D → (Store → Prop) → Prop) : Prop :=
  match d with
  | .tup xs => K xs fun _ => True
  | .vls xs => K xs fun _ => True
  | .scr xs => K xs fun _ => True
  | .loc a => match S a with
    | some (.lst xs) => K xs fun S' => S' a = some (.lst xs)
    | _ => False
  | .str z => K (z.cps.toList.map fun c => .str ⟨#[c]⟩) fun _ => True
  | _ => False
/-- a source that is no text -/
def srcQ (S : Store) (d : D) (K : List D → (Store → Prop) → Prop) : Prop := match d with
  | .str _ => False
  | d => srcW S d K
def range1W (d : D) (K : List D → (Store → Prop) → Prop) : Prop :=
  match d with
  | .int j => -(2 ^ 62) ≤ j ∧ j < 2 ^ 62 ∧ K (rngD 0 j.toNat) fun _ => True
  | _ => False
def range2W (d d' : D) (K : List D → (Store → Prop) → Prop) : Prop :=
  match d, d' with
  | .int i, .int j => (-(2 ^ 62) ≤ i ∧ i < 2 ^ 62 ∧ -(2 ^ 62) ≤ j ∧ j < 2 ^ 62) ∧ K (rngD i (j - i).toNat) fun _ => True
  | _, _ => False
def pairUp : Nat → List D → List D
  | _, [] => []
  | n, x :: r => .tup [.int n, x] :: pairUp (n + 1) r

/-- list(range(n)) -/
def lrngW (m : Bool) (x : D) (S : Store) (Q : QE) : Prop := match x with
  | .int n => (0 ≤ n ∧ n ≤ 16777216) ∧ newL m (rngD 0 n.toNat) S Q
  | _ => False
/-- a new list of two ones, to be written -/
def catMW (S : Store) (x y : D) (Q : QE) : Prop := match fz S x, fz S y with
  | .vls xs, .vls ys => xs.length + ys.length ≤ sizeL ∧ newL true (xs ++ ys) S Q
  | _, _ => False
mutual
def wpE (Γ : Ctx) (E : EX) : CE → Env → Store → QE → Prop
  | .con d, _, S, Q => Q d S
  | .var i, ρ, S, Q => look ρ i fun d => Q d S
  | .glob g, _, S, Q => match Γ.con g with
    | some d => Q d S
    | none => False
  | .bin op a b, ρ, S, Q => wpE Γ E a ρ S fun x S1 => wpE Γ E b ρ S1 fun y S2 => binW S2 op x y fun z => Q z S2
  | .catM a b, ρ, S, Q => wpE Γ E a ρ S fun x S1 => wpE Γ E b ρ S1 fun y S2 => catMW S2 x y Q
  | .neg a, ρ, S, Q => wpE Γ E a ρ S fun x S1 => match x with
    | .int i => Q (.int (-i)) S1
    | _ => False
  | .nt a, ρ, S, Q => wpE Γ E a ρ S fun x S1 => whenB (truth S1 x) fun k => Q (.bl (!k)) S1
  | .and a b, ρ, S, Q => wpE Γ E a ρ S fun x S1 => br (truth S1 x) (wpE Γ E b ρ S1 Q) (Q x S1)
  | .or a b, ρ, S, Q => wpE Γ E a ρ S fun x S1 => br (truth S1 x) (Q x S1) (wpE Γ E b ρ S1 Q)
  | .cmp op a b, ρ, S, Q => wpE Γ E a ρ S fun x S1 => wpE Γ E b ρ S1 fun y S2 => whenB (cmpD S2 op x y) fun k => Q (.bl k) S2
  | .chain op op' a b c, ρ, S, Q => wpE Γ E a ρ S fun x S1 => wpE Γ E b ρ S1 fun y S2 =>
      br (cmpD S2 op x y) (wpE Γ E c ρ S2 fun z S3 => whenB (cmpD S3 op' y z) fun k => Q (.bl k) S3) (Q (.bl false) S2)
  | .ite c a b, ρ, S, Q => wpE Γ E c ρ S fun x S1 => br (truth S1 x) (wpE Γ E a ρ S1 Q) (wpE Γ E b ρ S1 Q)
  | .tup es, ρ, S, Q => wpEs Γ E es ρ S fun ds S1 => ds.length ≤ sizeL ∧ Q (.tup ds) S1
  | .lst m es, ρ, S, Q => wpEs Γ E es ρ S fun ds S1 => ds.length ≤ sizeL ∧ newL m ds S1 Q
  | .idx a i, ρ, S, Q => wpE Γ E a ρ S fun x S1 => wpE Γ E i ρ S1 fun y S2 => match idxD S2 x y with
    | some d => Q d S2
    | none => False
  | .sli a lo hi, ρ, S, Q => wpE Γ E a ρ S fun x S1 => wpO Γ E lo ρ S1 fun l S2 => wpO Γ E hi ρ S2 fun h S3 => match sliD S3 x l h with
    | some d => Q d S3
    | none => False
  | .call f es, ρ, S, Q => wpEs Γ E es ρ S fun ds S1 => callW Γ f ds S1 E Q
  | .callk f n m perm es kes, ρ, S, Q => wpEs Γ E es ρ S fun ds S1 => wpEs Γ E kes ρ S1 fun zs S2 => ds.length = n ∧ zs.length = m ∧ match pickD (ds ++ zs) perm with
    | some ds' => callW Γ f ds' S2 E Q
    | none => False
  | .blt b es, ρ, S, Q => wpEs Γ E es ρ S fun ds S1 => bltW b ds S1 Q
  | .isi a ts, ρ, S, Q => wpE Γ E a ρ S fun x S1 => whenB (isiD S1 x ts) fun k => Q (.bl k) S1
  | .comp m own t it c elt, ρ, S, Q => wpI Γ E it ρ S fun xs G S1 =>
      ∀ p, S1 p = none → compW G p (wipe ρ own) (wpT Γ (fun _ _ => False) t) (wpC Γ (fun _ _ => False) c) (wpE Γ (fun _ _ => False) elt) xs [] (put S1 p (.lst [])) (compEnd m p Q)
  | .meth m o es, ρ, S, Q => wpE Γ E o ρ S fun x S1 => lstAt S1 x ∧ wpEs Γ E es ρ S1 fun ds S2 => methW m x ds S2 Q
  | .comp2 m own t it c own1 t1 it1 c1 elt, ρ, S, Q => wpI Γ E it ρ S fun xs G S1 =>
      ∀ p, S1 p = none → comp2W G p (wipe ρ own) (wpT Γ (fun _ _ => False) t) (wpC Γ (fun _ _ => False) c) (fun ρ' S2 acc Kin => wpI Γ (fun _ _ => False) it1 ρ' S2 fun ys G1 S3 =>
        S3 p = some (.lst acc) ∧ compW G1 p (wipe ρ' own1) (wpT Γ (fun _ _ => False) t1) (wpC Γ (fun _ _ => False) c1) (wpE Γ (fun _ _ => False) elt) ys acc S3 Kin) xs [] (put S1 p (.lst [])) (compEnd m p Q)
  | .rpr a, ρ, S, Q => wpE Γ E a ρ S fun x S1 => x.tx 40 = true ∧ x.wt ≤ 1000000 ∧ Q (.str (Γ.rp x)) S1
  | .dnew, _, S, Q => ∀ p, S p = none → Q (.loc p) (put S p (.dic []))
  | .dnewT, _, S, Q => ∀ p, S p = none → Q (.loc p) (put S p (.dct []))
  | .tupK es, ρ, S, Q => wpEs Γ E es ρ S fun ds S1 => match keysD ds with
    | some ks => ds.length ≤ sizeL ∧ ∀ p, S1 p = none → Q (.loc p) (put S1 p (.kt ks))
    | none => False
  | .join a b, ρ, S, Q => wpE Γ E a ρ S fun x S1 => isStrD x = true ∧ wpE Γ E b ρ S1 fun y S2 => joinW x y fun r => Q r S2
  | .find a b, ρ, S, Q => wpE Γ E a ρ S fun x S1 => isStrD x = true ∧ wpE Γ E b ρ S1 fun y S2 => findW x y fun r => Q r S2
  | .lrng m a, ρ, S, Q => wpE Γ E a ρ S fun x S1 => lrngW m x S1 Q
  | .dget o k d, ρ, S, Q => wpE Γ E o ρ S fun x S1 => dicAt S1 x ∧ wpE Γ E k ρ S1 fun y S2 => wpE Γ E d ρ S2 fun z S3 => dgetW S3 x y z fun r => Q r S3
def wpEs (Γ : Ctx) (E : EX) : CEs → Env → Store → (List D → Store → Prop) → Prop
  | .nil, _, S, K => K [] S
  | .cons e es, ρ, S, K => wpE Γ E e ρ S fun d S1 => wpEs Γ E es ρ S1 fun ds S2 => K (d :: ds) S2
def wpO (Γ : Ctx) (E : EX) : CO → Env → Store → (Option Int → Store → Prop) → Prop
  | .none, _, S, K => K none S
  | .some e, ρ, S, K => wpE Γ E e ρ S fun d S1 => match d with
    | .int i => K (some i) S1
    | _ => False
def wpC (Γ : Ctx) (E : EX) : CO → Env → Store → (Bool → Store → Prop) → Prop
  | .none, _, S, K => K true S
  | .some e, ρ, S, K => wpE Γ E e ρ S fun d S1 => whenB (truth S1 d) fun k => K k S1
def wpT (Γ : Ctx) (E : EX) : CT → D → Env → Store → (Env → Store → Prop) → Prop
  | .nm i, d, ρ, S, K => K (ρ.set i (some d)) S
  | .tp ts, d, ρ, S, K => match d with
    | .tup xs => xs.length = lenTs ts ∧ wpTs Γ E ts xs ρ S K
    | .vls xs => xs.length = lenTs ts ∧ wpTs Γ E ts xs ρ S K
    | _ => False
  | .ix o i, d, ρ, S, K => wpE Γ E o ρ S fun x S1 => wpE Γ E i ρ S1 fun y S2 => setIx S2 x y d fun S3 => K ρ S3
def wpTs (Γ : Ctx) (E : EX) : CTs → List D → Env → Store → (Env → Store → Prop) → Prop
  | .nil, ds, ρ, S, K => ds = [] ∧ K ρ S
  | .cons t ts, ds, ρ, S, K => match ds with
    | d :: r => wpT Γ E t d ρ S fun ρ1 S1 => wpTs Γ E ts r ρ1 S1 K
    | [] => False
/-- an iterable: its items, what must stay, the store -/
def wpI (Γ : Ctx) (E : EX) : CI → Env → Store → (List D → (Store → Prop) → Store → Prop) → Prop
  | .ev e, ρ, S, K => wpE Γ E e ρ S fun d S1 => srcW S1 d fun xs G => K xs G S1
  | .range1 a, ρ, S, K => wpE Γ E a ρ S fun d S1 => range1W d fun xs G => K xs G S1
  | .range2 a b, ρ, S, K => wpE Γ E a ρ S fun d S1 => wpE Γ E b ρ S1 fun d' S2 => range2W d d' fun xs G => K xs G S2
  | .enum e, ρ, S, K => wpE Γ E e ρ S fun d S1 => srcQ S1 d fun xs G => K (pairUp 0 xs) G S1
  | .zip a b, ρ, S, K => wpE Γ E a ρ S fun d S1 => wpE Γ E b ρ S1 fun d' S2 => srcQ S2 d fun xs G => srcQ S2 d' fun ys G' =>
      K ((xs.zip ys).map fun p => .tup [p.1, p.2]) (fun S => G S ∧ G' S) S2
end
/-- an exception before the clauses of a try -/
def hdW (Γ : Ctx) (P : Post) : List CH → Xc → Env → Store → Prop
  | [], x, ρ, S => P.ex x ρ S
  | h :: r, x, ρ, S => match Γ.sub x.cls h.c with
    | some true => P.nx (ρ.set h.i (some h.d)) S
    | some false => hdW Γ P r x ρ S
    | none => False
mutual
def wpS (Γ : Ctx) : CS → Post → Env → Store → Prop
  | .asg t e, P, ρ, S => wpE Γ (P.at ρ) e ρ S fun d S1 => wpT Γ (fun _ _ => False) t d ρ S1 P.nx
  | .par i j a b, P, ρ, S => wpE Γ (P.at ρ) a ρ S fun x S1 => wpE Γ (P.at ρ) b ρ S1 fun y S2 => P.nx ((ρ.set i (some x)).set j (some y)) S2
  | .par3 i j l a b c, P, ρ, S => wpE Γ (P.at ρ) a ρ S fun x S1 => wpE Γ (P.at ρ) b ρ S1 fun y S2 => wpE Γ (P.at ρ) c ρ S2 fun z S3 => P.nx (((ρ.set i (some x)).set j (some y)).set l (some z)) S3
  | .aug i op e, P, ρ, S => look ρ i fun x => wpE Γ (P.at ρ) e ρ S fun y S1 => augW op x y fun z => P.nx (ρ.set i (some z)) S1
  | .ife c a b, P, ρ, S => wpE Γ (P.at ρ) c ρ S fun d S1 => br (truth S1 d) (wpSs Γ a P ρ S1) (wpSs Γ b P ρ S1)
  | .whl c b, P, ρ, S => ∃ W : Nat → Env → Store → Prop, (∃ m, W m ρ S) ∧ ∀ m ρ S, W m ρ S →
      wpE Γ (P.at ρ) c ρ S fun d S1 => br (truth S1 d)
        (∃ N : Env → Store → Prop, (∀ ρ' S', N ρ' S' → ∃ m', m' < m ∧ W m' ρ' S') ∧ wpSs Γ b (P.loop N P.nx) ρ S1) (P.nx ρ S1)
  | .for_ t it b, P, ρ, S => wpI Γ (P.at ρ) it ρ S fun xs G S1 => forW G (wpT Γ (fun _ _ => False) t) (wpSs Γ b) P xs ρ S1
  | .ret e, P, ρ, S => wpE Γ (P.at ρ) e ρ S P.rt
  | .retN, P, _, S => P.rt .non S
  | .exp e, P, ρ, S => wpE Γ (P.at ρ) e ρ S fun _ S1 => P.nx ρ S1
  | .pass, P, ρ, S => P.nx ρ S
  | .brk, P, ρ, S => P.bk ρ S
  | .cnt, P, ρ, S => P.ct ρ S
  | .never, _, _, _ => False
  | .rse c, P, ρ, S => P.ex ⟨c, none⟩ ρ S
  | .rsf c e, P, ρ, S => wpE Γ (P.at ρ) e ρ S fun d S1 => P.ex ⟨c, some d⟩ ρ S1
  | .tryf b c i ie l, P, ρ, S => wpSs Γ b (P.exc fun x ρ1 S1 => (x.cls = c ∧ Γ.sub c c = some true ∧ ie < ρ1.length) ∧ ∃ d, x.arg = some d ∧ P.nx ((ρ1.set i (some (if l = true then .vls [d] else d))).set ie none) S1) ρ S
  | .dput o i e, P, ρ, S => wpE Γ (P.at ρ) e ρ S fun v S1 => wpE Γ (P.at ρ) o ρ S1 fun x S2 => wpE Γ (P.at ρ) i ρ S2 fun y S3 => dputW S3 x y v fun S4 => P.nx ρ S4
  | .try_ b hs, P, ρ, S => wpSs Γ b (P.exc (hdW Γ P hs)) ρ S
def wpSs (Γ : Ctx) : CSs → Post → Env → Store → Prop
  | .nil, P, ρ, S => P.nx ρ S
  | .cons s ss, P, ρ, S => wpS Γ s (P.nxt fun ρ1 S1 => wpSs Γ ss P ρ1 S1) ρ S
end

/-- a def: its number of slots, its body -/
structure CFn where
  slots : Nat
  body : CSs
def startD : Nat → List D → Env
  | 0, _ => []
  | n + 1, [] => none :: startD n []
  | n + 1, d :: r => some d :: startD n r
theorem startD_length : ∀ (n : Nat) (ds : List D), (startD n ds).length = n
  | 0, _ => rfl
  | n + 1, [] => by simp [startD, startD_length n []]
  | n + 1, d :: r => by simp [startD, startD_length n r]
theorem startD_get : ∀ (n : Nat) (ds : List D) (i : Nat) (d : D), (startD n ds)[i]? = some (some d) → ds[i]? = some d
  | 0, _, _, _, h => by simp [startD] at h
  | n + 1, [], 0, _, h => by simp [startD] at h
  | n + 1, [], i + 1, d, h => by
    have := startD_get n [] i d (by simpa [startD] using h)
    simp at this
  | n + 1, x :: r, 0, d, h => by simpa [startD] using h
  | n + 1, x :: r, i + 1, d, h => by
    have := startD_get n r i d (by simpa [startD] using h)
    simpa using this
/-- what a def's body wants, for a promise: behind it what the end asks may stand in a greater store -/
def wpFn (Γ : Ctx) (c : CFn) (ds : List D) (S : Store) (Q : QE) (E : EX) : Prop :=
  wpSs Γ c.body { nx := fun _ S1 => ∃ S', Sub S' S1 ∧ Q .non S', rt := fun d S1 => ∃ S', Sub S' S1 ∧ Q d S', bk := fun _ _ => False, ct := fun _ _ => False, ex := fun x _ S1 => ∃ S', Sub S' S1 ∧ E x S' } (startD c.slots ds) S
/-- Γ holds the promise sp of f, which has n parameters -/
structure Has (Γ : Ctx) (f n : Nat) (sp : Spec) : Prop where
  ar : Γ.ar f = n
  fn : Γ.fn f = sp
theorem Has.call {Γ : Ctx} {f n : Nat} {sp : Spec} (h : Has Γ f n sp) {ds : List D} {S : Store} {Q : QE} {E : EX} (hl : ds.length = n) (hs : sp ds S Q E) : callW Γ f ds S E Q :=
  ⟨hl.trans h.ar.symm, Q, E, by rw [h.fn]; exact hs, fun _ _ q => q, fun _ _ q => q⟩
theorem br_true {P Q : Prop} (h : P) : br (some true) P Q := h
theorem br_false {P Q : Prop} (h : Q) : br (some false) P Q := h
theorem br_dec {p : Prop} [Decidable p] {P Q : Prop} (h1 : p → P) (h2 : ¬ p → Q) : br (some (decide p)) P Q := by
  by_cases h : p
  · rw [decide_eq_true h]; exact h1 h
  · rw [decide_eq_false h]; exact h2 h
theorem br_dec' {p : Prop} [Decidable p] {P Q : Prop} (h1 : p → Q) (h2 : ¬ p → P) : br (some (!decide p)) P Q := by
  by_cases h : p
  · rw [decide_eq_true h]; exact h1 h
  · rw [decide_eq_false h]; exact h2 h
theorem br_bool {b : Bool} {P Q : Prop} (h1 : b = true → P) (h2 : b = false → Q) : br (some b) P Q := by
  cases b
  · exact h2 rfl
  · exact h1 rfl
end XC
end

section
set_option Elab.async false
set_option linter.all false
set_option maxRecDepth 100000
set_option maxHeartbeats 4000000
namespace XC
namespace Own
open PySem PySem.W PySem.Calls PyProof.Rows PySem.HandSPX
def oA (fld : Str) (p1 p2 : Pos) : Arguments := { posonlyargs := [], args := [{ arg := "self", annotation := none, pos := p1 }, { arg := fld, annotation := none, pos := p2 }], vararg := none, kwonlyargs := [], kw_defaults := [], kwarg := none, defaults := [] }
structure Ps where
  (q1 q2 q3 q4 q5 q6 q7 q8 q9 q10 : Pos)
def oB (fld t : Str) (j : Nat) (q : Ps) : List Stmt :=
  [.Expr (.Call (.Attribute (.Call (.Name "super" q.q1) [] [] q.q2) "__init__" q.q3) [.Constant (.str t) j q.q4] [] q.q5) q.q6, .Assign [.Attribute (.Name "self" q.q7) fld q.q8] (.Name fld q.q9) q.q10]
def oS (fld : Str) : Scope := { kind := .function, names := [(PySem.Str.ofString "self", .local), (fld, .local), (PySem.Str.ofString "__class__", .free), (PySem.Str.ofString "super", .globalImplicit)], isGenerator := false, isCoroutine := false, more := [] }
/-- how the call of super().__init__ goes -/
def SupCall (t : Str) (j : Nat) (q : Ps) : Prop := ∃ pl : Sem Bool, ∀ env : PySem.Env, eval (.Call (.Attribute (.Call (.Name "super" q.q1) [] [] q.q2) "__init__" q.q3) [.Constant (.str t) j q.q4] [] q.q5) env = (do
  let ov ← attributeBase (.Call (.Name "super" q.q1) [] [] q.q2) "__init__" env (eval (.Call (.Name "super" q.q1) [] [] q.q2) env)
  standAt q.q3.atName
  let (f, first) ← holding [ov] (getMethod ov "__init__" pl)
  callWith q.q5 f first (backTo q.q5 (starEach [.Constant (.str t) j q.q4] env)) [])
example : SupCall "a" 0 ⟨⟨7, 8, 7, 13⟩, ⟨7, 8, 7, 15⟩, ⟨7, 8, 7, 24⟩, ⟨7, 25, 7, 66⟩, ⟨7, 8, 7, 67⟩, ⟨7, 8, 7, 67⟩, ⟨7, 8, 7, 67⟩, ⟨7, 8, 7, 67⟩, ⟨7, 8, 7, 67⟩, ⟨7, 8, 7, 67⟩⟩ := ⟨_, fun env => by rfl⟩
/-- what the written part says of the class at C and its __init__ at fI (its code at cda, its cell at cc) -/
structure FldTxt (P : Program) (K : Frag) (mg : Str → Option Value) (x fld : Str) (C fI cc cda : Addr) : Prop where
  gC : mg x = some (.ref C)
  mgs : mg "super" = none
  cls : ∃ nm q N bs bm sn sub ab col dd k0 k1 k2 k3 k5, K.lookup C = some (excClassObj nm q C N bs bm true sn sub ab col dd k0 k1 k2 k3 k5 "ValueError.__new__") ∧ refsVE bm = true
  sa : findIn K (.ref C) "__setattr__" = some (some (.builtin "object.__setattr__"))
  ga : findIn K (.ref C) "__getattribute__" = some (some (.builtin "BaseException.__getattribute__"))
  gg : findIn K (.ref C) "__getattr__" = some none
  noN : findIn K (.ref C) fld = some none
  iC : findIn K (.ref C) "__init__" = some (some (.ref fI))
  tC : typeIn K (.ref fI) = some (.type "function")
  kC : keepIn K (.ref C) = true
  exC : subIn K (.ref C) (.type "BaseException") = some true
  tyC : typeIn K (.ref C) = some (.type "type")
  hdC : hasDictIn K C = true
  sv : ks_superIn K C C "__init__" = some (some (.builtin "ValueError.__init__"))
  subV : subIn K (.ref C) (.type "ValueError") = some true
  mro : mroIn K C (.ref C) = some true
  opq : nsIn K cStatics "thirdparty.any" = some none
  cell : ∃ cl cld csl, K.lookup cc = some ⟨cl, cld, .cell (some (.ref C)), csl⟩
  code : ∃ ccl cdd vs ccs file tf, K.lookup cda = some ⟨ccl, cdd, .fields vs, ccs⟩ ∧ vs[2]? = some (.str file tf) ∧ ((P.main.file : Str) == file) = true
  top : (P.main.scope.names.lookup ("super" : Str)).isSome = false
  fn : ∃ (oc : Value) (od : Option Addr) (doc pm : Value) (an : Option Addr) (ct : Value) (osl : Array (Option Value)) (p1 p2 : Pos) (t qn : Str) (j : Nat) (q : Ps),
    K.lookup fI = some ⟨oc, od, .func (ksFn "__init__" qn (oA fld p1 p2) (oB fld t j q) (oS fld) .none .none doc pm an (.ref cda) ct cc), osl⟩ ∧ codeIn K (.ref cda) qn = true ∧
    (∀ (s : Shared) (x v : Value), BindsTo s (ksFn "__init__" qn (oA fld p1 p2) (oB fld t j q) (oS fld) .none .none doc pm an (.ref cda) ct cc) ⟨[x, v], []⟩ [("self", x), (fld, v)]) ∧ SupCall t j q
  lf : (oS fld).names.lookup fld = some .local
  lk : (oS fld).names.lookup ("__class__" : Str) = some .free
  lu : (oS fld).names.lookup ("super" : Str) = some .globalImplicit
  nd : (fld == ("__debug__" : Str)) = false
  nse : (("self" : Str) == fld) = false
theorem kept_but {K : Frag} {h h' : Heap} {x : Addr} (X : K.In h) (hx : K.lookup x = none) (k : ∀ b o, b ≠ x → h.get? b = some o → h'.get? b = some o) : K.In h' := fun a o e =>
  k a o (fun z => by rw [z, hx] at e; cases e) (X a o e)
structure InitEnd (fld : Str) (h h' : Heap) (x C dx t1 : Addr) (v : Value) : Prop where
  keep : ∀ b o, b ≠ x → h.get? b = some o → h'.get? b = some o
  obj : h'.get? x = some { cls := .ref C, dict := some dx, data := .fields #[.ref t1, .none, .none, .none, .bool false, .none] }
  dbig : h.objs.size ≤ dx
  dne : dx ≠ x
  ns : h'.Ns1 dx (fun y => if y = fld then some v else none)
structure OwnMade (fld : Str) (h h' : Heap) (e C d : Addr) (v : Value) : Prop where
  keep : ∀ b o, h.get? b = some o → h'.get? b = some o
  new : h.objs.size ≤ e
  obj : ∃ oe vs, h'.get? e = some oe ∧ oe.cls = .ref C ∧ oe.dict = some d ∧ oe.data = .fields vs ∧ vs[1]? = some .none
  dbig : h.objs.size ≤ d
  dne : d ≠ e
  ns : h'.Ns1 d (fun y => if y = fld then some v else none)
section
variable {prog : Program} {w : World} {A : Around} {E : Value → Shared → Prop} {h : Heap} {g : Array GenState} {d : Drawn} {t : Nat} {os : OsState}
variable {nm q : Str} {C N : Addr} {bs bm bmB : List Value} {hdct : Bool} {sn : List Str} {sub : List Value} {ab : Bool} {col : Option Bool} {dd : Option Addr} {k0 k1 k2 k3 k5 : Option Value} {B newId initId : String}
/-- the bound __init__ of the built-in class, called -/
theorem call_mw (FB : ExcBaseFacts B newId initId bmB) {u e t0 : Addr} {rest : List Value} {Q : Value → Shared → Prop}
    (hC : h.get? C = some (excClassObj nm q C N bs bm hdct sn sub ab col dd k0 k1 k2 k3 k5 newId)) (he : h.get? e = some (excO C t0)) (hu : h.get? u = some (kxs_mw initId e)) (hrest : rest.length ≤ sizeLine)
    (hq : ∀ h' t1, (∀ b o, b ≠ e → h.get? b = some o → h'.get? b = some o) → h'.get? e = some (excO C t1) → Q .none ⟨h', g, d, t, os⟩) :
    wpAny (model prog w) A (call (.ref u) rest) Q E ⟨h, g, d, t, os⟩ := by
  refine wpAny_call (codeAny_of_tree ?_)
  show wpAny _ A.in1 (callAny (.ref u) ⟨rest, []⟩) _ _ _
  simp only [callAny]
  refine wpAny_bind (wpAny_load hu ?_)
  simp only [kxs_mw, show (Value.type "method-wrapper" == Value.type "method" || Value.type "method-wrapper" == Value.type "builtin_function_or_method" || Value.type "method-wrapper" == Value.type "method-wrapper") = true by decide, if_true]
  refine W.KFB.if_so (by decide) ?_
  refine wpAny_bind (check_bound_init FB.toExcCallFacts hC he rfl ?_)
  refine wpAny_bind (wpAny_pure (wpAny_pure ?_))
  refine ⟨plainId_quiet FB.init.plain _, codeAny_builtin FB.initEntry ?_⟩
  exact exc_init_tree (cls := .ref C) (t0 := t0) (dv := none) (c2 := .none) (c3 := .none) (b4 := .bool false) he hrest (fun h' k e' _ => hq h' _ k e')
end
section
variable {prog : Program} {w : World} {A : Around} {R : Result → Shared → Prop} {s : Shared} {K : Frag} {mg mb : Str → Option Value} {x fld : Str} {C fI cc cda : Addr}
theorem fld_init (T : FldTxt prog K mg x fld C fI cc cda) {e t0 : Addr} {v : Value} (X : K.In s.heap) (G : s.heap.Ns mainGlobals mg) (Bn : s.heap.Ns builtinsNs mb) (hb : ∀ y : Str, y ≠ "__name__" → mb y = bootBuiltins y) (hlim : s.heap.NoLimit)
    (hx : s.heap.get? e = some (excO C t0)) (hnx : K.lookup e = none) (hroom : A.depth < recursionLimit)
    (hq : ∀ h' tk dx t1, InitEnd fld s.heap h' e C dx t1 v → R (.ok (.ret .none)) { s with heap := h', toks := tk }) :
    codeAny (model prog w) A (.call (.ref fI) ⟨[.ref e, v], []⟩) R s := by
  obtain ⟨oc, od, doc, pm, an, ct, osl, p1, p2, t, qn, j, q, ho, hcd, hbd, pl, hsc⟩ := T.fn
  obtain ⟨nm, qc, N, bs, bm, sn, sub, ab, col, dd, k0, k1, k2, k3, k5, hC, hbm⟩ := T.cls
  obtain ⟨cl, cld, csl, hcell⟩ := T.cell
  obtain ⟨ccl, cdd, vs, ccs, file, tf, hcode, hvs, hfile⟩ := T.code
  have hcl : clsIn K C = some { name := nm, bases := bs, mro := .ref C :: bm, ns := N, qualname := qc, hasDict := true, slotNames := sn, subclasses := sub, abstract := ab, collection := col, hasDel := false } := by unfold clsIn; rw [hC] <;> rfl
  obtain ⟨hp, g, dr, tk, os⟩ := s
  refine ks_codeAny_call_defAt (fd := ksFn "__init__" qn (oA fld p1 p2) (oB fld t j q) (oS fld) .none .none doc pm an (.ref cda) ct cc) (body := oB fld t j q) (binds := [("self", .ref e), (fld, v)]) hroom (X _ _ ho) rfl hlim (codeRec_of X hcd) rfl (hbd _ _ _) ?_ ?_ (fun h₁ hns hk₁ => ?_) rfl rfl rfl
  · intro y hy
    simp only [oS, List.mem_cons, List.not_mem_nil, or_false] at hy
    rcases hy with rfl | rfl | rfl | rfl <;> intro z <;> cases z
  · intro y hy
    simp only [List.mem_cons, List.not_mem_nil, or_false] at hy
    rcases hy with rfl | rfl
    · rfl
    · exact T.lf
  have vself : (fun y => [(("self" : Str), Value.ref e), (fld, v)].reverse.lookup y) "self" = some (.ref e) := by
    show List.lookup ("self" : Str) [(fld, v), (("self" : Str), Value.ref e)] = _
    simp [List.lookup, T.nse]
  have vfld : (fun y => [(("self" : Str), Value.ref e), (fld, v)].reverse.lookup y) fld = some v := by
    show List.lookup fld [(fld, v), (("self" : Str), Value.ref e)] = _
    simp [List.lookup]
  have X₁ : K.In h₁ := X.keeps hk₁
  have hx₁ := hk₁ _ _ hx
  have hsize : hp.objs.size ≠ e := Nat.ne_of_gt (Heap.lt_size hx)
  show _root_.PySem.wpAt (model prog w) (A.deeper (ksEnv qn (oS fld) hp.objs.size fI (.ref cda) cc)) (.func (oB fld t j q) (ksEnv qn (oS fld) hp.objs.size fI (.ref cda) cc)) (execs (oB fld t j q) (ksEnv qn (oS fld) hp.objs.size fI (.ref cda) cc)) _ _ _
  refine ks_wpAt_execs_cons (ks_wpAt_Expr_any (ks_wpAt_MethodCall (pl := pl) ?_ (hsc _)))
  refine ks_wpAt_super_base (env := ksEnv qn (oS fld) hp.objs.size fI (.ref cda) cc) (f := fI) (cc := cda) T.lu T.lk rfl rfl (X₁ _ _ ho) rfl rfl rfl (X₁ _ _ hcode) rfl hvs hfile T.top ?_
  refine ks_loadName_global rfl T.lu (loadGlobal_builtin (env := ksEnv qn (oS fld) hp.objs.size fI (.ref cda) cc) (G.keeps hk₁) T.mgs (Bn.keeps hk₁) ((hb _ (by decide +kernel)).trans (by first | boot_by_name | rfl | kernel_rfl)) ⟨rfl, ?_⟩)
  refine wpAny_loadName_free rfl T.lk rfl ⟨_, X₁ _ _ hcell, rfl⟩ ?_
  refine wpAny_loadName_local rfl rfl hns vself ?_
  refine ks_wpAny_isType_cls (X₁ _ _ hC) rfl ⟨rfl, ?_⟩
  refine ks_wpAny_call_super (X₁ _ _ hC) rfl hx₁ rfl (fun c z => by cases z) (looks_mroIn X₁ T.mro) (fun h₂ e₂ k₂ => ?_)
  have X₂ : K.In h₂ := X₁.keeps k₂
  have hx₂ := k₂ _ _ hx₁
  have hT₂ : Looks (model prog w) h₂ (typeOf (.ref e)) (.ref C) := fun A Q E s k q => wpAny_typeOf_ref (k _ _ hx₂) q
  have hI : Looks (model prog w) h₂ (isInstance (.ref e) (.type "ValueError")) true := hT₂.andThen (looks_subIn X₂ T.subV)
  have neC : e ≠ C := fun z => by rw [← z, hnx] at hC; cases hC
  have hsv := T.sv
  unfold ks_superIn at hsv
  rw [hcl] at hsv
  refine kxs_getMethod kxs_ValueError e₂ (looks_opaque X₂ T.opq) (l₀ := .ref C :: bm) (fun A Q E s k q => wpAny_bind ((looks_clsIn X₂ hcl) A _ E s k (wpAny_pure q))) rfl X₂ hsv hI neC (by decide +kernel) ?_
  have hgu : (h₂.push (kxs_mw "ValueError.__init__" e)).get? h₂.objs.size = some (kxs_mw "ValueError.__init__" e) := Heap.get?_push_at rfl rfl
  have k₃ : ∀ b o, h₂.get? b = some o → (h₂.push (kxs_mw "ValueError.__init__" e)).get? b = some o := fun b o z => Heap.get?_push_of_some _ z
  have nsz : h₂.objs.size ≠ e := Nat.ne_of_gt (Heap.lt_size hx₂)
  refine kxs_callWith (i := "ValueError.__init__") (x := e) rfl (evalArgs_plain (args_cons (Calls.Constant_str (args_nil ⟨hgu, ?_⟩))))
  refine call_mw F.excBase_ValueError (k₃ _ _ (X₂ _ _ hC)) (k₃ _ _ hx₂) hgu (by show 1 ≤ sizeLine; rw [sizeLine_eq]; omega) (fun h₄ t1 k₄ hx₄ => ?_)
  have kk : ∀ b o, b ≠ e → h₁.get? b = some o → h₄.get? b = some o := fun b o hb z => k₄ b o hb (k₃ b o (k₂ b o z))
  have X₄ : K.In h₄ := kept_but X₁ hnx kk
  have hns₄ : h₄.Ns hp.objs.size (fun y => [(("self" : Str), Value.ref e), (fld, v)].reverse.lookup y) := by
    obtain ⟨oL, es, ep, hL, r⟩ := hns
    exact ⟨oL, es, ep, kk _ _ hsize hL, r⟩
  refine wpAt_of_wpAny (wpAny_execs_cons (plainObj_wpAny_Assign_Attribute ?_))
  refine wpAny_Name (wpAny_loadName_local rfl T.lf hns₄ vfld ?_) T.nd
  refine wpAny_Name (wpAny_loadName_local rfl rfl hns₄ vself ?_) (by decide)
  refine set_plain X₄ (ox := excO C t1) (od := none) ⟨hx₄, rfl, rfl, trivial⟩ T.sa ?_
  refine exc_osa X₄ hx₄ hcl (show refsVE (.ref C :: bm) = true from hbm) rfl T.noN (fun h₅ tk₅ dx k₅ dn dne hx₅ hn₅ => ?_)
  show wpAny _ _ (execs _ _) _ _ _
  refine wpAny_execs_nil ?_
  have sz : hp.objs.size ≤ h₄.objs.size := by
    obtain ⟨oL, es, ep, hL, r⟩ := hns₄
    exact Nat.le_of_lt (Heap.lt_size hL)
  exact hq h₅ tk₅ dx t1 ⟨fun b o hb z => k₅ b o hb (kk b o hb (hk₁ b o z)), hx₅, Nat.le_trans sz dn, dne, hn₅⟩
theorem fld_made (T : FldTxt prog K mg x fld C fI cc cda) {v : Value} (X : K.In s.heap) (G : s.heap.Ns mainGlobals mg) (Bn : s.heap.Ns builtinsNs mb) (hb : ∀ y : Str, y ≠ "__name__" → mb y = bootBuiltins y) (hlim : s.heap.NoLimit) (hroom : A.depth + 1 < recursionLimit)
    (hq : ∀ h' tk e d, OwnMade fld s.heap h' e C d v → R (.ok (.ret (.ref e))) { s with heap := h', toks := tk }) :
    codeAny (model prog w) A (.call (.ref C) ⟨[v], []⟩) R s := by
  obtain ⟨nm, q, N, bs, bm, sn, sub, ab, col, dd, k0, k1, k2, k3, k5, hC, hbm⟩ := T.cls
  obtain ⟨hp, g, dr, tk, os⟩ := s
  have k : ∀ b o, hp.get? b = some o → ((hp.push (kdv_tup [v])).push (excO C hp.objs.size)).get? b = some o := fun b o e => Heap.get?_push_of_some _ (Heap.get?_push_of_some _ e)
  have hget : ((hp.push (kdv_tup [v])).push (excO C hp.objs.size)).get? (hp.objs.size + 1) = some (excO C hp.objs.size) := by heap_get
  have hnx : K.lookup (hp.objs.size + 1) = none := by
    cases e : K.lookup (hp.objs.size + 1) with
    | none => rfl
    | some o =>
      have z : hp.get? (hp.objs.size + 1) = some o := X _ _ e
      exact absurd (Nat.lt_of_succ_lt (Heap.lt_size z)) (Nat.lt_irrefl _)
  refine call_own F.excBase_ValueError (fun X => refsVE_contains X bm hbm) (X _ _ hC) (looks_findIn X T.iC) (fun self => bind_fn X self T.tC) (by show 1 ≤ sizeLine; rw [sizeLine_eq]; omega) ?_
  refine fld_init (s := ⟨(hp.push (kdv_tup [v])).push (excO C hp.objs.size), g, dr, tk, os⟩) T (X.keeps k) (G.keeps k) (Bn.keeps k) hb (hlim.keeps k) hget hnx ?_ fun h' tk' dx t1 ⟨k', hx, dn, dne, hns⟩ => ?_
  · show A.depth + 1 < recursionLimit
    exact hroom
  · have old : ∀ b o, hp.get? b = some o → h'.get? b = some o := fun b o e => k' b o (Nat.ne_of_lt (Nat.lt_succ_of_lt (Heap.lt_size e))) (k b o e)
    have z : hp.objs.size + 1 + 1 ≤ dx := by
      first
        | (simpa only [Heap.size_push] using dn)
        | exact dn
        | (have q := dn; rw [Heap.size_push, Heap.size_push] at q; exact q)
    exact ⟨rfl, hq h' tk' (hp.objs.size + 1) dx ⟨old, Nat.le_succ _, ⟨_, _, hx, rfl, rfl, rfl, rfl⟩, Nat.le_trans (Nat.le_trans (Nat.le_succ _) (Nat.le_succ _)) z, dne, hns⟩⟩
end
end Own
end XC
namespace L2
open PySem PySem.Spec PyProof.Rows XC.Own
theorem relO_fld {fld : Str} {v : V} {v' : Value} (r : RelV v v') (f : Str) : RelO (List.lookup f [(fld, v)]) (if f = fld then some v' else none) := by
  by_cases hw : f = fld
  · subst hw
    rw [if_pos rfl]
    have q : List.lookup f [(f, v)] = some v := by simp [List.lookup]
    rw [q]
    exact r
  · rw [if_neg hw]
    have qw : (f == fld) = false := by simpa using hw
    have q2 : List.lookup f [(fld, v)] = none := by simp [List.lookup, qw]
    rw [q2]
    trivial
section
variable {X : Cx} {x fld : Str} {C fI cc cda : Addr}
/-- C(e) -/
def tMkFld (C : Addr) (fld : Str) (ta : TA) : St → Hp → XK → Prop := fun σ H Q => ta σ H fun vs H1 => ∃ v, vs = [v] ∧ ∀ d, H1 d = none → Q (.ref C) (some d) (upd H1 d (.xd [(fld, v)]))
theorem pmk_fld {a : Expr} {ta : TA} {p pos : Pos} {k : Nat} (T : FldTxt X.prog X.K X.mg x fld C fI cc cda) (hr : Room (k + 1) X.A) (ha : PA X [a] ta) (hg : Gl X x) (hdb : (x == ("__debug__" : Str)) = false)
    (he : starEach (a :: []) X.env = (false, eval a X.env) :: starEach [] X.env := by rfl) (hpl : (backTo pos (starEach [] X.env)).any (·.1) = false := by rfl) :
    PMk X (.Call (.Name x p) [a] [] pos) (tMkFld C fld ta) := by
  intro pins s σ H Q I h
  refine wpAny_Call_Name_kw (ld_glob I hg T.gC ?_ hdb)
  refine PySem.W.callWith_K (h₀ := X.base) I.ok.mod.kin T.kC (thn (ha.run pos pins s σ H _ I h) fun us s1 hh => ?_) he hpl
  obtain ⟨vs, H1, I1, r1, v, ev, q1⟩ := hh
  subst ev
  refine ⟨I1.kIn, ?_⟩
  cases r1 with
  | cons rv rn =>
    rename_i v' us'
    cases rn
    show wpAny _ _ (call (.ref C) [v']) _ _ _
    have hlim := I1.nolimit
    have hmg := I1.ok.mod.glob.keeps I1.bk
    obtain ⟨mb, hbn, hbb⟩ := I1.ok.mod.blt
    have hbn := hbn.keeps I1.bk
    obtain ⟨hp, g, dr, tk, os⟩ := s1
    refine wpAny_call (fld_made T I1.kIn hmg hbn hbb hlim (by have := hr.dp; omega) fun h' tk' e d M => ?_)
    show MkP X pins σ Q (.ref e) ⟨h', g, dr, tk', os⟩
    obtain ⟨oe, fv, hoe, hc, hd, hdat, h1⟩ := M.obj
    have hns := M.ns
    obtain ⟨G', g1, g2⟩ := restrict h' fun b => decide (b ≠ e)
    have gk : ∀ b, b ≠ e → G'.get? b = h'.get? b := fun b hb => g1 b (decide_eq_true hb)
    have ge : G'.get? e = none := g2 e (by simp)
    have old : ∀ b o, hp.get? b = some o → G'.get? b = some o := fun b o q => (gk b (Nat.ne_of_lt (Nat.lt_of_lt_of_le (Heap.lt_size q) M.new))).trans (M.keep b o q)
    have ob : ObjOk X.prog X.w (upd H1 d (.xd [(fld, v)])) G' d (.xd [(fld, v)]) :=
      ⟨_, hns.at (fun o q => (gk d M.dne).trans q), fun f => relO_fld rv f⟩
    have J : Inv X pins σ (upd H1 d (.xd [(fld, v)])) ⟨G', g, dr, tk', os⟩ := I1.laid (t' := tk') old M.dbig ob
    refine ⟨e, oe, fv, ⟨G', g, dr, tk', os⟩, _, .ref C, some d, rfl, J, fun b o q => ?_, ge, hoe, ⟨hc, hd⟩, hdat, h1, ?_, rfl, I1.bare, raises_own T.exC T.tyC, q1 d (I1.hok.fresh M.dbig)⟩
    · by_cases hb : b = e
      · have q' : G'.get? b = some o := q
        rw [hb, ge] at q'; cases q'
      · exact (gk b hb).symm.trans q
    · rw [upd_ne (Ne.symm M.dne)]
      exact I1.hok.fresh M.new
/-- x.f, x the exception that the suite holds (at a; its class cls, its dict d) -/
def tByFld (C : Addr) (fld : Str) (a : Addr) (cls : Value) (d : Option Addr) (te : TE) : TE := fun σ H Q => te σ H fun x H1 => x = .ref a ∧ cls = .ref C ∧ ∃ (dd : Addr) (v : V), d = some dd ∧ H1 dd = some (.xd [(fld, v)]) ∧ Q v H1
theorem pe_byFld {a : Addr} {oe : Obj} {cls : Value} {d : Option Addr} {pn : List (Addr × Obj)} {e : Expr} {te : TE} {pos : Pos} (T : FldTxt X.prog X.K X.mg x fld C fI cc cda) (hz : Zc cls d oe) (hf : ∃ vs, oe.data = .fields vs) (he : PE (X.suite a ((a, oe) :: pn)) e te)
    (hb : attributeBase e fld X.env (eval e X.env) = eval e X.env) :
    PE (X.suite a ((a, oe) :: pn)) (.Attribute e fld pos) (tByFld C fld a cls d te) := by
  refine ⟨fun pins s σ H Q I h => ?_⟩
  refine attr_of hb (thn (he.run pins s σ H _ I h) fun u s1 hh => ?_)
  obtain ⟨y, H1, I1, rx, ex, ec, dd, v, ed, ea, q⟩ := hh
  subst ex
  obtain rfl : u = Value.ref a := rx
  subst ec
  subst ed
  obtain ⟨ha, _⟩ := I1.pin (a, oe) (List.mem_append_left _ List.mem_cons_self)
  obtain ⟨vs, hd⟩ := hf
  have hx : ObjOk X.prog X.w H1 s1.heap dd (.xd [(fld, v)]) := I1.hok dd _ ea
  obtain ⟨mA, hns, hr⟩ := hx
  obtain ⟨od, ho, hl⟩ := lookIn_ns hns
  have l : List.lookup fld [(fld, v)] = some v := by simp [List.lookup]
  obtain ⟨u, hu, ru⟩ := RelO.some_of (v := v) (o := mA fld) (by rw [← l]; exact hr fld)
  have J : PySem.W.InstAt s1.heap a oe C (some od) := ⟨ha, hz.1, by unfold PySem.W.notCls; rw [hd] <;> rfl, by rw [hz.2]; exact ho⟩
  exact HandSPX.exc_get I1.kIn J T.ga T.gg T.exC (PySem.W.findObj_own T.hdC T.noN rfl (by rw [hl, hu])) (handed_of ru) ⟨v, H1, I1.tok _, ru, q⟩
end
end L2
end

section
set_option Elab.async false
set_option linter.all false
set_option maxRecDepth 100000
set_option maxHeartbeats 4000000
namespace L2
open PySem PySem.Spec PyProof.Rows
/-- what the first clause 'except x as n' wishes of an exception that it always takes -/
def wAs1 (K : PySem.W.Frag) (c : Value) (i : Nat) (ts : Addr → Value → Option Addr → TS) (D : Ends) : WX := fun cls d σ H =>
  PySem.W.exmOne K cls c = some true ∧ ∀ a, H a = none → ts a cls d { nx := fun σ' H' => D.nx (σ'.set i none) H', rt := D.rt, bk := fun σ' H' => D.bk (σ'.set i none) H', ct := fun σ' H' => D.ct (σ'.set i none) H' } (σ.set i (some (.ref a))) H
section
variable {X : Cx} {x n : Str} {c : Value} {i : Nat} {body suite : List Stmt} {b₀ : Stmt} {np pos pos' : Pos} {tb : WX → TS} {ts : Addr → Value → Option Addr → TS} {more : List ExceptHandler}
theorem ps_try_as1 (hs : X.stack = X.env :: X.outer) (hf : X.env.frame = some X.env.locals) (hN : X.N.Nodup) (hi : X.N[i]? = some n) (hln : X.env.kindOf n = some .local) (hc : Names X x c)
    (hb : ∀ (W : WX) (pn : List (Addr × Obj)) (xe : Value → Shared → Prop), Takes (X.tr pn xe) W → PassesOwn (model X.prog X.w) X.A X.env xe → PSs (X.tr pn xe) body (tb W))
    (hsu : ∀ (a : Addr) (oe : Obj) (cls : Value) (d : Option Addr) (pn : List (Addr × Obj)), Zc cls d oe → (∃ vs, oe.data = .fields vs) → PSs (X.suite a ((a, oe) :: pn)) (b₀ :: suite) (ts a cls d)) :
    PS X (.Try body (.ExceptHandler (some (.Name x np)) (some n) (b₀ :: suite) pos' :: more) [] [] pos) (fun D σ H => tb (wAs1 X.K c i ts D) D σ H) := by
  refine ⟨fun pins s σ H D I h => ?_⟩
  have ok := I.ok
  have hfr : X.A.frames = some (X.env :: X.outer) := by rw [ok.frames, hs]
  have hloc : Loc X.env.scope n := .inl hln
  refine wpAny_Try_except ?_
  refine wpAny_mono ((hb (wAs1 X.K c i ts D) (X.pn ++ pins) (fun e s₁ => wpAny (model X.prog X.w) X.A (noteFrame e X.env) (fun _ s₂ => wpAny (model X.prog X.w) X.A (setFlight e none) (fun _ s₃ =>
    wpAny (model X.prog X.w) X.A (handleBy e X.env (.ExceptHandler (some (.Name x np)) (some n) (b₀ :: suite) pos' :: more)) (SP X pins D) X.xe s₃) X.xe s₂) X.xe s₁) (fun u s' xx => ?_) PassesOwn.looking).run [] s σ H D (I.toTry _) h) (fun f s1 hsp => ?_) (fun e s1 he => he)
  · -- the catch
    obtain ⟨a, B, sI, pins', σ', H', cls, d, rfl, J', nb, up, sky, na, os, ag, hb1, hyes⟩ := xx
    have J : Inv X pins σ' H' sI := J'.ofTry ok
    have sky' : Sky B (X.env :: X.outer) a (Zc cls d) X.env.locals s'.heap := by rw [← hs]; exact sky
    show wpAny (model X.prog X.w) X.A (noteFrame (.ref a) X.env) _ _ _
    refine Sky.land Zc.steady hfr hf sky' fun h3 fl3 up3 => ?_
    have J3 : Inv X pins σ' H' { s' with heap := h3 } := J.landed nb fl3.1 (up.trans up3) os ag
    obtain ⟨oe3, vs3, he3, hz3, hd3⟩ := fl3.there
    have notFr : ∀ {h : Heap} {o : Obj} {vs : Array Value}, h.FunFrames B (X.env :: X.outer) → h.get? a = some o → o.data = .fields vs → a ∉ frs (X.env :: X.outer) := fun {h o vs} ff e dd hm => by
      obtain ⟨_, o', e', hnf⟩ := ff.mem hm
      rw [e] at e'; cases e'
      exact hnf _ dd
    have nfr := notFr fl3.2.2.1 he3 hd3
    have nL : a ≠ X.env.locals := fun z => nfr (List.mem_filterMap.mpr ⟨X.env, List.mem_cons_self, by rw [hf, z]⟩)
    have nF : a ∉ X.fs := fun hm => by
      obtain ⟨e, he, q⟩ := List.mem_filterMap.mp hm
      exact nfr (List.mem_filterMap.mpr ⟨e, List.mem_cons_of_mem _ he, q⟩)
    have S3 := J3.suite he3 hd3 na nL nF
    refine wpAny_handleBy_cons (codeAny_handlers_test ?_) (by intro q; cases q)
    have LT : PySem.W.Looks (model X.prog X.w) h3 (typeOf (.ref a)) cls := fun A Q E s k q => wpAny_typeOf_ref (k _ _ he3) (by rw [hz3.1]; exact q)
    have LM := PySem.W.exm_one (M := model X.prog X.w) (J3.kIn) LT hb1
    have test : ∀ {Q : Value → Shared → Prop} {E : Value → Shared → Prop}, Q c { s' with heap := h3 } → wpAny (model X.prog X.w) (X.A.mark (some (.ref a))) (eval (.Name x np) X.env) Q E { s' with heap := h3 } := fun {Q E} q => by
      obtain ⟨hg, hdbg, hm | ⟨hm, hv, hnn⟩⟩ := hc
      · exact ld_glob (X := X.suite a ((a, oe3) :: (X.pn ++ pins))) S3 hg hm q hdbg
      · exact ld_blt (X := X.suite a ((a, oe3) :: (X.pn ++ pins))) S3 hg hm hv q hnn hdbg
    refine test (LM.here ?_)
    refine codeAny_handlers_suite_as ?_
    refine HandSPX.lands_againZ fl3 fun h4 fl4 up4 => ?_
    have J4 : Inv X pins σ' H' { s' with heap := h4 } := J.landed nb fl4.1 ((up.trans up3).trans up4) os ag
    obtain ⟨oe4, vs4, he4, hz4, hd4⟩ := fl4.there
    have S4 := J4.suite he4 hd4 na nL nF
    refine store_ok (X := X.suite a ((a, oe4) :: (X.pn ++ pins))) (v := .ref a) S4 hN hi hloc rfl (fun s5 S5 => ?_) (.inr hln)
    refine wpAny_mono ((hsu a oe4 cls d (X.pn ++ pins) hz4 ⟨_, hd4⟩).run [] s5 _ H' _ S5 (hyes a na)) (fun f s6 hsp => ?_) (fun _ _ z => False.elim z)
    have end_ : ∀ {σ6 : St} {H6 : Hp} {Q : Shared → Prop}, Inv (X.suite a ((a, oe4) :: (X.pn ++ pins))) [] σ6 H6 s6 → (∀ s7, Inv X pins (σ6.set i none) H6 s7 → Q s7) →
        wpAny (model X.prog X.w) X.A (do bindName X.env n .none; unbindBehindTheSuite X.env n pos') (fun _ s7 => Q s7) X.xe s6 := fun {σ6 H6 Q} S6 hq => gone_ok (S6.unsuite ok) hN hi hln hq
    cases f with
    | next =>
      obtain ⟨σ6, H6, S6, q6⟩ := hsp
      exact end_ S6 fun s7 J7 => ⟨_, _, J7, q6⟩
    | brk =>
      obtain ⟨σ6, H6, S6, q6⟩ := hsp
      exact end_ S6 fun s7 J7 => ⟨_, _, J7, q6⟩
    | cont =>
      obtain ⟨σ6, H6, S6, q6⟩ := hsp
      exact end_ S6 fun s7 J7 => ⟨_, _, J7, q6⟩
    | ret u =>
      obtain ⟨v6, σ6, H6, S6, r6, q6⟩ := hsp
      exact end_ S6 fun s7 J7 => ⟨_, _, _, J7, r6, q6⟩
  · cases f with
    | next =>
      obtain ⟨σ', H', J', q⟩ := hsp
      exact wpAny_execs_nil ⟨σ', H', J'.ofTry ok, q⟩
    | brk =>
      obtain ⟨σ', H', J', q⟩ := hsp
      exact ⟨σ', H', J'.ofTry ok, q⟩
    | cont =>
      obtain ⟨σ', H', J', q⟩ := hsp
      exact ⟨σ', H', J'.ofTry ok, q⟩
    | ret u =>
      obtain ⟨v, σ', H', J', r, q⟩ := hsp
      exact ⟨v, σ', H', J'.ofTry ok, r, q⟩
end
end L2
end

section
set_option linter.all false
namespace XC
open PySem PySem.StrLaws PySem.Builtin PySem.Builtin.Str
theorem at_one {a : Str} {c i : Nat} : At a ⟨#[c]⟩ a.length i ↔ a.cps.toList[i]? = some c := by
  rw [← subAt_one]
  exact Iff.rfl
theorem find_one (a : Str) (c : Nat) : Txt.find a ⟨#[c]⟩ = findC a c := by
  unfold Txt.find findC
  rcases occ_head a ⟨#[c]⟩ 1 (Nat.le_refl 1) with ⟨h0, hn⟩ | ⟨i, r, h0, ha, hn⟩
  · rw [h0]
    have e : a.cps.toList.findIdx? (· == c) = none := by
      rw [List.findIdx?_eq_none_iff]
      intro x hx
      obtain ⟨i, hi⟩ := List.mem_iff_getElem?.mp hx
      by_cases z : x = c
      · subst z
        exact absurd (at_one.mpr hi) (hn i)
      · simpa using z
    rw [e]
  · rw [h0]
    have ha' := at_one.mp ha
    have e : a.cps.toList.findIdx? (· == c) = some i := by
      rw [List.findIdx?_eq_some_iff_getElem]
      obtain ⟨hl, q⟩ := List.getElem?_eq_some_iff.mp ha'
      refine ⟨hl, by rw [q]; simp, fun j hj => ?_⟩
      have hjl : j < a.cps.toList.length := by omega
      have := hn j hj
      rw [at_one] at this
      intro z
      refine this ?_
      rw [List.getElem?_eq_getElem hjl]
      simpa using z
    rw [e]
end XC
end

section
set_option Elab.async false
set_option linter.all false
set_option maxRecDepth 100000
set_option maxHeartbeats 4000000
namespace XC
open PySem PySem.Spec PyProof.Rows L2

/-- a tuple, a list of the written part -/
def KTup (K : PySem.W.Frag) (a : Addr) (xs : List V) : Prop :=
  ∃ (o : Obj) (its : Array Value) (n : Nat), K.lookup a = some o ∧ o.cls = .type "tuple" ∧ o.data = .seq its n ∧ its.size ≤ sizeLine ∧ Vals xs its.toList
def TupAt (K : PySem.W.Frag) (S : Store) (H : Hp) (a : Addr) (xs : List V) : Prop := (S a = none ∧ Rd H a (.tup xs)) ∨ KTup K a xs
/-- a list that is not written any more -/
def VlsAt (S : Store) (H : Hp) (a : Addr) (xs : List V) : Prop := S a = none ∧ H a = some (.lst xs)
def KLst (K : PySem.W.Frag) (a : Addr) (xs : List V) : Prop :=
  ∃ (o : Obj) (its : Array Value) (n : Nat), K.lookup a = some o ∧ o.cls = .type "list" ∧ o.dict = none ∧ o.data = .seq its n ∧ its.size ≤ sizeLine ∧ Vals xs its.toList
/-- the script: locked, or of the module -/
def ScrAt (K : PySem.W.Frag) (S : Store) (H : Hp) (a : Addr) (xs : List V) : Prop := (S a = none ∧ Rd H a (.lst xs)) ∨ KLst K a xs
theorem TupAt.sq {K : PySem.W.Frag} {S : Store} {H : Hp} {a : Addr} {xs : List V} (h : TupAt K S H a xs) : SqT K H a xs := h.elim (fun z => .inl z.2) .inr
theorem VlsAt.sq {K : PySem.W.Frag} {S : Store} {H : Hp} {a : Addr} {xs : List V} (h : VlsAt S H a xs) : SqL K H a xs := .of h.2
theorem ScrAt.sq {K : PySem.W.Frag} {S : Store} {H : Hp} {a : Addr} {xs : List V} (h : ScrAt K S H a xs) : SqL K H a xs := h.elim (fun z => .inl z.2) .inr

mutual
inductive Rep (K : PySem.W.Frag) (S : Store) (H : Hp) : V → D → Prop
  | non : Rep K S H .non .non
  | bl (b : Bool) : Rep K S H (.bl b) (.bl b)
  | int (i : Int) : Rep K S H (.int i) (.int i)
  | str (x : Str) : Rep K S H (.str x) (.str x)
  | tup {a : Addr} {vs : List V} {ds : List D} : TupAt K S H a vs → Reps K S H vs ds → Rep K S H (.ref a) (.tup ds)
  | vls {a : Addr} {vs : List V} {ds : List D} : VlsAt S H a vs → Reps K S H vs ds → Rep K S H (.ref a) (.vls ds)
  | scr {a : Addr} {vs : List V} {ds : List D} : ScrAt K S H a vs → Reps K S H vs ds → Rep K S H (.ref a) (.scr ds)
  | loc (a : Addr) : Rep K S H (.ref a) (.loc a)
inductive Reps (K : PySem.W.Frag) (S : Store) (H : Hp) : List V → List D → Prop
  | nil : Reps K S H [] []
  | cons {v : V} {d : D} {vs : List V} {ds : List D} : Rep K S H v d → Reps K S H vs ds → Reps K S H (v :: vs) (d :: ds)
end
/-- what was not to be written stands as it was -/
structure Step (S : Store) (H : Hp) (S' : Store) (H' : Hp) : Prop where
  keep : ∀ a o, S a = none → H a = some o → S' a = none ∧ H' a = some o
theorem Step.refl (S : Store) (H : Hp) : Step S H S H := ⟨fun _ _ h e => ⟨h, e⟩⟩
theorem Step.trans {S S1 S2 : Store} {H H1 H2 : Hp} (x : Step S H S1 H1) (y : Step S1 H1 S2 H2) : Step S H S2 H2 :=
  ⟨fun a o h e => let ⟨h1, e1⟩ := x.keep a o h e; y.keep a o h1 e1⟩
/-- a smaller store -/
theorem Step.sub {S S1 S2 : Store} {H H1 : Hp} (x : Step S H S1 H1) (h : Sub S2 S1) : Step S H S2 H1 :=
  ⟨fun a o n e => by
    obtain ⟨h1, e1⟩ := x.keep a o n e
    refine ⟨?_, e1⟩
    cases q : S2 a with
    | none => rfl
    | some u => rw [h a u q] at h1; cases h1⟩
theorem Step.rd {S S' : Store} {H H' : Hp} {a : Addr} {u : HO} (x : Step S H S' H') (h : S a = none) (r : Rd H a u) : S' a = none ∧ Rd H' a u := by
  rcases r with r | ⟨o, r⟩
  · exact ⟨(x.keep a _ h r).1, .inl (x.keep a _ h r).2⟩
  · exact ⟨(x.keep a _ h r).1, .inr ⟨o, (x.keep a _ h r).2⟩⟩
theorem TupAt.step {K : PySem.W.Frag} {S S' : Store} {H H' : Hp} {a : Addr} {xs : List V} (x : Step S H S' H') (h : TupAt K S H a xs) : TupAt K S' H' a xs :=
  h.elim (fun z => .inl (x.rd z.1 z.2)) .inr
theorem VlsAt.step {S S' : Store} {H H' : Hp} {a : Addr} {xs : List V} (x : Step S H S' H') (h : VlsAt S H a xs) : VlsAt S' H' a xs := x.keep _ _ h.1 h.2
theorem ScrAt.step {K : PySem.W.Frag} {S S' : Store} {H H' : Hp} {a : Addr} {xs : List V} (x : Step S H S' H') (h : ScrAt K S H a xs) : ScrAt K S' H' a xs :=
  h.elim (fun z => .inl (x.rd z.1 z.2)) .inr
mutual
theorem Rep.step {K : PySem.W.Frag} {S S' : Store} {H H' : Hp} (x : Step S H S' H') : ∀ {v : V} {d : D}, Rep K S H v d → Rep K S' H' v d
  | _, _, .non => .non
  | _, _, .bl b => .bl b
  | _, _, .int i => .int i
  | _, _, .str s => .str s
  | _, _, .tup h r => .tup (h.step x) (Reps.step x r)
  | _, _, .vls h r => .vls (h.step x) (Reps.step x r)
  | _, _, .scr h r => .scr (h.step x) (Reps.step x r)
  | _, _, .loc a => .loc a
theorem Reps.step {K : PySem.W.Frag} {S S' : Store} {H H' : Hp} (x : Step S H S' H') : ∀ {vs : List V} {ds : List D}, Reps K S H vs ds → Reps K S' H' vs ds
  | _, _, .nil => .nil
  | _, _, .cons r t => .cons (Rep.step x r) (Reps.step x t)
end
theorem Sub.free {S S' : Store} (h : Sub S S') {a : Nat} (e : S' a = none) : S a = none := by
  cases q : S a with
  | none => rfl
  | some u => rw [h a u q] at e; cases e
mutual
theorem Rep.sub {K : PySem.W.Frag} {S S' : Store} {H : Hp} (x : Sub S S') : ∀ {v : V} {d : D}, Rep K S' H v d → Rep K S H v d
  | _, _, .non => .non
  | _, _, .bl b => .bl b
  | _, _, .int i => .int i
  | _, _, .str s => .str s
  | _, _, .tup h r => .tup (h.elim (fun z => .inl ⟨x.free z.1, z.2⟩) .inr) (Reps.sub x r)
  | _, _, .vls h r => .vls ⟨x.free h.1, h.2⟩ (Reps.sub x r)
  | _, _, .scr h r => .scr (h.elim (fun z => .inl ⟨x.free z.1, z.2⟩) .inr) (Reps.sub x r)
  | _, _, .loc a => .loc a
theorem Reps.sub {K : PySem.W.Frag} {S S' : Store} {H : Hp} (x : Sub S S') : ∀ {vs : List V} {ds : List D}, Reps K S' H vs ds → Reps K S H vs ds
  | _, _, .nil => .nil
  | _, _, .cons r t => .cons (Rep.sub x r) (Reps.sub x t)
end
section
variable {K : PySem.W.Frag} {S S' : Store} {H H' : Hp}
theorem Reps.length : ∀ {vs : List V} {ds : List D}, Reps K S H vs ds → vs.length = ds.length
  | _, _, .nil => rfl
  | _, _, .cons _ t => by simp [Reps.length t]
theorem Reps.get : ∀ {vs : List V} {ds : List D} {i : Nat} {d : D}, Reps K S H vs ds → ds[i]? = some d → ∃ v, vs[i]? = some v ∧ Rep K S H v d
  | _, _, _, _, .nil, e => by simp at e
  | _, _, 0, _, .cons r _, e => by simp at e; subst e; exact ⟨_, rfl, r⟩
  | _, _, i + 1, _, .cons _ t, e => by
    obtain ⟨v, h1, h2⟩ := Reps.get (i := i) t (by simpa using e)
    exact ⟨v, by simpa using h1, h2⟩
theorem Reps.getV : ∀ {vs : List V} {ds : List D} {i : Nat} {v : V}, Reps K S H vs ds → vs[i]? = some v → ∃ d, ds[i]? = some d ∧ Rep K S H v d
  | _, _, _, _, .nil, e => by simp at e
  | _, _, 0, _, .cons r _, e => by simp at e; subst e; exact ⟨_, rfl, r⟩
  | _, _, i + 1, _, .cons _ t, e => by
    obtain ⟨v, h1, h2⟩ := Reps.getV (i := i) t (by simpa using e)
    exact ⟨v, by simpa using h1, h2⟩
theorem Reps.append : ∀ {vs ws : List V} {ds es : List D}, Reps K S H vs ds → Reps K S H ws es → Reps K S H (vs ++ ws) (ds ++ es)
  | _, _, _, _, .nil, s => s
  | _, _, _, _, .cons r t, s => .cons r (Reps.append t s)
theorem Reps.take : ∀ {vs : List V} {ds : List D} (n : Nat), Reps K S H vs ds → Reps K S H (vs.take n) (ds.take n)
  | _, _, 0, _ => .nil
  | _, _, _ + 1, .nil => .nil
  | _, _, n + 1, .cons r t => .cons r (Reps.take n t)
theorem Reps.drop : ∀ {vs : List V} {ds : List D} (n : Nat), Reps K S H vs ds → Reps K S H (vs.drop n) (ds.drop n)
  | _, _, 0, r => r
  | _, _, _ + 1, .nil => .nil
  | _, _, n + 1, .cons _ t => Reps.drop n t
theorem Reps.set {v : V} {d : D} (r : Rep K S H v d) : ∀ {vs : List V} {ds : List D} (i : Nat), Reps K S H vs ds → Reps K S H (vs.set i v) (ds.set i d)
  | _, _, _, .nil => .nil
  | _, _, 0, .cons _ t => .cons r t
  | _, _, i + 1, .cons q t => .cons q (Reps.set r i t)
theorem Reps.eraseIdx : ∀ {vs : List V} {ds : List D} (i : Nat), Reps K S H vs ds → Reps K S H (vs.eraseIdx i) (ds.eraseIdx i)
  | _, _, _, .nil => .nil
  | _, _, 0, .cons _ t => t
  | _, _, i + 1, .cons q t => .cons q (Reps.eraseIdx i t)
theorem Reps.dropLast {vs : List V} {ds : List D} (r : Reps K S H vs ds) : Reps K S H vs.dropLast ds.dropLast := by
  rw [List.dropLast_eq_take, List.dropLast_eq_take, r.length]
  exact r.take _
theorem Reps.isEmpty {vs : List V} {ds : List D} (r : Reps K S H vs ds) : vs.isEmpty = ds.isEmpty := by cases r <;> rfl
theorem Reps.ints : ∀ (ns : List Int), Reps K S H (ns.map V.int) (ns.map D.int)
  | [] => .nil
  | n :: r => .cons (.int n) (Reps.ints r)
end
/-- what a tracked object holds -/
inductive RepO (K : PySem.W.Frag) (S : Store) (H : Hp) (cl : Nat → Addr) (a : Addr) : O → Prop
  | lst {vs : List V} {ds : List D} : H a = some (.lst vs) → Reps K S H vs ds → RepO K S H cl a (.lst ds)
  | dic {kvs : List (Key × V)} {ds : List (Key × D)} : H a = some (.dK kvs) → kvs.map (·.1) = ds.map (·.1) → Reps K S H (kvs.map (·.2)) (ds.map (·.2)) → RepO K S H cl a (.dic ds)
  | kt {ks : List Key} : H a = some (.tup (ks.map kV)) → RepO K S H cl a (.kt ks)
  | dct {kvs : List (List Key × V)} {ds : List (List Key × D)} : H a = some (.dT kvs) → kvs.map (·.1) = ds.map (·.1) → Reps K S H (kvs.map (·.2)) (ds.map (·.2)) → RepO K S H cl a (.dct ds)
  | ins {c : Nat} {dx : Addr} {fs : List (Str × V)} {ds : List (Str × D)} : H a = some (.ins (cl c) dx fs) → S dx = none → H dx = some (.own a) → fs.map (·.1) = ds.map (·.1) → Reps K S H (fs.map (·.2)) (ds.map (·.2)) → RepO K S H cl a (.ins c ds)
def RepS (K : PySem.W.Frag) (H : Hp) (cl : Nat → Addr) (S : Store) : Prop := ∀ a o, S a = some o → RepO K S H cl a o
section
variable {K : PySem.W.Frag} {S S' : Store} {H H' : Hp} {cl : Nat → Addr}
theorem RepS.free (h : RepS K H cl S) {p : Addr} (e : H p = none) : S p = none := by
  cases q : S p with
  | none => rfl
  | some o =>
    cases h p o q with
    | lst z => rw [e] at z; cases z
    | dic z => rw [e] at z; cases z
    | kt z => rw [e] at z; cases z
    | dct z => rw [e] at z; cases z
    | ins z => rw [e] at z; cases z
theorem RepS.sub (h : RepS K H cl S') (x : Sub S S') : RepS K H cl S := fun a o e => by
  cases h a o (x a o e) with
  | lst z r => exact .lst z (r.sub x)
  | dic z k r => exact .dic z k (r.sub x)
  | kt z => exact .kt z
  | dct z k r => exact .dct z k (r.sub x)
  | ins z d w k r => exact .ins z (x.free d) w k (r.sub x)
theorem RepO.step {a : Addr} {o : O} (r : RepO K S H cl a o) (x : Step S H S' H') (k : H' a = H a) : RepO K S' H' cl a o := by
  cases r with
  | lst z r => exact .lst (k.trans z) (r.step x)
  | dic z e r => exact .dic (k.trans z) e (r.step x)
  | kt z => exact .kt (k.trans z)
  | dct z e r => exact .dct (k.trans z) e (r.step x)
  | ins z d w e r => exact .ins (k.trans z) (x.keep _ _ d w).1 (x.keep _ _ d w).2 e (r.step x)
/-- a new object that is not tracked as written -/
theorem Step.new {p : Addr} {o : HO} (e : H p = none) : Step S H S (upd H p o) :=
  ⟨fun a u h q => ⟨h, by rw [upd_ne (ne_of_none q e)]; exact q⟩⟩
theorem RepS.new {p : Addr} {o : HO} (h : RepS K H cl S) (e : H p = none) : RepS K (upd H p o) cl S := fun a u q => by
  have n : a ≠ p := fun z => by subst z; rw [h.free e] at q; cases q
  exact (h a u q).step (Step.new e) (upd_ne n)
/-- a new object that is tracked -/
theorem Step.newT {p : Addr} {o : HO} {u : O} (e : H p = none) : Step S H (put S p u) (upd H p o) :=
  ⟨fun a v h q => by
    have n := ne_of_none q e
    rw [put_ne n, upd_ne n]
    exact ⟨h, q⟩⟩
theorem RepS.newT {p : Addr} {o : HO} {u : O} (h : RepS K H cl S) (e : H p = none) (r : RepO K (put S p u) (upd H p o) cl p u) : RepS K (upd H p o) cl (put S p u) := fun a v q => by
  by_cases n : a = p
  · subst n; rw [put_same] at q; cases q; exact r
  · rw [put_ne n] at q
    exact (h a v q).step (Step.newT e) (upd_ne n)
/-- a tracked object written -/
theorem Step.write {p : Addr} {o : HO} {u v : O} (e : S p = some v) : Step S H (put S p u) (upd H p o) :=
  ⟨fun a w h q => by
    have n : a ≠ p := fun z => by subst z; rw [e] at h; cases h
    rw [put_ne n, upd_ne n]
    exact ⟨h, q⟩⟩
theorem RepS.write {p : Addr} {o : HO} {u v : O} (h : RepS K H cl S) (e : S p = some v) (r : RepO K (put S p u) (upd H p o) cl p u) : RepS K (upd H p o) cl (put S p u) := fun a w q => by
  by_cases n : a = p
  · subst n; rw [put_same] at q; cases q; exact r
  · rw [put_ne n] at q
    exact (h a w q).step (Step.write e) (upd_ne n)
end
/-- slots -/
def EnvR (K : PySem.W.Frag) (S : Store) (H : Hp) (σ : L2.St) (ρ : Env) : Prop := σ.length = ρ.length ∧ ∀ (i : Nat) (d : D), ρ[i]? = some (some d) → ∃ v, σ[i]? = some (some v) ∧ Rep K S H v d
theorem EnvR.step {K : PySem.W.Frag} {S S' : Store} {H H' : Hp} {σ : L2.St} {ρ : Env} (r : EnvR K S H σ ρ) (x : Step S H S' H') : EnvR K S' H' σ ρ :=
  ⟨r.1, fun i d e => let ⟨v, h1, h2⟩ := r.2 i d e; ⟨v, h1, h2.step x⟩⟩
theorem EnvR.set {K : PySem.W.Frag} {S : Store} {H : Hp} {σ : L2.St} {ρ : Env} {v : V} {d : D} (r : EnvR K S H σ ρ) (i : Nat) (h : Rep K S H v d) : EnvR K S H (σ.set i (some v)) (ρ.set i (some d)) := by
  refine ⟨by rw [List.length_set, List.length_set, r.1], fun j e q => ?_⟩
  by_cases n : i = j
  · subst n
    by_cases hl : i < ρ.length
    · rw [List.getElem?_set_self hl] at q; cases q
      exact ⟨v, List.getElem?_set_self (by rw [r.1]; exact hl), h⟩
    · rw [List.getElem?_eq_none (by rw [List.length_set]; omega)] at q; cases q
  · rw [List.getElem?_set_ne n] at q ⊢
    exact r.2 j e q
theorem EnvR.start {K : PySem.W.Frag} {S : Store} {H : Hp} {N : List Str} {vs : List V} {ds : List D} (r : Reps K S H vs ds) (h : vs.length ≤ N.length) : EnvR K S H (L2.start N vs) (startD N.length ds) := by
  unfold L2.start
  refine ⟨by rw [startD_length, List.length_append, List.length_map, List.length_replicate]; omega, fun i d e => ?_⟩
  obtain ⟨v, h1, h2⟩ := r.get (startD_get _ _ _ _ e)
  have hi : i < vs.length := (List.getElem?_eq_some_iff.mp h1).1
  exact ⟨v, by rw [List.getElem?_append_left (by simpa using hi), List.getElem?_map, h1]; rfl, h2⟩
end XC
end

section
set_option Elab.async false
set_option linter.all false
set_option maxRecDepth 100000
set_option maxHeartbeats 4000000
namespace XC
open PySem PySem.Spec PyProof.Rows L2
theorem mulW_once (l : Addr) (items : Array Value) (n : Nat) (dd : Option Addr) (sl : Array (Option Value)) (u : Tok) :
    Meets (Builtin.«tuple.__mul__» ⟨[.ref l, .int 1 u], []⟩) (fun _ R s => s.heap.get? l = some { cls := .type "tuple", dict := dd, data := .seq items n, slots := sl } ∧ R (.ok (.ret (Value.ref l))) s) :=
  .of_wp fun prog w A R s h => by
    obtain ⟨hp, g, d, tk, os⟩ := s
    obtain ⟨hl, h⟩ := h
    have f1 := AutoSeq1.idx_int
    wp_walk using wpAny_loadPart' hl
    exact ⟨_, rfl, h⟩
theorem mulW_none (l : Addr) (items : Array Value) (n : Nat) (dd : Option Addr) (sl : Array (Option Value)) (u : Tok) (hi : items.isEmpty = false) :
    Meets (Builtin.«tuple.__mul__» ⟨[.ref l, .int 0 u], []⟩) (fun _ R s => s.heap.get? l = some { cls := .type "tuple", dict := dd, data := .seq items n, slots := sl } ∧
      R (.ok (.ret (Value.ref s.heap.objs.size))) { s with heap := s.heap.push { cls := Value.type "tuple", data := Data.seq #[] }, toks := s.toks }) :=
  .of_wp fun prog w A R s h => by
    obtain ⟨hp, g, d, tk, os⟩ := s
    obtain ⟨hl, h⟩ := h
    have f1 := AutoSeq1.idx_int
    wp_walk using wpAny_loadPart' hl
    exact ⟨_, rfl, h⟩
section
variable {X : Cx}
def rRepO (K : PySem.W.Frag) : R2 := fun x y H Q => ∃ l k xs, x = .ref l ∧ y = .int k ∧ SqT K H l xs ∧ ((k = 1 ∧ Q (.ref l) H) ∨ (k = 0 ∧ xs ≠ [] ∧ ∀ p, H p = none → Q (.ref p) (upd H p (.tup []))))
theorem op_repO : OpR X (binaryOp .Mult) (rRepO X.K) := by
  intro pins s σ H x y v u Q I rx ry h
  obtain ⟨l, k, xs, rfl, rfl, hT, h⟩ := h
  cases rx
  obtain ⟨t, rfl⟩ := ry
  obtain ⟨its, r, ⟨⟨cls, dd, data, sl⟩, ho, hc, n, hd⟩, hs⟩ := I.tuple hT
  simp only at hc hd
  subst hc hd
  have hle : its.length = xs.length := r.length.symm
  rcases h with ⟨rfl, q⟩ | ⟨rfl, hne, q⟩
  · refine wpAny_binaryOp_repeat_ref (T := "tuple") (U := "int") (by decide) ⟨_, ho, rfl⟩ (fun s' => typeIs_int s' 1 t) noFill_tuple_mul F.fills_int_mul F.slot_int_rmul repeat_tuple F.slot_int_index.lookup
      (call_meets F.slot_int_rmul (typeIs_int s 1 t) F.entry_int_rmul (F.args_int_rmul_2 _ _) (int_rmul_tuple 1 t l its.toArray n dd sl)
        ⟨ho, rfl, ⟨_, ho, rfl⟩, call_meets F.slot_tuple_mul ⟨_, ho, rfl⟩ F.entry_tuple_mul (F.args_tuple_mul_2 _ _) (mulW_once l its.toArray n dd sl t) ⟨ho, ?_⟩⟩)
    exact ⟨.ref l, H, I, rfl, q⟩
  · have hn : its ≠ [] := fun e => hne (by
      rw [e] at hle
      exact List.eq_nil_of_length_eq_zero hle.symm)
    have hi : its.toArray.isEmpty = false := by
      cases its with
      | nil => exact absurd rfl hn
      | cons a b => rfl
    refine wpAny_binaryOp_repeat_ref (T := "tuple") (U := "int") (by decide) ⟨_, ho, rfl⟩ (fun s' => typeIs_int s' 0 t) noFill_tuple_mul F.fills_int_mul F.slot_int_rmul repeat_tuple F.slot_int_index.lookup
      (call_meets F.slot_int_rmul (typeIs_int s 0 t) F.entry_int_rmul (F.args_int_rmul_2 _ _) (int_rmul_tuple 0 t l its.toArray n dd sl)
        ⟨ho, rfl, ⟨_, ho, rfl⟩, call_meets F.slot_tuple_mul ⟨_, ho, rfl⟩ F.entry_tuple_mul (F.args_tuple_mul_2 _ _) (mulW_none l its.toArray n dd sl t hi) ⟨ho, ?_⟩⟩)
    refine ⟨.ref s.heap.objs.size, _, I.laid (t' := s.toks) (o := .tup []) (fun b ob q => Heap.get?_push_of_some _ q) (Nat.le_refl _) ?_, rfl, q _ (I.hok.fresh (Nat.le_refl _))⟩
    exact ⟨by rw [sizeLine_eq]; decide, _, .nil, IsTup.new _ _⟩
theorem op_mulS : OpR X (binaryOp .Mult) (fun x y H Q => ∃ z k, x = .str z ∧ y = .int k ∧ z.length = 1 ∧ 0 ≤ k ∧ k ≤ 1000 ∧ Q (.str ⟨(List.replicate k.toNat z.cps).foldl (· ++ ·) #[]⟩) H) := by
  intro pins s σ H x y v u Q I rx ry h
  obtain ⟨z, k, rfl, rfl, hz, k0, k1, q⟩ := h
  obtain ⟨t, rfl⟩ := rx
  obtain ⟨t', rfl⟩ := ry
  have sz : (List.foldl (fun x1 x2 => x1 ++ x2) #[] (List.replicate k.toNat z.cps)).size ≤ 1000 := by
    have h1 : z.cps.size = 1 := hz
    have key : ∀ (n : Nat) (a : Array Nat), (List.foldl (fun x1 x2 => x1 ++ x2) a (List.replicate n z.cps)).size = a.size + n := by
      intro n
      induction n with
      | zero => intro a; rfl
      | succ n ih => intro a; rw [List.replicate_succ, List.foldl_cons, ih, Array.size_append, h1]; omega
    rw [key]
    simp; omega
  refine P.mul_str (by rw [decide_eq_false (by omega), decide_eq_false (by omega)]; rfl) (fun h1 _ => ?_) (fun h1 _ => ?_) ?_
  · rw [hz]
    have : (1 : Int) ≤ (2 ^ 63 - 1) / k := by
      rw [Int.le_ediv_iff_mul_le (by omega)]; omega
    omega
  · rw [hz, Nat.one_mul]
    unfold Builtin.Str.tooLong
    rw [sizeLine_eq]
    exact decide_eq_false (by omega)
  · by_cases h0 : k < 1
    · rw [if_pos h0]
      have e : k = 0 := by omega
      subst e
      exact ⟨by decide, .str _, H, I.tok _, ⟨_, rfl⟩, q⟩
    · rw [if_neg h0]
      by_cases h1 : k = 1
      · subst h1
        rw [if_pos (show ((1 : Int) == 1 || z.length == 0) = true by rfl)]
        refine ⟨.str z, H, I, ⟨_, rfl⟩, ?_⟩
        have e : (⟨(List.replicate (1 : Int).toNat z.cps).foldl (· ++ ·) #[]⟩ : Str) = z := by
          show (⟨#[] ++ z.cps⟩ : Str) = z
          rw [Array.empty_append]
        rw [e] at q; exact q
      · rw [if_neg (by rw [hz]; simp [h1])]
        refine ⟨?_, .str _, H, I.tok _, ⟨_, rfl⟩, q⟩
        show (List.foldl (fun x1 x2 => x1 ++ x2) #[] (List.replicate k.toNat z.cps)).size ≤ sizeLine
        rw [sizeLine_eq]; omega
end
end XC
end

section
set_option Elab.async false
set_option linter.all false
set_option maxRecDepth 100000
set_option maxHeartbeats 4000000
namespace XC
open PySem PySem.Spec PyProof.Rows L2

section
variable {X : Cx} {cl : Nat → Addr}
/-- whatever data and store R tells, Q holds of what stands for them -/
def Ans (K : PySem.W.Frag) (cl : Nat → Addr) (S : Store) (H : Hp) (R : QE) (Q : VK) : Prop :=
  ∀ d S' v H', R d S' → Step S H S' H' → Rep K S' H' v d → RepS K H' cl S' → Q v H'
theorem Ans.here {K : PySem.W.Frag} {S : Store} {H : Hp} {R : QE} {Q : VK} (a : Ans K cl S H R Q) (hS : RepS K H cl S) {d : D} {v : V} (r : R d S) (rep : Rep K S H v d) : Q v H := a d S v H r (Step.refl _ _) rep hS
theorem Ans.from {K : PySem.W.Frag} {S S1 : Store} {H H1 : Hp} {R : QE} {Q : VK} (a : Ans K cl S H R Q) (x : Step S H S1 H1) : Ans K cl S1 H1 R Q := fun d S' v H' r y rep hS => a d S' v H' r (x.trans y) rep hS
/-- a new tuple -/
theorem Ans.newT {K : PySem.W.Frag} {S : Store} {H : Hp} {R : QE} {Q : VK} (a : Ans K cl S H R Q) (hS : RepS K H cl S) {vs : List V} {ds : List D} {p : Addr} (hp : H p = none) (rs : Reps K S H vs ds) (r : R (.tup ds) S) : Q (.ref p) (upd H p (.tup vs)) := by
  have st : Step S H S (upd H p (.tup vs)) := Step.new hp
  exact a _ S _ _ r st (.tup (.inl ⟨hS.free hp, .inl upd_same⟩) (rs.step st)) (hS.new hp)
/-- a new list -/
theorem Ans.newL {K : PySem.W.Frag} {S : Store} {H : Hp} {R : QE} {Q : VK} (a : Ans K cl S H R Q) (hS : RepS K H cl S) {vs : List V} {ds : List D} {p : Addr} (hp : H p = none) (rs : Reps K S H vs ds) {m : Bool} (r : newL m ds S R) : Q (.ref p) (upd H p (.lst vs)) := by
  have f : S p = none := hS.free hp
  cases m with
  | true =>
    have r : ∀ p, S p = none → R (.loc p) (put S p (.lst ds)) := r
    have st : Step S H (put S p (.lst ds)) (upd H p (.lst vs)) := Step.newT hp
    exact a _ _ _ _ (r p f) st (.loc p) (hS.newT hp (.lst upd_same (rs.step st)))
  | false =>
    have r : R (.vls ds) S := r
    have st : Step S H S (upd H p (.lst vs)) := Step.new hp
    exact a _ S _ _ r st (.vls ⟨f, upd_same⟩ (rs.step st)) (hS.new hp)
theorem Ans.newV {K : PySem.W.Frag} {S : Store} {H : Hp} {R : QE} {Q : VK} (a : Ans K cl S H R Q) (hS : RepS K H cl S) {vs : List V} {ds : List D} {p : Addr} (hp : H p = none) (rs : Reps K S H vs ds) (r : R (.vls ds) S) : Q (.ref p) (upd H p (.lst vs)) :=
  a.newL (m := false) hS hp rs r
/-- a list, as data -/
theorem fz_lst {K : PySem.W.Frag} {S : Store} {H : Hp} {x : V} {d : D} {ds : List D} (r : Rep K S H x d) (hS : RepS K H cl S) (e : fz S d = .vls ds) : ∃ a vs, x = .ref a ∧ H a = some (.lst vs) ∧ Reps K S H vs ds := by
  cases r with
  | vls h rs =>
    have e : D.vls _ = D.vls ds := e
    cases e; exact ⟨_, _, rfl, h.2, rs⟩
  | loc a =>
    have e : (match S a with | some (.lst xs) => D.vls xs | _ => D.loc a) = D.vls ds := e
    split at e
    · rename_i xs hx
      cases e
      cases hS a _ hx with
      | lst z rs => exact ⟨_, _, rfl, z, rs⟩
    · cases e
  | non => exact absurd (show D.non = D.vls ds from e) (by simp)
  | bl b => exact absurd (show D.bl b = D.vls ds from e) (by simp)
  | int b => exact absurd (show D.int b = D.vls ds from e) (by simp)
  | str b => exact absurd (show D.str b = D.vls ds from e) (by simp)
  | tup h rs => exact absurd (show D.tup _ = D.vls ds from e) (by simp)
  | scr h rs => exact absurd (show D.scr _ = D.vls ds from e) (by simp)
theorem Reps.rep {K : PySem.W.Frag} {S : Store} {H : Hp} {vs : List V} {ds : List D} (r : Reps K S H vs ds) : ∀ n : Nat, Reps K S H (List.replicate n vs).flatten (List.replicate n ds).flatten
  | 0 => .nil
  | n + 1 => by rw [List.replicate_succ, List.replicate_succ, List.flatten_cons, List.flatten_cons]; exact r.append (Reps.rep r n)
theorem MulOk.ok {i j : Int} (h : MulOk i j) : IntMulOk i j := by
  rcases h with h | h | h
  · exact CMulW.ok h
  · exact IntMulOk.of_left (intBits_le_64 h.1 h.2)
  · exact IntMulOk.of_right (intBits_le_64 h.1 h.2)
theorem sizeL_eq : sizeL = sizeLine := by rw [sizeLine_eq]; rfl
/-- the form of all two-place rules -/
abbrev rOp (K : PySem.W.Frag) (cl : Nat → Addr) (w : Store → D → D → QE → Prop) : R2 := fun x y H Q => ∃ S dx dy R, RepS K H cl S ∧ Rep K S H x dx ∧ Rep K S H y dy ∧ w S dx dy R ∧ Ans K cl S H R Q
theorem op_binW (op : Operator) : OpR X (binaryOp op) (rOp X.K cl fun S x y R => binW S op x y fun d => R d S) := by
  intro pins s σ H x y v u Q I rx ry h
  obtain ⟨S, dx, dy, R, hS, r1, r2, hw, ans⟩ := h
  have fin := fun {d : D} {v : V} => ans.here hS (d := d) (v := v)
  have hw : binW S op dx dy (fun d => R d S) := hw
  cases op with
  | Add =>
    have hw : addW S dx dy (fun d => R d S) := hw
    unfold addW at hw
    split at hw
    · cases r1; cases r2
      exact op_add pins s σ H _ _ v u Q I rx ry ⟨_, _, rfl, rfl, fin hw (.int _)⟩
    · cases r1; cases r2
      exact op_add_str pins s σ H _ _ v u Q I rx ry ⟨_, _, rfl, rfl, by rw [← sizeL_eq]; exact hw.1, fin hw.2 (.str _)⟩
    · cases r1 with
      | tup h1 rs1 =>
        cases r2 with
        | tup h2 rs2 =>
          refine op_catA pins s σ H _ _ v u Q I rx ry ⟨_, _, _, _, rfl, rfl, h1.sq, h2.sq, by rw [← sizeL_eq, rs1.length, rs2.length]; exact hw.1, fun e => ?_, fun e e' => ?_, fun e e' p hp => ?_⟩
          · subst e; cases rs1
            exact fin hw.2 (.tup h2 rs2)
          · subst e'; cases rs2
            refine fin hw.2 (.tup h1 ?_)
            rw [List.append_nil]; exact rs1
          · exact ans.newT hS hp (rs1.append rs2) hw.2
    · split at hw
      · rename_i xs ys e1 e2
        obtain ⟨a, vs, rfl, ha, rs1⟩ := fz_lst r1 hS e1
        obtain ⟨b, ws, rfl, hb, rs2⟩ := fz_lst r2 hS e2
        exact op_cat pins s σ H _ _ v u Q I rx ry ⟨_, _, _, _, rfl, rfl, ha, hb, by rw [← sizeL_eq, rs1.length, rs2.length]; exact hw.1, fun p hp => ans.newV hS hp (rs1.append rs2) hw.2⟩
      · exact hw.elim
  | Sub =>
    have hw : subW dx dy (fun d => R d S) := hw
    unfold subW at hw
    split at hw
    · cases r1; cases r2
      exact op_sub pins s σ H _ _ v u Q I rx ry ⟨_, _, rfl, rfl, fin hw (.int _)⟩
    · exact hw.elim
  | Mult =>
    have hw : mulW S dx dy (fun d => R d S) := hw
    unfold mulW at hw
    split at hw
    · cases r1; cases r2
      obtain ⟨t, rfl⟩ := rx
      obtain ⟨t', rfl⟩ := ry
      exact mul_int ⟨.int _, H, I.tok _, ⟨_, rfl⟩, fin hw.2 (.int _)⟩ hw.1.ok
    · obtain ⟨k0, k1, hz, hq⟩ := hw
      cases r1; cases r2
      exact op_mulS pins s σ H _ _ v u Q I rx ry ⟨_, _, rfl, rfl, hz, k0, k1, fin hq (.str _)⟩
    · obtain ⟨hne, k0, k1, hl, hq⟩ := hw
      cases r2
      cases r1 with
      | tup h1 rs1 =>
        rename_i xs k _ a vs
        have hne' : vs ≠ [] := fun e => by
          subst e; cases rs1; exact hne rfl
        by_cases e1 : k = 1
        · subst e1
          refine op_repO pins s σ H _ _ v u Q I rx ry ⟨_, _, _, rfl, rfl, h1.sq, .inl ⟨rfl, fin (d := _) ?_ (.tup h1 rs1)⟩⟩
          simpa using hq
        · by_cases e0 : k = 0
          · subst e0
            exact op_repO pins s σ H _ _ v u Q I rx ry ⟨_, _, _, rfl, rfl, h1.sq, .inr ⟨rfl, hne', fun p hp => ans.newT hS hp .nil hq⟩⟩
          · exact op_repT pins s σ H _ _ v u Q I rx ry ⟨_, _, _, rfl, rfl, h1.sq, hne', by omega, k1, by rw [rs1.length]; exact hl, fun p hp => ans.newT hS hp (rs1.rep _) hq⟩
    · split at hw
      · rename_i xs e1
        obtain ⟨h1, h2, h3, h4⟩ := hw
        cases r2
        obtain ⟨a, vs, rfl, ha, rs⟩ := fz_lst r1 hS e1
        exact op_rep pins s σ H _ _ v u Q I rx ry ⟨_, _, _, rfl, rfl, ha, h1, h2, by rw [← sizeL_eq, rs.length]; exact h3, fun p hp => ans.newV hS hp (rs.rep _) h4⟩
      · exact hw.elim
    · exact hw.elim
  | FloorDiv =>
    have hw : divW dx dy (fun d => R d S) := hw
    unfold divW at hw
    split at hw
    · cases r1; cases r2
      obtain ⟨t, rfl⟩ := rx
      obtain ⟨t', rfl⟩ := ry
      exact floordiv_int hw.1.1 ⟨.int _, H, I.tok _, ⟨_, rfl⟩, fin hw.2 (.int _)⟩ (.inl (PyProof.noPylong_of_log2 hw.1.2))
    · exact hw.elim
  | Mod =>
    have hw : modW dx dy (fun d => R d S) := hw
    unfold modW at hw
    split at hw
    · cases r1; cases r2
      exact op_modN pins s σ H _ _ v u Q I rx ry ⟨_, _, rfl, rfl, hw.1, fin hw.2 (.int _)⟩
    · exact hw.elim
  | Pow =>
    have hw : powW dx dy (fun d => R d S) := hw
    unfold powW at hw
    split at hw
    · cases r1; cases r2
      exact op_pow pins s σ H _ _ v u Q I rx ry ⟨_, _, rfl, rfl, hw.1, fin hw.2 (.int _)⟩
    · exact hw.elim
  | _ => exact (show False from hw).elim
theorem op_catM : OpR X (binaryOp .Add) (rOp X.K cl fun S x y R => catMW S x y R) := by
  intro pins s σ H x y v u Q I rx ry h
  obtain ⟨S, dx, dy, R, hS, r1, r2, hw, ans⟩ := h
  replace hw : catMW S dx dy R := hw
  unfold catMW at hw
  split at hw
  · rename_i xs ys e1 e2
    obtain ⟨a, vs, rfl, ha, rs1⟩ := fz_lst r1 hS e1
    obtain ⟨b, ws, rfl, hb, rs2⟩ := fz_lst r2 hS e2
    exact op_cat pins s σ H _ _ v u Q I rx ry ⟨_, _, _, _, rfl, rfl, ha, hb, by rw [← sizeL_eq, rs1.length, rs2.length]; exact hw.1, fun p hp => ans.newL hS hp (rs1.append rs2) hw.2⟩
  · exact hw.elim
end
end XC
end

section
set_option Elab.async false
set_option linter.all false
set_option maxRecDepth 100000
set_option maxHeartbeats 4000000
namespace XC
open PySem PySem.Spec PyProof.Rows L2
mutual
def D.py : D → PyData
  | .non => .none
  | .bl b => .bool b
  | .int i => .int i
  | .str x => .str x
  | .tup xs => .tuple (pys xs)
  | .vls xs => .list (pys xs)
  | .scr xs => .list (pys xs)
  | .loc _ => .none
def pys : List D → List PyData
  | [] => []
  | x :: xs => x.py :: pys xs
end
mutual
theorem eqv_py : ∀ (d e : D) (n m : Nat), d.ok n = true → e.ok m = true → PyData.eqv d.py e.py = d.eqv e
  | .loc _, _, n, _, h, _ => by cases n <;> simp [D.ok] at h
  | .non, e, _, m, _, h => by cases e <;> (try cases m) <;> simp [D.py, PyData.eqv, D.eqv, D.ok] at h ⊢
  | .bl _, e, _, m, _, h => by cases e <;> (try cases m) <;> simp [D.py, PyData.eqv, D.eqv, D.ok] at h ⊢
  | .int _, e, _, m, _, h => by cases e <;> (try cases m) <;> simp [D.py, PyData.eqv, D.eqv, D.ok] at h ⊢
  | .str _, e, _, m, _, h => by cases e <;> (try cases m) <;> simp [D.py, PyData.eqv, D.eqv, D.ok] at h ⊢
  | .tup xs, e, n, m, h1, h2 => by
    cases n with
    | zero => simp [D.ok] at h1
    | succ n =>
      cases e with
      | tup ys =>
        cases m with
        | zero => simp [D.ok] at h2
        | succ m => simp only [D.py, PyData.eqv, D.eqv]; exact eqvs_py xs ys n m (by simpa [D.ok] using h1) (by simpa [D.ok] using h2)
      | _ => (try cases m) <;> simp [D.py, PyData.eqv, D.eqv, D.ok] at h2 ⊢
  | .vls xs, e, n, m, h1, h2 => by
    cases n with
    | zero => simp [D.ok] at h1
    | succ n =>
      cases e with
      | vls ys =>
        cases m with
        | zero => simp [D.ok] at h2
        | succ m => simp only [D.py, PyData.eqv, D.eqv]; exact eqvs_py xs ys n m (by simpa [D.ok] using h1) (by simpa [D.ok] using h2)
      | scr ys =>
        cases m with
        | zero => simp [D.ok] at h2
        | succ m => simp only [D.py, PyData.eqv, D.eqv]; exact eqvs_py xs ys n m (by simpa [D.ok] using h1) (by simpa [D.ok] using h2)
      | _ => (try cases m) <;> simp [D.py, PyData.eqv, D.eqv, D.ok] at h2 ⊢
  | .scr xs, e, n, m, h1, h2 => by
    cases n with
    | zero => simp [D.ok] at h1
    | succ n =>
      cases e with
      | vls ys =>
        cases m with
        | zero => simp [D.ok] at h2
        | succ m => simp only [D.py, PyData.eqv, D.eqv]; exact eqvs_py xs ys n m (by simpa [D.ok] using h1) (by simpa [D.ok] using h2)
      | scr ys =>
        cases m with
        | zero => simp [D.ok] at h2
        | succ m => simp only [D.py, PyData.eqv, D.eqv]; exact eqvs_py xs ys n m (by simpa [D.ok] using h1) (by simpa [D.ok] using h2)
      | _ => (try cases m) <;> simp [D.py, PyData.eqv, D.eqv, D.ok] at h2 ⊢
theorem eqvs_py : ∀ (xs ys : List D) (n m : Nat), oks n xs = true → oks m ys = true → PyData.eqvAll (pys xs) (pys ys) = eqvs xs ys
  | [], [], _, _, _, _ => by simp [pys, PyData.eqvAll, eqvs]
  | [], _ :: _, _, _, _, _ => by simp [pys, PyData.eqvAll, eqvs]
  | _ :: _, [], _, _, _, _ => by simp [pys, PyData.eqvAll, eqvs]
  | x :: xs, y :: ys, n, m, h1, h2 => by
    simp only [oks, Bool.and_eq_true] at h1 h2
    simp only [pys, PyData.eqvAll, eqvs]
    rw [eqv_py x y n m h1.1 h2.1, eqvs_py xs ys n m h1.2 h2.2]
end
mutual
theorem lay_py : ∀ (d : D) (n : Nat), d.ok n = true → PyData.canLay0 d.py = true ∧ PyData.depth d.py ≤ n
  | .non, _, _ => by simp [D.py, PyData.canLay0, PyData.depth]
  | .bl _, _, _ => by simp [D.py, PyData.canLay0, PyData.depth]
  | .int _, _, _ => by simp [D.py, PyData.canLay0, PyData.depth]
  | .str x, n, h => by
    have h' : strOkD x = true := by cases n <;> simpa [D.ok] using h
    exact ⟨by simp only [D.py, PyData.canLay0]; exact h', by simp [D.py, PyData.depth]⟩
  | .tup xs, n, h => by
    cases n with
    | zero => simp [D.ok] at h
    | succ n =>
      obtain ⟨a, b⟩ := lays_py xs n (by simpa [D.ok] using h)
      simp only [D.py, PyData.canLay0, PyData.depth]
      exact ⟨a, by omega⟩
  | .vls xs, n, h => by
    cases n with
    | zero => simp [D.ok] at h
    | succ n =>
      obtain ⟨a, b⟩ := lays_py xs n (by simpa [D.ok] using h)
      simp only [D.py, PyData.canLay0, PyData.depth]
      exact ⟨a, by omega⟩
  | .scr xs, n, h => by
    cases n with
    | zero => simp [D.ok] at h
    | succ n =>
      obtain ⟨a, b⟩ := lays_py xs n (by simpa [D.ok] using h)
      simp only [D.py, PyData.canLay0, PyData.depth]
      exact ⟨a, by omega⟩
  | .loc _, n, h => by cases n <;> simp [D.ok] at h
theorem lays_py : ∀ (xs : List D) (n : Nat), oks n xs = true → PyData.canLayAll0 (pys xs) = true ∧ PyData.depthAll (pys xs) ≤ n
  | [], _, _ => by simp [pys, PyData.canLayAll0, PyData.depthAll]
  | x :: xs, n, h => by
    simp only [oks, Bool.and_eq_true] at h
    obtain ⟨a, b⟩ := lay_py x n h.1
    obtain ⟨a', b'⟩ := lays_py xs n h.2
    simp only [pys, PyData.canLayAll0, PyData.depthAll, Bool.and_eq_true]
    exact ⟨⟨a, a'⟩, by omega⟩
end
theorem shaped_py {d : D} (h : d.ok 40 = true) : SeqAt.shaped d.py = true := by
  obtain ⟨a, b⟩ := lay_py d 40 h
  unfold SeqAt.shaped
  rw [a, Bool.true_and]
  exact decide_eq_true (by omega)
mutual
theorem Rep.dp {K : PySem.W.Frag} {S : Store} {H : Hp} : ∀ {v : V} {d : D} (n : Nat), Rep K S H v d → d.ok n = true → Dp K H v d.py
  | _, _, _, .non, _ => .non
  | _, _, _, .bl b, _ => .bl b
  | _, _, _, .int i, _ => .int i
  | _, _, _, .str s, _ => .str s
  | _, _, n, .tup h r, e => by
    cases n with
    | zero => simp [D.ok] at e
    | succ n => exact .tup h.sq (Reps.dp n r (by simpa [D.ok] using e))
  | _, _, n, .vls h r, e => by
    cases n with
    | zero => simp [D.ok] at e
    | succ n => exact .lst h.sq (Reps.dp n r (by simpa [D.ok] using e))
  | _, _, n, .scr h r, e => by
    cases n with
    | zero => simp [D.ok] at e
    | succ n => exact .lst h.sq (Reps.dp n r (by simpa [D.ok] using e))
  | _, _, n, .loc a, e => by cases n <;> simp [D.ok] at e
theorem Reps.dp {K : PySem.W.Frag} {S : Store} {H : Hp} : ∀ {vs : List V} {ds : List D} (n : Nat), Reps K S H vs ds → oks n ds = true → DpAll K H vs (pys ds)
  | _, _, _, .nil, _ => .nil
  | _, _, n, .cons r t, e => by
    simp only [oks, Bool.and_eq_true] at e
    exact .cons (Rep.dp n r e.1) (Reps.dp n t e.2)
end
section
variable {X : Cx} {cl : Nat → Addr}
theorem fz_or (S : Store) (d : D) : fz S d = d ∨ ∃ xs, fz S d = .vls xs := by
  cases d with
  | loc a =>
    unfold fz
    cases h : S a with
    | none => exact .inl (by simp [h])
    | some o => cases o with
      | lst xs => exact .inr ⟨xs, by simp [h]⟩
      | _ => exact .inl (by simp [h])
  | _ => exact .inl rfl
theorem fz_dp {K : PySem.W.Frag} {S : Store} {H : Hp} {v : V} {d : D} (r : Rep K S H v d) (hS : RepS K H cl S) (h : (fz S d).ok 40 = true) : Dp K H v (fz S d).py := by
  rcases fz_or S d with e | ⟨ds, q⟩
  · rw [e] at h ⊢
    exact r.dp 40 h
  · obtain ⟨a, vs, rfl, ha, rs⟩ := fz_lst r hS q
    rw [q] at h ⊢
    exact .lst (.of ha) (rs.dp 39 (by simpa [D.ok] using h))
theorem scal_of {K : PySem.W.Frag} {S : Store} {H : Hp} {x y : V} {dx dy : D} {k : Bool} (r1 : Rep K S H x dx) (r2 : Rep K S H y dy) (e : scalD dx dy = some k) : scal x y = true ∧ decide (x = y) = k := by
  unfold scalD at e
  cases r1 <;> cases r2 <;> simp at e <;> (try subst e) <;> simp [scal]
theorem op_eqW (hu : X.A.units + 64 < cLine) : OpR X (compareOp .Eq) (rOp X.K cl fun S x y R => whenB (eqD S x y) fun k => R (.bl k) S) := by
  intro pins s σ H x y v u Q I rx ry h
  obtain ⟨S, dx, dy, R, hS, r1, r2, hw, ans⟩ := h
  have hw : whenB (eqD S dx dy) (fun k => R (.bl k) S) := hw
  unfold eqD at hw
  split at hw
  · rename_i b e
    obtain ⟨a, c⟩ := scal_of r1 r2 e
    refine op_eq pins s σ H x y v u Q I rx ry ⟨a, ?_⟩
    rw [c]
    exact ans.here hS (show R (.bl b) S from hw) (.bl _)
  · split at hw
    · rename_i hk
      rw [Bool.and_eq_true] at hk
      refine op_eqD hu pins s σ H x y v u Q I rx ry ⟨_, _, fz_dp r1 hS hk.1, fz_dp r2 hS hk.2, shaped_py hk.1, shaped_py hk.2, ?_⟩
      rw [eqv_py _ _ 40 40 hk.1 hk.2]
      exact ans.here hS (show R (.bl _) S from hw) (.bl _)
    · exact hw.elim
theorem op_neW (hu : X.A.units + 64 < cLine) : OpR X (compareOp .NotEq) (rOp X.K cl fun S x y R => whenB ((eqD S x y).map not) fun k => R (.bl k) S) := by
  intro pins s σ H x y v u Q I rx ry h
  obtain ⟨S, dx, dy, R, hS, r1, r2, hw, ans⟩ := h
  have hw : whenB ((eqD S dx dy).map not) (fun k => R (.bl k) S) := hw
  unfold eqD at hw
  split at hw
  · rename_i b e
    obtain ⟨a, c⟩ := scal_of r1 r2 e
    refine op_ne pins s σ H x y v u Q I rx ry ⟨a, ?_⟩
    rw [c]
    exact ans.here hS (show R (.bl (!b)) S from hw) (.bl _)
  · split at hw
    · rename_i hk
      rw [Bool.and_eq_true] at hk
      refine op_neD hu pins s σ H x y v u Q I rx ry ⟨_, _, fz_dp r1 hS hk.1, fz_dp r2 hS hk.2, shaped_py hk.1, shaped_py hk.2, ?_⟩
      rw [eqv_py _ _ 40 40 hk.1 hk.2]
      exact ans.here hS (show R (.bl _) S from hw) (.bl _)
    · exact hw.elim
theorem flat_of {K : PySem.W.Frag} {S : Store} {H : Hp} {x : V} {d : D} (r : Rep K S H x d) (h : flat d = true) : flatV x = true := by
  cases r <;> simp [flat] at h <;> rfl
theorem flats_of {K : PySem.W.Frag} {S : Store} {H : Hp} : ∀ {xs : List V} {ds : List D}, Reps K S H xs ds → ds.all flat = true → xs.all flatV = true
  | _, _, .nil, _ => rfl
  | _, _, .cons r t, h => by
    rw [List.all_cons, Bool.and_eq_true] at h
    rw [List.all_cons, flat_of r h.1, flats_of t h.2]; rfl
theorem eqV_of {K : PySem.W.Frag} {S : Store} {H : Hp} {x y : V} {d e : D} (r1 : Rep K S H x d) (r2 : Rep K S H y e) (h1 : flat d = true) (h2 : flat e = true) : eqV x y = d.eqv e := by
  cases r1 <;> simp [flat] at h1 <;> cases r2 <;> simp [flat] at h2 <;> simp [eqV, D.eqv]
theorem inV_of {K : PySem.W.Frag} {S : Store} {H : Hp} {x : V} {d : D} (r : Rep K S H x d) (h : flat d = true) : ∀ {xs : List V} {ds : List D}, Reps K S H xs ds → ds.all flat = true → inV x xs = ds.any fun y => y.eqv d
  | _, _, .nil, _ => rfl
  | _, _, .cons r' t, h' => by
    rw [List.all_cons, Bool.and_eq_true] at h'
    have := inV_of r h t h'.2
    unfold inV at this ⊢
    rw [List.any_cons, List.any_cons, this, eqV_of r' r h'.1 h]
theorem seq_of {K : PySem.W.Frag} {S : Store} {H : Hp} {v : V} {d : D} {ds : List D} (r : Rep K S H v d) (hS : RepS K H cl S) (e : items S d = some ds) : ∃ a vs, v = .ref a ∧ (SqL K H a vs ∨ SqT K H a vs) ∧ Reps K S H vs ds := by
  cases r with
  | tup h rs => cases e; exact ⟨_, _, rfl, .inr h.sq, rs⟩
  | vls h rs => cases e; exact ⟨_, _, rfl, .inl h.sq, rs⟩
  | scr h rs => cases e; exact ⟨_, _, rfl, .inl h.sq, rs⟩
  | loc a =>
    have e : (match S a with | some (.lst xs) => some xs | _ => none) = some ds := e
    split at e
    · rename_i xs hx
      cases e
      cases hS a _ hx with
      | lst z rs => exact ⟨_, _, rfl, .inl (.of z), rs⟩
    · cases e
  | non => cases e
  | bl b => cases e
  | int b => cases e
  | str b => first | cases e | exact absurd ⟨_, rfl⟩ hy
theorem inD_str {S : Store} {x : D} {z : Str} {b : Bool} (e : inD S x (.str z) = some b) : ∃ c, x = .str ⟨#[c]⟩ ∧ b = decide (c ∈ z.cps.toList) := by
  cases x with
  | str s =>
    have e : (match s.cps.toList with | [c] => some (decide (c ∈ z.cps.toList)) | _ => none) = some b := e
    split at e
    · rename_i c hc
      cases e
      obtain ⟨⟨l⟩⟩ := s
      have hc : l = [c] := hc
      subst hc
      exact ⟨c, rfl, rfl⟩
    · cases e
  | _ => cases e
theorem inD_items {S : Store} {x y : D} {b : Bool} (hy : ¬ ∃ z, y = .str z) (e : inD S x y = some b) : ∃ ds, items S y = some ds ∧ flat x = true ∧ ds.all flat = true ∧ b = ds.any fun y => y.eqv x := by
  have key : ∀ ds : List D, inL x ds = some b → flat x = true ∧ ds.all flat = true ∧ b = ds.any fun y => y.eqv x := fun ds h => by
    unfold inL at h
    split at h
    · rename_i hk
      rw [Bool.and_eq_true] at hk
      cases h
      exact ⟨hk.1, hk.2, rfl⟩
    · cases h
  cases y with
  | tup ds => exact ⟨ds, rfl, key ds e⟩
  | vls ds => exact ⟨ds, rfl, key ds e⟩
  | scr ds => exact ⟨ds, rfl, key ds e⟩
  | loc a =>
    have e : (match S a with | some (.lst xs) => inL x xs | _ => none) = some b := e
    split at e
    · rename_i xs hx
      exact ⟨xs, by simp [items, hx], key xs e⟩
    · cases e
  | non => cases e
  | bl b => cases e
  | int b => cases e
  | str b => first | cases e | exact absurd ⟨_, rfl⟩ hy
theorem op_cmpW (op : CmpOp) (hu : X.A.units + 64 < cLine) : OpR X (compareOp op) (rOp X.K cl fun S x y R => whenB (cmpD S op x y) fun k => R (.bl k) S) := by
  cases op with
  | Eq => exact op_eqW hu
  | NotEq => exact op_neW hu
  | Lt =>
    intro pins s σ H x y v u Q I rx ry h
    obtain ⟨S, dx, dy, R, hS, r1, r2, hw, ans⟩ := h
    have hw : whenB (ltI (fun i j => decide (i < j)) dx dy) (fun k => R (.bl k) S) := hw
    unfold ltI at hw
    split at hw
    · cases r1; cases r2
      exact op_lt pins s σ H _ _ v u Q I rx ry ⟨_, _, rfl, rfl, ans.here hS hw (.bl _)⟩
    · exact hw.elim
  | LtE =>
    intro pins s σ H x y v u Q I rx ry h
    obtain ⟨S, dx, dy, R, hS, r1, r2, hw, ans⟩ := h
    have hw : whenB (ltI (fun i j => decide (i ≤ j)) dx dy) (fun k => R (.bl k) S) := hw
    unfold ltI at hw
    split at hw
    · cases r1; cases r2
      exact op_le pins s σ H _ _ v u Q I rx ry ⟨_, _, rfl, rfl, ans.here hS hw (.bl _)⟩
    · exact hw.elim
  | Gt =>
    intro pins s σ H x y v u Q I rx ry h
    obtain ⟨S, dx, dy, R, hS, r1, r2, hw, ans⟩ := h
    have hw : whenB (ltI (fun i j => decide (j < i)) dx dy) (fun k => R (.bl k) S) := hw
    unfold ltI at hw
    split at hw
    · cases r1; cases r2
      exact op_gt pins s σ H _ _ v u Q I rx ry ⟨_, _, rfl, rfl, ans.here hS hw (.bl _)⟩
    · exact hw.elim
  | GtE =>
    intro pins s σ H x y v u Q I rx ry h
    obtain ⟨S, dx, dy, R, hS, r1, r2, hw, ans⟩ := h
    have hw : whenB (ltI (fun i j => decide (j ≤ i)) dx dy) (fun k => R (.bl k) S) := hw
    unfold ltI at hw
    split at hw
    · cases r1; cases r2
      exact op_ge pins s σ H _ _ v u Q I rx ry ⟨_, _, rfl, rfl, ans.here hS hw (.bl _)⟩
    · exact hw.elim
  | Is =>
    intro pins s σ H x y v u Q I rx ry h
    obtain ⟨S, dx, dy, R, hS, r1, r2, hw, ans⟩ := h
    have hw : whenB (isD dx dy) (fun k => R (.bl k) S) := hw
    unfold isD at hw
    split at hw
    · cases r2
      refine op_isN pins s σ H _ _ v u Q I rx ry ⟨rfl, ?_⟩
      have e : decide (x = V.non) = isNon dx := by cases r1 <;> simp [isNon]
      rw [e]
      exact ans.here hS (show R (.bl (isNon dx)) S from hw) (.bl _)
    · split at hw
      · cases r1; cases r2
        exact op_isBl pins s σ H _ _ v u Q I rx ry ⟨_, _, rfl, rfl, ans.here hS hw (.bl _)⟩
      · exact hw.elim
    · exact hw.elim
  | IsNot =>
    intro pins s σ H x y v u Q I rx ry h
    obtain ⟨S, dx, dy, R, hS, r1, r2, hw, ans⟩ := h
    have hw : whenB ((isD dx dy).map not) (fun k => R (.bl k) S) := hw
    unfold isD at hw
    split at hw
    · cases r2
      refine op_notN pins s σ H _ _ v u Q I rx ry ⟨rfl, ?_⟩
      have e : decide (x = V.non) = isNon dx := by cases r1 <;> simp [isNon]
      rw [e]
      exact ans.here hS (show R (.bl (!isNon dx)) S from hw) (.bl _)
    · split at hw
      · cases r1; cases r2
        exact op_notBl pins s σ H _ _ v u Q I rx ry ⟨_, _, rfl, rfl, ans.here hS hw (.bl _)⟩
      · exact hw.elim
    · exact hw.elim
  | In =>
    intro pins s σ H x y v u Q I rx ry h
    obtain ⟨S, dx, dy, R, hS, r1, r2, hw, ans⟩ := h
    have hw : whenB (inD S dx dy) (fun k => R (.bl k) S) := hw
    by_cases hy : ∃ z, dy = .str z
    · obtain ⟨z, rfl⟩ := hy
      cases r2
      have hw2 : whenB (inD S dx (.str z)) (fun k => R (.bl k) S) := hw
      cases e : inD S dx (.str z) with
      | none => rw [e] at hw2; exact hw2.elim
      | some b =>
        rw [e] at hw2
        obtain ⟨c, rfl, hb⟩ := inD_str e
        cases r1
        refine op_in_sign pins s σ H _ _ v u Q I rx ry ⟨c, z, rfl, rfl, ?_⟩
        rw [← hb]
        exact ans.here hS (show R (.bl b) S from hw2) (.bl _)
    cases e : inD S dx dy with
    | none => rw [e] at hw; exact hw.elim
    | some b =>
      rw [e] at hw
      obtain ⟨ds, h1, h2, h3, h4⟩ := inD_items hy e
      obtain ⟨a, vs, rfl, ha, rs⟩ := seq_of r2 hS h1
      refine op_in_seq pins s σ H x _ v u Q I rx ry ⟨a, vs, rfl, ha, flat_of r1 h2, flats_of rs h3, ?_⟩
      show Q (.bl (inV x vs)) H
      rw [inV_of r1 h2 rs h3, ← h4]
      exact ans.here hS (show R (.bl b) S from hw) (.bl _)
  | NotIn =>
    intro pins s σ H x y v u Q I rx ry h
    obtain ⟨S, dx, dy, R, hS, r1, r2, hw, ans⟩ := h
    have hw : whenB ((inD S dx dy).map not) (fun k => R (.bl k) S) := hw
    by_cases hy : ∃ z, dy = .str z
    · obtain ⟨z, rfl⟩ := hy
      cases r2
      have hw2 : whenB ((inD S dx (.str z)).map not) (fun k => R (.bl k) S) := hw
      cases e : inD S dx (.str z) with
      | none => rw [e] at hw2; exact hw2.elim
      | some b =>
        rw [e] at hw2
        obtain ⟨c, rfl, hb⟩ := inD_str e
        cases r1
        refine op_notIn_sign pins s σ H _ _ v u Q I rx ry ⟨c, z, rfl, rfl, ?_⟩
        rw [← hb]
        exact ans.here hS (show R (.bl (!b)) S from hw2) (.bl _)
    cases e : inD S dx dy with
    | none => rw [e] at hw; exact hw.elim
    | some b =>
      rw [e] at hw
      obtain ⟨ds, h1, h2, h3, h4⟩ := inD_items hy e
      obtain ⟨a, vs, rfl, ha, rs⟩ := seq_of r2 hS h1
      refine op_notIn_seq pins s σ H x _ v u Q I rx ry ⟨a, vs, rfl, ha, flat_of r1 h2, flats_of rs h3, ?_⟩
      show Q (.bl (!inV x vs)) H
      rw [inV_of r1 h2 rs h3, ← h4]
      exact ans.here hS (show R (.bl (!b)) S from hw) (.bl _)
/-- truth -/
theorem truth_of {K : PySem.W.Frag} {S : Store} {H : Hp} {v : V} {d : D} {k : Bool} (r : Rep K S H v d) (hS : RepS K H cl S) (e : truth S d = some k) : TruV K v H k := by
  cases r with
  | non => exact (Option.some.inj e).symm
  | bl b => exact (Option.some.inj e).symm
  | int i => exact (Option.some.inj e).symm
  | str z =>
    have e : (if z.length ≤ sizeL then some ((z.length : Int) != 0) else none) = some k := e
    split at e
    · rename_i h
      exact ⟨by rw [← sizeL_eq]; exact h, (Option.some.inj e).symm⟩
    · cases e
  | tup h rs => exact .inr (.inl ⟨_, h.sq, by rw [rs.isEmpty]; exact (Option.some.inj e).symm⟩)
  | vls h rs => exact .inl ⟨_, h.sq, by rw [rs.isEmpty]; exact (Option.some.inj e).symm⟩
  | scr h rs => exact .inl ⟨_, h.sq, by rw [rs.isEmpty]; exact (Option.some.inj e).symm⟩
  | loc a =>
    have e : (match S a with | some (.lst xs) => some (!xs.isEmpty) | some (.dic kvs) => some (!kvs.isEmpty) | _ => none) = some k := e
    split at e
    · rename_i xs hx
      cases hS a _ hx with
      | lst z rs => exact .inl ⟨_, .of z, by rw [rs.isEmpty]; exact (Option.some.inj e).symm⟩
    · rename_i kvs hx
      cases hS a _ hx with
      | dic z hk rs =>
        refine .inr (.inr ⟨_, z, ?_⟩)
        rw [← Option.some.inj e]
        have := rs.isEmpty
        simp only [List.isEmpty_map] at this
        rw [this]
    · cases e
end
end XC
end

section
set_option Elab.async false
set_option linter.all false
set_option maxRecDepth 100000
set_option maxHeartbeats 4000000
namespace XC
open PySem PySem.Spec PyProof.Rows L2
section
variable {X : Cx} {cl : Nat → Addr}
theorem atI_eq {α : Type} (xs : List α) (i : Int) : XC.atI xs i = L2.atI xs i := rfl
theorem atI_rep {K : PySem.W.Frag} {S : Store} {H : Hp} {vs : List V} {ds : List D} (rs : Reps K S H vs ds) {i : Int} {d : D} (e : XC.atI ds i = some d) : ∃ v, L2.atI vs i = some v ∧ Rep K S H v d := by
  unfold XC.atI at e
  unfold L2.atI
  rw [rs.length]
  cases q : XC.ixN ds.length i with
  | none => rw [q] at e; cases e
  | some j =>
    rw [q] at e
    obtain ⟨v, h1, h2⟩ := rs.get (show ds[j]? = some d from e)
    exact ⟨v, by rw [show L2.ixN ds.length i = some j from q]; exact h1, h2⟩
theorem ix_W : IxR X (rOp X.K cl fun S x y R => match idxD S x y with | some d => R d S | none => False) := by
  intro value slice pins s σ H x y v u Q I rx ry h hs
  obtain ⟨S, dx, dy, R, hS, r1, r2, hw, ans⟩ := h
  replace hw : (match idxD S dx dy with | some d => R d S | none => False) := hw
  cases e : idxD S dx dy with
  | none => rw [e] at hw; exact hw.elim
  | some d =>
    rw [e] at hw
    replace hw : R d S := hw
    unfold idxD at e
    split at e
    · cases r2
      cases r1 with
      | tup h rs =>
        obtain ⟨w, h1, h2⟩ := atI_rep rs e
        exact ix_tup value slice pins s σ H _ _ v u Q I rx ry ⟨_, _, _, w, rfl, rfl, h.sq, h1, ans.here hS hw h2⟩ hs
    · cases r2
      cases r1 with
      | vls h rs =>
        obtain ⟨w, h1, h2⟩ := atI_rep rs e
        exact ix_list value slice pins s σ H _ _ v u Q I rx ry ⟨_, _, _, w, rfl, rfl, h.sq, h1, ans.here hS hw h2⟩ hs
    · cases r2
      cases r1 with
      | scr h rs =>
        obtain ⟨w, h1, h2⟩ := atI_rep rs e
        exact ix_list value slice pins s σ H _ _ v u Q I rx ry ⟨_, _, _, w, rfl, rfl, h.sq, h1, ans.here hS hw h2⟩ hs
    · split at e
      · rename_i a i xs hx
        cases r2
        cases r1
        cases hS _ _ hx with
        | lst z rs =>
          obtain ⟨w, h1, h2⟩ := atI_rep rs e
          exact ix_list value slice pins s σ H _ _ v u Q I rx ry ⟨_, _, _, w, rfl, rfl, .of z, h1, ans.here hS hw h2⟩ hs
      · cases e
    · split at e
      · rename_i hz
        cases r2
        cases r1
        cases q : XC.atI _ _ with
        | none => rw [q] at e; cases e
        | some c =>
          rw [q] at e
          cases e
          exact ix_str value slice pins s σ H _ _ v u Q I rx ry ⟨_, _, c, rfl, rfl, by rw [← sizeL_eq]; exact hz, q, ans.here hS hw (.str _)⟩ hs
      · cases e
    · cases e
/-- slices -/
theorem sIx_eq (n d : Nat) (o : Option Int) : XC.sIx n d o = HT.sIx n d o := by cases o <;> rfl
theorem cut_rep {K : PySem.W.Frag} {S : Store} {H : Hp} {vs : List V} {ds : List D} (rs : Reps K S H vs ds) (lo hi : Option Int) : Reps K S H (cutV vs lo hi) (cut ds lo hi) := by
  unfold cutV cut
  rw [rs.length, sIx_eq, sIx_eq]
  exact (rs.drop _).take _
theorem cut_whole {α : Type} {xs : List α} {lo hi : Option Int} (h : HT.sIx xs.length 0 lo = 0 ∧ HT.sIx xs.length xs.length hi = xs.length) : cut xs lo hi = xs := by
  unfold cut
  rw [sIx_eq, sIx_eq, h.1, h.2]
  simp
theorem sl_W : SlR X (fun x lo hi H Q => ∃ S dx R, RepS X.K H cl S ∧ Rep X.K S H x dx ∧ (match sliD S dx lo hi with | some d => R d S | none => False) ∧ Ans X.K cl S H R Q) := by
  intro pins s σ H x v vl vu lo hi sl Q I rx hs pl pu h
  obtain ⟨S, dx, R, hS, r1, hw, ans⟩ := h
  cases e : sliD S dx lo hi with
  | none => rw [e] at hw; exact hw.elim
  | some d =>
    rw [e] at hw
    replace hw : R d S := hw
    unfold sliD at e
    split at e
    · cases e
      cases r1 with
      | tup h rs =>
        refine sl_tupA pins s σ H _ v vl vu lo hi sl Q I rx hs pl pu ⟨_, _, rfl, h.sq, fun hh => ?_, fun hh p hp => ?_⟩
        · refine ans.here hS hw (.tup h ?_)
          rw [cut_whole (by rw [← rs.length]; exact hh)]
          exact rs
        · exact ans.newT hS hp (cut_rep rs lo hi) hw
    · cases e
      cases r1 with
      | vls h rs => exact sl_list pins s σ H _ v vl vu lo hi sl Q I rx hs pl pu ⟨_, _, rfl, h.sq, fun p hp => ans.newV hS hp (cut_rep rs lo hi) hw⟩
    · cases e
      cases r1 with
      | scr h rs => exact sl_list pins s σ H _ v vl vu lo hi sl Q I rx hs pl pu ⟨_, _, rfl, h.sq, fun p hp => ans.newV hS hp (cut_rep rs lo hi) hw⟩
    · split at e
      · rename_i a xs hx
        cases e
        cases r1
        cases hS _ _ hx with
        | lst z rs => exact sl_list pins s σ H _ v vl vu lo hi sl Q I rx hs pl pu ⟨_, _, rfl, .of z, fun p hp => ans.newV hS hp (cut_rep rs lo hi) hw⟩
      · cases e
    · split at e
      · rename_i z hz
        cases e
        cases r1
        refine sl_str pins s σ H _ v vl vu lo hi sl Q I rx hs pl pu ⟨_, rfl, by rw [← sizeL_eq]; exact hz, ans.here hS hw ?_⟩
        have e : cut z.cps.toList lo hi = (z.cps.toList.drop (HT.sIx z.length 0 lo)).take (HT.sIx z.length z.length hi - HT.sIx z.length 0 lo) := by
          unfold cut
          rw [sIx_eq, sIx_eq, show z.cps.toList.length = z.length by simp [Str.length]]
        rw [e]
        exact .str _
      · cases e
    · cases e
/-- isinstance -/
def tyN : Tyn → String
  | .int => "int" | .bool => "bool" | .str => "str" | .tuple => "tuple" | .list => "list"
def tyVs (ts : List Tyn) : List Value := ts.map fun t => .type (tyN t)
theorem seqX {K : PySem.W.Frag} {S : Store} {H : Hp} {a : Addr} {xs : List V} (h : TupAt K S H a xs) : TyX K H (.ref a) (.type "tuple") := by
  rcases h with ⟨_, h | ⟨o, h⟩⟩ | ⟨o, its, n, h, hc, _⟩
  · exact .base (.tup h)
  · exact .fTuple h
  · exact .kTuple h hc
theorem kit1 {K : PySem.W.Frag} (a : Tyn) (b : Tyn) : PySem.W.kitOne K (.type (tyN a)) (.type (tyN b)) = some (a == b || (a == .bool && b == .int)) := by
  cases a <;> cases b <;> exact kit_ty (by decide +kernel)
theorem kitN {K : PySem.W.Frag} (b : Tyn) : PySem.W.kitOne K (.type "NoneType") (.type (tyN b)) = some false := by
  cases b <;> exact kit_ty (by decide +kernel)
theorem kit_all {K : PySem.W.Frag} {t : Value} {l : List Tyn} (h : ∀ b : Tyn, PySem.W.kitOne K t (.type (tyN b)) = some (l.contains b)) : ∀ ts : List Tyn, PySem.W.kitAny K t (tyVs ts) = some (ts.any fun t => l.contains t)
  | [] => rfl
  | b :: ts => by
    have ih := kit_all h ts
    unfold tyVs at ih ⊢
    rw [List.map_cons, List.any_cons]
    refine kitAny_cons (h b) (fun e => ?_) fun e => ?_
    · rw [e, Bool.false_or]; exact ih
    · rw [e, Bool.true_or]
theorem ty_of {K : PySem.W.Frag} {S : Store} {H : Hp} {v : V} {d : D} {l : List Tyn} (r : Rep K S H v d) (hS : RepS K H cl S) (e : tyOf S d = some l) :
    ∃ t, TyX K H v t ∧ ∀ b : Tyn, PySem.W.kitOne K t (.type (tyN b)) = some (l.contains b) := by
  have k := fun (a : Tyn) (b : Tyn) => kit1 (K := K) a b
  cases r with
  | non => cases e; exact ⟨_, .base .non, fun b => kitN b⟩
  | bl x => cases e; exact ⟨.type (tyN .bool), .base (.bl x), fun b => by rw [k]; cases b <;> rfl⟩
  | int x => cases e; exact ⟨.type (tyN .int), .base (.int x), fun b => by rw [k]; cases b <;> rfl⟩
  | str x => cases e; exact ⟨.type (tyN .str), .base (.str x), fun b => by rw [k]; cases b <;> rfl⟩
  | tup h rs => cases e; exact ⟨.type (tyN .tuple), seqX h, fun b => by rw [k]; cases b <;> rfl⟩
  | vls h rs =>
    cases e
    refine ⟨.type (tyN .list), ?_, fun b => by rw [k]; cases b <;> rfl⟩
    exact .base (.lst h.2)
  | scr h rs =>
    cases e
    refine ⟨.type (tyN .list), ?_, fun b => by rw [k]; cases b <;> rfl⟩
    rcases h with ⟨_, h | ⟨o, h⟩⟩ | ⟨o, its, n, h, hc, _⟩
    · exact .base (.lst h)
    · exact .base (.frz h)
    · exact .kList h hc
  | loc a =>
    have e : (match S a with | some (.lst _) => some [.list] | some (.dic _) => some [] | _ => none) = some l := e
    split at e
    · rename_i xs hx
      cases e
      cases hS a _ hx with
      | lst z rs => exact ⟨.type (tyN .list), .base (.lst z), fun b => by rw [k]; cases b <;> rfl⟩
    · rename_i kvs hx
      cases e
      cases hS a _ hx with
      | dic z _ rs => exact ⟨.type "dict", .base (.dK z), fun b => by cases b <;> exact kit_ty (by decide +kernel)⟩
    · cases e
theorem digI_ok {l : List Nat} {n : Nat} (h : digI l = some n) : l ≠ [] ∧ NumText.AllDigits l ∧ n = NumText.digitsVal l := by
  unfold digI at h
  split at h
  · rename_i q
    cases h
    exact ⟨q.1, q.2, rfl⟩
  · cases h
theorem intD_ok {x : Str} {n : Int} (h : intD x = some n) (hl : x.length ≤ 640) : intText? x = some n := by
  unfold intD at h
  split at h
  · rename_i cs hx
    cases e : digI cs with
    | none => rw [e] at h; cases h
    | some m =>
      rw [e] at h
      cases h
      obtain ⟨h1, h2, rfl⟩ := digI_ok e
      exact intText_neg hx h2 h1 (by omega)
  · cases e : digI x.cps.toList with
    | none => rw [e] at h; cases h
    | some m =>
      rw [e] at h
      cases h
      obtain ⟨h1, h2, rfl⟩ := digI_ok e
      exact intText_digits h2 h1 (by omega)
/-- built-in functions and classes -/
def bltV : Bt → Value
  | .len => .builtin "len" | .abs => .builtin "abs" | .int => .type "int" | .bool => .type "bool" | .str => .type "str" | .list => .type "list" | .listM => .type "list" | .tuple => .type "tuple"
  | .all => .builtin "all" | .any => .builtin "any" | .max => .builtin "max" | .min => .builtin "min" | .sum => .builtin "sum" | .repr => .builtin "repr" | .sorted => .builtin "sorted" | .set => .type "set" | .dict => .type "dict"
theorem bools_rep {K : PySem.W.Frag} {S : Store} {H : Hp} : ∀ {vs : List V} {ds : List D} {bs : List Bool}, Reps K S H vs ds → boolsOf ds = some bs → vs = bs.map V.bl
  | _, _, _, .nil, e => by cases e; rfl
  | _, d :: ds, bs, .cons r t, e => by
    cases r <;> try (cases e; done)
    rename_i b
    have e : (boolsOf ds).map (b :: ·) = some bs := e
    cases q : boolsOf ds with
    | none => rw [q] at e; cases e
    | some cs =>
      rw [q] at e
      cases e
      rw [bools_rep t q]; rfl
theorem items_boolsL {K : PySem.W.Frag} {S : Store} {H : Hp} {v : V} {d : D} {bs : List Bool} (r : Rep K S H v d) (hS : RepS K H cl S) (e : (items S d).bind boolsOf = some bs) (hl : ∀ xs, d ≠ .tup xs) : ∃ a, v = .ref a ∧ SqL K H a (bs.map V.bl) := by
  cases q : items S d with
  | none => rw [q] at e; cases e
  | some ds =>
    rw [q] at e
    have e : boolsOf ds = some bs := e
    cases r with
    | vls h rs => cases q; exact ⟨_, rfl, by rw [← bools_rep rs e]; exact h.sq⟩
    | scr h rs => cases q; exact ⟨_, rfl, by rw [← bools_rep rs e]; exact h.sq⟩
    | loc a =>
      have q : (match S a with | some (.lst xs) => some xs | _ => none) = some ds := q
      split at q
      · rename_i xs hx
        cases q
        cases hS a _ hx with
        | lst z rs => exact ⟨_, rfl, by rw [← bools_rep rs e]; exact .of z⟩
      · cases q
    | tup h rs => exact absurd rfl (hl _)
    | non => cases q
    | bl b => cases q
    | int b => cases q
    | str b => cases q
theorem listB_of {K : PySem.W.Frag} {S : Store} {H : Hp} {v : V} {d : D} {bs : List Bool} (r : Rep K S H v d) (hS : RepS K H cl S) (e : listB S d = some bs) : ∃ a, v = .ref a ∧ SqL K H a (bs.map V.bl) := by
  cases d with
  | tup xs => cases e
  | _ => exact items_boolsL r hS e (fun _ z => nomatch z)
abbrev rBt (K : PySem.W.Frag) (cl : Nat → Addr) (b : Bt) : List V → Hp → VK → Prop := fun vs H Q => ∃ S ds R, RepS K H cl S ∧ Reps K S H vs ds ∧ bltW b ds S R ∧ Ans K cl S H R Q
theorem Reps.one {K : PySem.W.Frag} {S : Store} {H : Hp} {vs : List V} {d : D} (r : Reps K S H vs [d]) : ∃ v, vs = [v] ∧ Rep K S H v d := by
  cases r with
  | cons a b => cases b; exact ⟨_, rfl, a⟩
theorem Reps.two {K : PySem.W.Frag} {S : Store} {H : Hp} {vs : List V} {d e : D} (r : Reps K S H vs [d, e]) : ∃ v w, vs = [v, w] ∧ Rep K S H v d ∧ Rep K S H w e := by
  cases r with
  | cons a b => cases b with
    | cons b c => cases c; exact ⟨_, _, rfl, a, b⟩
theorem seqL_of {K : PySem.W.Frag} {S : Store} {H : Hp} {v : V} {d : D} {ds : List D} (r : Rep K S H v d) (hS : RepS K H cl S) (q : items S d = some ds) (hl : ∀ xs, d ≠ .tup xs) : ∃ a vs, v = .ref a ∧ SqL K H a vs ∧ Reps K S H vs ds := by
  cases r with
  | vls h rs => cases q; exact ⟨_, _, rfl, h.sq, rs⟩
  | scr h rs => cases q; exact ⟨_, _, rfl, h.sq, rs⟩
  | loc a =>
    have q : (match S a with | some (.lst xs) => some xs | _ => none) = some ds := q
    split at q
    · rename_i xs hx
      cases q
      cases hS a _ hx with
      | lst z rs => exact ⟨_, _, rfl, .of z, rs⟩
    · cases q
  | tup h rs => exact absurd rfl (hl _)
  | non => cases q
  | bl b => cases q
  | int b => cases q
  | str b => cases q
/-- sorted of pairs of ints (a tuple that the module holds, too) -/
def rSrtP (K : PySem.W.Frag) : List V → Hp → VK → Prop := fun vs H Q => ∃ a xs, vs = [V.ref a] ∧ SqL K H a xs ∧ (∀ x ∈ xs, ∃ t i j, x = V.ref t ∧ SqT K H t [.int i, .int j]) ∧
  ∀ ys p, ys.Perm xs → H p = none → Q (.ref p) (upd H p (.lst ys))
theorem cr_srtP : CallR X (.builtin "sorted") (rSrtP X.K) := by
  intro pins s σ H vs us Q I r h
  obtain ⟨a, xs, rfl, hs, hx, q⟩ := h
  obtain ⟨its, rv, hl, hz⟩ := I.list hs
  obtain ⟨u, rfl, ru⟩ := vals1 r
  obtain rfl : u = Value.ref a := ru
  obtain ⟨e1, e2⟩ := refs_back rv fun x m => by
    obtain ⟨t, _, _, e, _⟩ := hx x m
    exact ⟨t, e⟩
  refine Srt.sorted_pairs hl.isList (by rw [← rv.length]; exact hz) (fun v hv => ?_) fun h' d out hp k hd hn => ?_
  · obtain ⟨t, rfl⟩ := e2 v hv
    have hm : V.ref t ∈ xs := by rw [e1]; exact List.mem_map.mpr ⟨_, hv, rfl⟩
    obtain ⟨t', i, j, e, ht⟩ := hx _ hm
    cases e
    obtain ⟨its2, r2, tt, _⟩ := I.tuple ht
    obtain ⟨u1, u2, rfl, ri, rj⟩ := vals2 r2
    obtain ⟨t1, rfl⟩ := ri
    obtain ⟨t2, rfl⟩ := rj
    obtain ⟨o, ho, hc, n, hd⟩ := tt
    exact ⟨i, j, t, o, t1, t2, n, rfl, ho, hc, hd⟩
  · have h3 : ∀ u ∈ out, ∃ a, u = Value.ref a := fun u hu => e2 u (hp.mem_iff.mp hu)
    obtain ⟨n, hn⟩ := hn
    refine ⟨.ref d, upd H d (.lst (out.map backV)), I.laid (t' := s.toks) k hd ⟨?_, out, n, vals_back h3, hn⟩, rfl, q _ d ?_ (I.hok.fresh hd)⟩
    · rw [List.length_map, hp.length_eq, ← rv.length]; exact hz
    · rw [e1]; exact hp.map backV
theorem reps_perm {K : PySem.W.Frag} {S : Store} {H : Hp} {vs ws : List V} (p : vs.Perm ws) : ∀ {ds : List D}, Reps K S H ws ds → ∃ es : List D, es.Perm ds ∧ Reps K S H vs es := by
  induction p with
  | nil => exact fun {ds} r => ⟨ds, List.Perm.refl _, r⟩
  | cons x p ih =>
    intro ds r
    cases r with
    | cons a b =>
      obtain ⟨es, h1, h2⟩ := ih b
      exact ⟨_ :: es, h1.cons _, .cons a h2⟩
  | swap x y l =>
    intro ds r
    cases r with
    | cons a b => cases b with
      | cons b c => exact ⟨_ :: _ :: _, List.Perm.swap _ _ _, .cons b (.cons a c)⟩
  | trans p q ih1 ih2 =>
    intro ds r
    obtain ⟨es, h1, h2⟩ := ih2 r
    obtain ⟨fs, h3, h4⟩ := ih1 h2
    exact ⟨fs, h3.trans h1, h4⟩
theorem pairs_reps {K : PySem.W.Frag} {S : Store} {H : Hp} : ∀ {vs : List V} {ds : List D}, Reps K S H vs ds → ds.all isPairD = true → ∀ x ∈ vs, ∃ t i j, x = V.ref t ∧ SqT K H t [.int i, .int j]
  | _, _, .nil, _, x, hx => by cases hx
  | _, _, .cons (d := d) r rs, e, x, hx => by
    rw [List.all_cons, Bool.and_eq_true] at e
    rcases List.mem_cons.mp hx with rfl | hx
    · unfold isPairD at e
      split at e
      · cases r with
        | tup h q =>
          cases q with
          | cons a q => cases q with
            | cons b q =>
              cases q; cases a; cases b
              exact ⟨_, _, _, rfl, h.sq⟩
      · exact absurd e.1 Bool.false_ne_true
    · exact pairs_reps rs e.2 x hx
theorem blt_W (b : Bt) (hc : X.calm = true) : CallR X (bltV b) (rBt X.K cl b) := by
  intro pins s σ H xs us Q I r h
  obtain ⟨S, ds, R, hS, rs, hw, ans⟩ := h
  unfold bltW at hw
  split at hw
  · -- len
    rename_i x
    obtain ⟨v, rfl, rv⟩ := rs.one
    cases e : lenD S x with
    | none => rw [e] at hw; exact hw.elim
    | some n =>
      rw [e] at hw
      replace hw : R (.int n) S := hw
      refine call_len pins s σ H _ us Q I r ⟨v, n, rfl, ?_, ans.here hS hw (.int _)⟩
      cases rv with
      | str z =>
        have e : (if z.length ≤ sizeL then some z.length else none) = some n := e
        split at e
        · rename_i hz
          cases e
          exact ⟨by rw [← sizeL_eq]; exact hz, rfl⟩
        · cases e
      | tup h q => cases e; exact .inr ⟨_, h.sq, q.length.symm⟩
      | vls h q => cases e; exact .inl ⟨_, h.sq, q.length.symm⟩
      | scr h q => cases e; exact .inl ⟨_, h.sq, q.length.symm⟩
      | loc a =>
        have e : (items S (.loc a)).map List.length = some n := e
        cases q : items S (.loc a) with
        | none => rw [q] at e; cases e
        | some xs =>
          rw [q] at e
          cases e
          have q : (match S a with | some (.lst xs) => some xs | _ => none) = some xs := q
          split at q
          · rename_i xs hx
            cases q
            cases hS a _ hx with
            | lst z rs => exact .inl ⟨_, .of z, rs.length.symm⟩
          · cases q
      | non => cases e
      | bl b => cases e
      | int b => cases e
  · obtain ⟨v, rfl, rv⟩ := rs.one
    cases rv
    exact call_abs pins s σ H _ us Q I r ⟨_, rfl, ans.here hS hw (.int _)⟩
  · obtain ⟨v, rfl, rv⟩ := rs.one
    cases rv
    exact call_int1 pins s σ H _ us Q I r (.inl ⟨_, rfl, ans.here hS hw (.int _)⟩)
  · obtain ⟨v, rfl, rv⟩ := rs.one
    cases rv
    exact call_int1 pins s σ H _ us Q I r (.inr ⟨_, rfl, ans.here hS hw (.int _)⟩)
  · obtain ⟨v, rfl, rv⟩ := rs.one
    cases rv
    rename_i x
    cases e : intD x with
    | none => rw [e] at hw; exact hw.elim
    | some n =>
      rw [e] at hw
      exact call_int_str pins s σ H _ us Q I r ⟨_, _, rfl, intD_ok e hw.1, hw.1, ans.here hS hw.2 (.int _)⟩
  · obtain ⟨v, rfl, rv⟩ := rs.one
    cases rv
    exact call_bool1 pins s σ H _ us Q I r (.inl ⟨_, rfl, ans.here hS hw (.bl _)⟩)
  · obtain ⟨v, rfl, rv⟩ := rs.one
    cases rv
    exact call_bool1 pins s σ H _ us Q I r (.inr ⟨_, rfl, ans.here hS hw (.bl _)⟩)
  · obtain ⟨v, rfl, rv⟩ := rs.one
    cases rv
    exact call_str_int pins s σ H _ us Q I r ⟨_, rfl, hw.1, ans.here hS hw.2 (.str _)⟩
  · -- list
    rename_i x
    obtain ⟨v, rfl, rv⟩ := rs.one
    cases e : items S x with
    | none => rw [e] at hw; exact hw.elim
    | some xs =>
      rw [e] at hw
      replace hw : R (.vls xs) S := hw
      obtain ⟨a, vs, rfl, ha, q⟩ := seq_of rv hS e
      exact call_list_of pins s σ H _ us Q I r ⟨_, _, rfl, ha, fun p hp => ans.newV hS hp q hw⟩
  · rename_i x
    obtain ⟨v, rfl, rv⟩ := rs.one
    cases e : items S x with
    | none => rw [e] at hw; exact hw.elim
    | some xs =>
      rw [e] at hw
      replace hw : newL true xs S R := hw
      obtain ⟨a, vs, rfl, ha, q⟩ := seq_of rv hS e
      exact call_list_of pins s σ H _ us Q I r ⟨_, _, rfl, ha, fun p hp => ans.newL hS hp q hw⟩
  · -- tuple
    rename_i x
    obtain ⟨v, rfl, rv⟩ := rs.one
    cases e : items S x with
    | none => rw [e] at hw; exact hw.elim
    | some xs =>
      rw [e] at hw
      replace hw : R (.tup xs) S := hw
      cases rv with
      | tup h q => cases e; exact call_tupleT pins s σ H _ us Q I r ⟨_, _, rfl, h.sq, ans.here hS hw (.tup h q)⟩
      | vls h q => cases e; exact call_tuple_of pins s σ H _ us Q I r ⟨_, _, rfl, .inl ⟨h.sq, fun p hp => ans.newT hS hp q hw⟩⟩
      | scr h q => cases e; exact call_tuple_of pins s σ H _ us Q I r ⟨_, _, rfl, .inl ⟨h.sq, fun p hp => ans.newT hS hp q hw⟩⟩
      | loc a =>
        have q : (match S a with | some (.lst xs) => some xs | _ => none) = some xs := e
        split at q
        · rename_i xs hx
          cases q
          cases hS a _ hx with
          | lst z rs => exact call_tuple_of pins s σ H _ us Q I r ⟨_, _, rfl, .inl ⟨.of z, fun p hp => ans.newT hS hp rs hw⟩⟩
        · cases q
      | non => cases e
      | bl b => cases e
      | int b => cases e
      | str b => cases e
  · rename_i x
    obtain ⟨v, rfl, rv⟩ := rs.one
    split at hw
    · rename_i bs e
      obtain ⟨a, rfl, hq⟩ := listB_of rv hS e
      exact cr_all hc pins s σ H _ us Q I r ⟨_, _, rfl, hq, ans.here hS hw (.bl _)⟩
    · exact hw.elim
  · rename_i x
    obtain ⟨v, rfl, rv⟩ := rs.one
    split at hw
    · rename_i bs e
      obtain ⟨a, rfl, hq⟩ := listB_of rv hS e
      exact cr_any hc pins s σ H _ us Q I r ⟨_, _, rfl, hq, ans.here hS hw (.bl _)⟩
    · exact hw.elim
  · -- sorted
    rename_i x
    obtain ⟨v, rfl, rv⟩ := rs.one
    split at hw
    · exact hw.elim
    · rename_i hnt
      split at hw
      · rename_i ys hy
        obtain ⟨a, vs, rfl, ha', q⟩ := seqL_of rv hS hy hnt
        refine cr_srtP pins s σ H _ us Q I r ⟨a, vs, rfl, ha', pairs_reps q hw.1, fun zs p hz hp => ?_⟩
        obtain ⟨es, h1, h2⟩ := reps_perm hz q
        exact ans.newV hS hp h2 (hw.2 es h1)
      · exact hw.elim
  · obtain ⟨v, w, rfl, rv, rw'⟩ := rs.two
    cases rv; cases rw'
    exact call_max2 hc pins s σ H _ us Q I r ⟨_, _, rfl, ans.here hS hw (.int _)⟩
  · obtain ⟨v, w, rfl, rv, rw'⟩ := rs.two
    cases rv; cases rw'
    exact call_min2 hc pins s σ H _ us Q I r ⟨_, _, rfl, ans.here hS hw (.int _)⟩
  · exact hw.elim
end
end XC
end

section
set_option Elab.async false
set_option linter.all false
set_option maxRecDepth 100000
set_option maxHeartbeats 4000000
namespace XC
open PySem PySem.Spec PyProof.Rows L2
section
variable {X : Cx} {cl : Nat → Addr}
theorem ixN_len {n : Nat} {i : Int} {j : Nat} (e : XC.ixN n i = some j) : L2.ixN n i = some j := e
/-- the end behind a list written -/
theorem Ans.wr {K : PySem.W.Frag} {S : Store} {H : Hp} {R : QE} {Q : VK} {a : Addr} {o : O} {vs : List V} {ds : List D} {v : V} {d : D} (ans : Ans K cl S H R Q) (hS : RepS K H cl S) (h : S a = some o) (rs : Reps K S H vs ds) (rv : Rep K S H v d) (r : R d (put S a (.lst ds))) :
    Q v (upd H a (.lst vs)) := by
  have st : Step S H (put S a (.lst ds)) (upd H a (.lst vs)) := Step.write h
  exact ans _ _ _ _ r st (rv.step st) (hS.write h (.lst upd_same (rs.step st)))
def rMt (K : PySem.W.Frag) (cl : Nat → Addr) (m : Mt) : V → List V → Hp → VK → Prop := fun x vs H Q => ∃ S dx ds R, RepS K H cl S ∧ Rep K S H x dx ∧ Reps K S H vs ds ∧ methW m dx ds S R ∧ Ans K cl S H R Q
theorem methW_lst {m : Mt} {S : Store} {dx : D} {ds : List D} {R : QE} (hm : m ≠ .count) (h : methW m dx ds S R) : ∃ a xs, dx = .loc a ∧ S a = some (.lst xs) := by
  unfold methW at h
  split at h
  · split at h
    · rename_i hx
      exact ⟨_, _, rfl, hx⟩
    · exact h.elim
  · split at h
    · exact absurd rfl hm
    · exact h.elim
  · exact h.elim
/-- how often a truth is among truths -/
def eqb (k : Bool) : Value → Bool
  | .bool b => b == k
  | _ => false
theorem bools_vals : ∀ {bs : List Bool} {us : List Value}, Vals (bs.map V.bl) us → us = bs.map Value.bool
  | [], _, h => by cases h; rfl
  | b :: bs, _, h => by
    rw [List.map_cons] at h
    cases h with
    | cons r h =>
      cases (show _ = Value.bool b from r)
      rw [bools_vals h]; rfl
theorem eqb_count (k : Bool) : ∀ bs : List Bool, (bs.map Value.bool).countP (eqb k) = bs.count k
  | [] => rfl
  | b :: bs => by rw [List.map_cons, List.countP_cons, List.count_cons, eqb_count k bs]; rfl
theorem bools_rep' {K : PySem.W.Frag} {S : Store} {H : Hp} : ∀ {vs : List V} {ds : List D} {bs : List Bool}, Reps K S H vs ds → boolsOf ds = some bs → vs = bs.map V.bl
  | _, _, bs, .nil, e => by cases e; rfl
  | _, _, bs, .cons r rs, e => by
    cases r <;> first | (simp [boolsOf] at e; done) | skip
    rename_i b
    simp only [boolsOf, Option.map_eq_some_iff] at e
    obtain ⟨bs', h1, rfl⟩ := e
    rw [bools_rep' rs h1]; rfl
theorem mt_W_count : MtR X "list.count" (rMt X.K cl .count) := by
  intro pins s σ H x xs v us Q I rx rxs h
  obtain ⟨S, dx, ds, R, hS, r1, r2, hw, ans⟩ := h
  unfold methW at hw
  split at hw
  · split at hw
    · split at hw <;> first | contradiction | exact hw.elim
    · exact hw.elim
  · rename_i ys
    split at hw
    · rename_i b _
      split at hw
      · rename_i bs hb
        cases r1 with
        | vls hv rs =>
          obtain ⟨w, rfl, rw'⟩ := r2.one
          cases rw'
          cases rx
          obtain ⟨u, rfl, ru⟩ := rxs.one
          cases (show u = Value.bool b from ru)
          have hq := ans.here hS hw (.int _)
          have hs := hv.sq (K := X.K)
          rw [bools_rep' rs hb] at hs
          obtain ⟨its, rv, ⟨⟨cls, dd, data, sl⟩, n, ho, hc, hdn, hd⟩, hlen⟩ := I.list hs
          simp only at hc hd
          subst hc hd
          obtain rfl := bools_vals rv
          refine call_meets PySem.F.slot_list_count ⟨_, ho, rfl⟩ PySem.F.entry_list_count (PySem.F.args_list_count_2 _ _)
            (SeqAt.list_countAt _ (bs.map Value.bool).toArray n dd sl (.bool b) (eqb b)) ⟨ho, fun y hy => ?_, ?_⟩
          · have hy : y ∈ bs.map Value.bool := by simpa using hy
            obtain ⟨c, _, rfl⟩ := List.mem_map.mp hy
            exact SeqAt.EqAt.bool_bool c b
          · refine ⟨.int (bs.count b : Nat), H, I.tok _, ⟨s.toks, ?_⟩, hq⟩
            show Value.int (((bs.map Value.bool).toArray.toList.countP (eqb b) : Nat) : Int) s.toks = Value.int ((bs.count b : Nat) : Int) s.toks
            rw [show (bs.map Value.bool).toArray.toList = bs.map Value.bool from rfl, eqb_count]
      · exact hw.elim
    · exact hw.elim
  · exact hw.elim
theorem mt_W_append : MtR X "list.append" (rMt X.K cl .append) := by
  intro pins s σ H x xs v us Q I rx rs h
  obtain ⟨S, dx, ds, R, hS, r1, r2, hw, ans⟩ := h
  obtain ⟨a, ys, rfl, hx⟩ := methW_lst (by decide) hw
  cases r1
  cases hS a _ hx with
  | lst z q =>
    unfold methW at hw
    simp only [hx] at hw
    split at hw
    · obtain ⟨w, rfl, rw'⟩ := r2.one
      rename_i y
      refine mt_append pins s σ H _ _ v us Q I rx rs ⟨_, _, _, rfl, rfl, z, by rw [← sizeL_eq, q.length]; exact hw.1, ?_⟩
      exact ans.wr hS hx (q.append (.cons rw' .nil)) .non hw.2
    · contradiction
    · contradiction
    · exact hw.elim
theorem mt_W_pop : MtR X "list.pop" (rMt X.K cl .pop) := by
  intro pins s σ H x xs v us Q I rx rs h
  obtain ⟨S, dx, ds, R, hS, r1, r2, hw, ans⟩ := h
  obtain ⟨a, ys, rfl, hx⟩ := methW_lst (by decide) hw
  cases r1
  cases hS a _ hx with
  | lst z q =>
    unfold methW at hw
    simp only [hx] at hw
    split at hw
    · contradiction
    · cases r2
      split at hw
      · rename_i y hy
        obtain ⟨w, h1, h2⟩ := q.get hy
        refine mt_pop pins s σ H _ _ v us Q I rx rs ⟨_, _, w, rfl, rfl, z, by rw [q.length]; exact h1, ?_⟩
        exact ans.wr hS hx q.dropLast h2 hw
      · exact hw.elim
    · contradiction
    · exact hw.elim
theorem mt_W_popAt : MtR X "list.pop" (rMt X.K cl .popAt) := by
  intro pins s σ H x xs v us Q I rx rs h
  obtain ⟨S, dx, ds, R, hS, r1, r2, hw, ans⟩ := h
  obtain ⟨a, ys, rfl, hx⟩ := methW_lst (by decide) hw
  cases r1
  cases hS a _ hx with
  | lst z q =>
    unfold methW at hw
    simp only [hx] at hw
    split at hw
    · contradiction
    · contradiction
    · obtain ⟨w, rfl, rw'⟩ := r2.one
      cases rw'
      obtain ⟨hw1, hw2, hw⟩ := hw
      split at hw
      · rename_i k hk
        split at hw
        · rename_i y hy
          obtain ⟨w, h1, h2⟩ := q.get hy
          obtain ⟨g1, g2, _, _⟩ := ixN_seq (show L2.ixN ys.length _ = some k from hk)
          refine mt_popAt pins s σ H _ _ v us Q I rx rs ⟨_, _, _, k, w, rfl, rfl, z, hw1, hw2, by rw [q.length]; exact g1, h1, ?_⟩
          exact ans.wr hS hx (q.eraseIdx k) h2 hw
        · exact hw.elim
      · exact hw.elim
    · exact hw.elim
theorem set_W : PSet X (fun o i v H K => ∃ S do_ di dv R, RepS X.K H cl S ∧ Rep X.K S H o do_ ∧ Rep X.K S H i di ∧ Rep X.K S H v dv ∧ setIx S do_ di dv R ∧ ∀ S' H', R S' → Step S H S' H' → RepS X.K H' cl S' → K H') := by
  intro pins s σ H o i v ov iv u Q I ro ri rv h
  obtain ⟨S, do_, di, dv, R, hS, r1, r2, r3, hw, ans⟩ := h
  unfold setIx at hw
  split at hw
  · split at hw
    · rename_i xs hx
      cases r1; cases r2
      cases hS _ _ hx with
      | @lst zs _ z q =>
        split at hw
        · rename_i j hj
          refine set_list pins s σ H _ _ v ov iv u Q I ro ri rv ⟨_, _, _, j, rfl, rfl, z, by rw [q.length]; exact hj, ?_⟩
          have st := Step.write (H := H) (o := .lst (zs.set j v)) (u := .lst (xs.set j dv)) hx
          exact ans _ _ hw st (hS.write hx (.lst upd_same ((q.set r3 j).step st)))
        · exact hw.elim
    · exact hw.elim
  · exact hw.elim
theorem ip_W (op : Operator) : PIp X op (fun x y H Q => ∃ S dx dy R, RepS X.K H cl S ∧ Rep X.K S H x dx ∧ Rep X.K S H y dy ∧ (augW op dx dy fun d => R d S) ∧ Ans X.K cl S H R Q) := by
  intro pins s σ H x y v u Q I rx ry h
  obtain ⟨S, dx, dy, R, hS, r1, r2, hw, ans⟩ := h
  unfold augW at hw
  split at hw
  · cases r1; cases r2
    exact iop_add pins s σ H _ _ v u Q I rx ry ⟨_, _, rfl, rfl, ans.here hS hw (.int _)⟩
  · cases r1; cases r2
    exact iop_sub pins s σ H _ _ v u Q I rx ry ⟨_, _, rfl, rfl, ans.here hS hw (.int _)⟩
  · cases r1; cases r2
    exact iop_add_str pins s σ H _ _ v u Q I rx ry ⟨_, _, rfl, rfl, by rw [← sizeL_eq]; exact hw.1, ans.here hS hw.2 (.str _)⟩
  · exact hw.elim
end
end XC
end

section
set_option Elab.async false
set_option linter.all false
set_option maxRecDepth 100000
set_option maxHeartbeats 4000000
namespace XC
open PySem PySem.Spec PyProof.Rows L2

structure Tab where
  N : List Str
  fns : List (Str × Nat)
  cons : List (Str × Nat)
  /-- calls with keywords: the def, how many stand ahead, the names -/
  kws : List (Nat × Nat × List Str × List Nat)
  /-- classes of exceptions: the number, is it one without an own __init__ -/
  excs : List (Str × (Nat × Bool))
  /-- the fields of classes -/
  flds : List (Nat × Str)
  /-- is it a text that asks repr -/
  rp : Bool

def plainName (x : Str) : Bool := !(x == ("__debug__" : Str)) && !(x == ("__classdict__" : Str)) && !(x == ("__name__" : Str))
def visB (sc : Scope) (x : Str) : Bool := match sc.names.lookup x with
  | some .local => true
  | some .cell => true
  | some .free => true
  | _ => false
def glB (sc : Scope) (x : Str) : Bool := sc.names.lookup x == some .globalImplicit
def locB (top : Bool) (sc : Scope) (x : Str) : Bool := match sc.names.lookup x with
  | some .local => true
  | some .cell => top
  | _ => false
def conB (d : D) (c : Const) : Bool := match d, c with
  | .non, .none => true
  | .bl a, .bool b => a == b
  | .int i, .int j => i == j
  | .str x, .str y => decide (x = y)
  | _, _ => false
def notSet (e : Expr) : Bool := match e with | .Set .. => false | _ => true
def notStar (e : Expr) : Bool := match e with | .Starred .. => false | _ => true
def notSlice (e : Expr) : Bool := match e with | .Slice .. => false | _ => true
def notComp (e : Expr) : Bool := match e with | .ListComp .. => false | .SetComp .. => false | .DictComp .. => false | _ => true
def notTup (e : Expr) : Bool := match e with | .Tuple .. => false | .List .. => false | _ => true
def plainBase (e : Expr) : Bool := match e with | .Call (.Name _ _) [] [] _ => false | _ => true
def bltN : Bt → Str
  | .len => "len" | .abs => "abs" | .int => "int" | .bool => "bool" | .str => "str" | .list => "list" | .listM => "list" | .tuple => "tuple"
  | .all => "all" | .any => "any" | .max => "max" | .min => "min" | .sum => "sum" | .repr => "repr" | .sorted => "sorted" | .set => "set" | .dict => "dict"
def tyS : Tyn → Str
  | .int => "int" | .bool => "bool" | .str => "str" | .tuple => "tuple" | .list => "list"
/-- the built-in names that a text must leave alone -/
def bltNames : List Str := ["len", "abs", "int", "bool", "str", "list", "tuple", "all", "any", "max", "min", "sum", "repr", "sorted", "set", "dict", "isinstance", "range", "enumerate", "zip", "reversed"]
def tyExp (sc : Scope) (t : Tyn) (e : Expr) : Bool := match e with
  | .Name x _ => decide (x = tyS t) && glB sc x
  | _ => false
def tyExps (sc : Scope) : List Tyn → List Expr → Bool
  | [], [] => true
  | t :: ts, e :: es => tyExp sc t e && tyExps sc ts es
  | _, _ => false
def kwExprs : List Keyword → List Expr := List.map fun k => k.value
def kwNames : List Keyword → Option (List Str)
  | [] => some []
  | ⟨some x, _, _⟩ :: r => (kwNames r).map (x :: ·)
  | ⟨none, _, _⟩ :: _ => none
def lenEs : CEs → Nat
  | .nil => 0
  | .cons _ r => lenEs r + 1
def mtName : Mt → Str
  | .append => "append" | .pop => "pop" | .popAt => "pop" | .insert => "insert" | .remove => "remove" | .index => "index" | .count => "count" | .join => "join" | .extend => "extend"
def mtOk : Mt → Bool
  | .append => true | .pop => true | .popAt => true | .count => true
  | _ => false
def ownP (N : List Str) (own : List Nat) : List (Str × Nat) := own.map fun i => (N.getD i ⟨#[]⟩, i)

def isTupE (e : Expr) : Bool := match e with | .Tuple _ _ _ => true | _ => false
/-- a cell of the block's own -/
def ownCell (scope : Scope) (x : Str) : Bool := scope.names.lookup x == some .cell
def noneO (c : CO) : Bool := match c with | .none => true | .some _ => false
mutual
def chkE (T : Tab) (sc : Scope) : CE → Expr → Bool
  | .con d, e => match e with
    | .Constant c _ _ => conB d c
    | _ => false
  | .var i, e => match e with
    | .Name x _ => plainName x && decide (T.N[i]? = some x) && visB sc x
    | _ => false
  | .glob g, e => match e with
    | .Name x _ => plainName x && glB sc x && decide (T.cons.lookup x = some g)
    | _ => false
  | .bin op a b, e => match e with
    | .BinOp l o r _ => decide (o = op) && chkE T sc a l && chkE T sc b r
    | _ => false
  | .catM a b, e => match e with
    | .BinOp l .Add r _ => chkE T sc a l && chkE T sc b r
    | _ => false
  | .neg a, e => match e with
    | .UnaryOp .USub x _ => chkE T sc a x
    | _ => false
  | .nt a, e => match e with
    | .UnaryOp .Not x _ => chkE T sc a x
    | _ => false
  | .and a b, e => match e with
    | .BoolOp .And (x :: y :: r) pos => chkE T sc a x && (match r with | [] => chkE T sc b y | z :: r => chkE T sc b (.BoolOp .And (y :: z :: r) pos))
    | _ => false
  | .or a b, e => match e with
    | .BoolOp .Or (x :: y :: r) pos => chkE T sc a x && (match r with | [] => chkE T sc b y | z :: r => chkE T sc b (.BoolOp .Or (y :: z :: r) pos))
    | _ => false
  | .cmp op a b, e => match e with
    | .Compare l [o] [r] _ => decide (o = op) && chkE T sc a l && chkE T sc b r && notSet r
    | _ => false
  | .chain op op' a b c, e => match e with
    | .Compare l [o, o'] [r, r'] _ => decide (o = op) && decide (o' = op') && chkE T sc a l && chkE T sc b r && chkE T sc c r' && notSet r'
    | _ => false
  | .ite c a b, e => match e with
    | .IfExp t x y _ => chkE T sc c t && chkE T sc a x && chkE T sc b y
    | _ => false
  | .tup es, e => match e with
    | .Tuple xs _ _ => chkEs T sc es xs
    | _ => false
  | .lst _ es, e => match e with
    | .List xs _ => chkEs T sc es xs
    | _ => false
  | .idx a i, e => match e with
    | .Subscript x y _ => chkE T sc a x && chkE T sc i y && notSlice y
    | _ => false
  | .sli a lo hi, e => match e with
    | .Subscript x (.Slice l h none _) _ => chkE T sc a x && chkO T sc lo l && chkO T sc hi h
    | _ => false
  | .call f es, e => match e with
    | .Call (.Name x _) args [] _ => plainName x && glB sc x && decide (T.fns.lookup x = some f) && chkEs T sc es args
    | _ => false
  | .callk f n m perm es kes, e => match e with
    | .Call (.Name x _) args kws _ => plainName x && glB sc x && decide (T.fns.lookup x = some f) && decide (args.length = n) && decide (kws.length = m) && chkEs T sc es args && chkEs T sc kes (kwExprs kws) &&
        (match kwNames kws with | some ks => T.kws.any fun q => decide (q.1 = f) && decide (q.2.1 = n) && decide (q.2.2.1 = ks) && decide (q.2.2.2 = perm) | none => false)
    | _ => false
  | .blt b es, e => match e with
    | .Call (.Name x _) args [] _ => decide (x = bltN b) && glB sc x && chkEs T sc es args && !args.isEmpty && (match b with | .sum => false | .repr => false | .set => false | .dict => false | _ => true)
    | _ => false
  | .isi a ts, e => match e with
    | .Call (.Name x _) [y, ty] [] _ => decide (x = ("isinstance" : Str)) && glB sc x && chkE T sc a y && notStar y && (match ts with
      | [t] => tyExp sc t ty
      | _ => match ty with | .Tuple es _ _ => decide (ts.length ≤ 5) && tyExps sc ts es | _ => false)
    | _ => false
  | .comp _ own t it c elt, e => match e with
    | .ListComp el [⟨tg, iter, ifs, a⟩] scope _ => decide (a = 0) && blkC T.N sc scope (ownP T.N own) && decide (own.Nodup) && (slotsT t).all (fun j => own.contains j) && chkI T sc tg it iter && notSet iter && chkT T (relS scope sc) (ownCell scope) t tg && chkE T (relS scope sc) elt el &&
        (match ifs with | [] => noneO c | [q] => !noneO c && chkO T (relS scope sc) c (some q) | _ => false)
    | _ => false
  | .meth m o es, e => match e with
    | .Call (.Attribute y name apos) args [] cpos => decide (name = mtName m) && mtOk m && chkE T sc o y && chkEs T sc es args && plainBase y && decide (apos.endLine = cpos.line) && decide (args.length = match m with | .pop => 0 | _ => 1)
    | _ => false
  | .comp2 _ own t it c own1 t1 it1 c1 elt, e => match e with
    | .ListComp el [⟨tg, iter, ifs, a⟩, ⟨tg1, iter1, ifs1, a1⟩] scope _ => decide (a = 0) && decide (a1 = 0) && blkC T.N sc scope (ownP T.N own) && decide (own.Nodup) && decide (own1.Nodup) && own1.all (fun j => own.contains j) && (slotsT t).all (fun j => own.contains j) && (slotsT t1).all (fun j => own1.contains j) &&
        chkI T sc tg it iter && notSet iter && chkT T (relS scope sc) (ownCell scope) t tg && chkI T (relS scope sc) tg1 it1 iter1 && notSet iter1 && chkT T (relS scope sc) (ownCell scope) t1 tg1 && chkE T (relS scope sc) elt el &&
        (match ifs with | [] => noneO c | [q] => !noneO c && chkO T (relS scope sc) c (some q) | _ => false) && (match ifs1 with | [] => noneO c1 | [q] => !noneO c1 && chkO T (relS scope sc) c1 (some q) | _ => false)
    | _ => false
  | .rpr a, e => match e with
    | .Call (.Name x _) [y] [] _ => decide (x = ("repr" : Str)) && glB sc x && chkE T sc a y && notStar y && T.rp
    | _ => false
  | .dnew, e => match e with
    | .Dict [] [] _ => true
    | _ => false
  | .dnewT, e => match e with
    | .Dict [] [] _ => true
    | _ => false
  | .tupK es, e => match e with
    | .Tuple xs _ _ => chkEs T sc es xs
    | _ => false
  | .join a b, e => match e with
    | .Call (.Attribute y name apos) [f] [] cpos => decide (name = ("join" : Str)) && chkE T sc a y && chkE T sc b f && notStar f && plainBase y && decide (apos.endLine = cpos.line)
    | _ => false
  | .find a b, e => match e with
    | .Call (.Attribute y name apos) [f] [] cpos => decide (name = ("find" : Str)) && chkE T sc a y && chkE T sc b f && notStar f && plainBase y && decide (apos.endLine = cpos.line)
    | _ => false
  | .lrng _ a, e => match e with
    | .Call (.Name x _) [.Call (.Name x2 _) [y] [] _] [] _ => decide (x = ("list" : Str)) && glB sc x && decide (x2 = ("range" : Str)) && glB sc x2 && chkE T sc a y && notStar y
    | _ => false
  | .dget o k d, e => match e with
    | .Call (.Attribute y name apos) [f, g] [] cpos => decide (name = ("get" : Str)) && chkE T sc o y && chkE T sc k f && chkE T sc d g && notStar f && notStar g && plainBase y && decide (apos.endLine = cpos.line)
    | _ => false
def chkEs (T : Tab) (sc : Scope) : CEs → List Expr → Bool
  | .nil, es => es.isEmpty
  | .cons c cs, es => match es with
    | e :: r => notStar e && chkE T sc c e && chkEs T sc cs r
    | [] => false
def chkO (T : Tab) (sc : Scope) : CO → Option Expr → Bool
  | .none, e => e.isNone
  | .some c, e => match e with
    | some e => chkE T sc c e
    | none => false
def chkT (T : Tab) (sc : Scope) (top : Str → Bool) : CT → Expr → Bool
  | .nm i, e => match e with
    | .Name x _ => decide (T.N[i]? = some x) && locB (top x) sc x
    | _ => false
  | .tp ts, e => match e with
    | .Tuple es _ _ => chkTs T sc top ts es
    | _ => false
  | .ix o i, e => match e with
    | .Subscript x y _ => chkE T sc o x && chkE T sc i y && notSlice y
    | _ => false
def chkTs (T : Tab) (sc : Scope) (top : Str → Bool) : CTs → List Expr → Bool
  | .nil, es => es.isEmpty
  | .cons t ts, es => match es with
    | e :: r => notStar e && chkT T sc top t e && chkTs T sc top ts r
    | [] => false
def chkI (T : Tab) (sc : Scope) (tg : Expr) : CI → Expr → Bool
  | .ev c, e => chkE T sc c e
  | .range1 a, e => match e with
    | .Call (.Name x _) [y] [] _ => decide (x = ("range" : Str)) && glB sc x && chkE T sc a y && notStar y
    | _ => false
  | .range2 a b, e => match e with
    | .Call (.Name x _) [y, z] [] _ => decide (x = ("range" : Str)) && glB sc x && chkE T sc a y && notStar y && chkE T sc b z && notStar z
    | _ => false
  | .enum a, e => match e with
    | .Call (.Name x _) [y] [] _ => decide (x = ("enumerate" : Str)) && glB sc x && chkE T sc a y && notStar y && isTupE tg
    | _ => false
  | .zip a b, e => match e with
    | .Call (.Name x _) [y, z] [] _ => decide (x = ("zip" : Str)) && glB sc x && chkE T sc a y && notStar y && chkE T sc b z && notStar z && isTupE tg
    | _ => false
end

def locS (sc : Scope) (x : Str) : Bool := sc.names.lookup x == some .local
/-- the names that are stored from the right -/
def swapN (sc : Scope) (ts : List Expr) : List Str := ts.filterMap fun e => match e with
  | .Name id pos => if sc.names.lookup id == some .local && pos.line == (ts.head?.map (·.pos.line)).getD 0 then some id else none
  | _ => none
/-- a = b is no pair of displays whose stores are swapped -/
def noSwap (sc : Scope) (tg e : Expr) : Bool := match e with
  | .Tuple vs _ _ => (match tg with
    | .Tuple ts _ _ => !(ts.length == 2 || ts.length == 3) || decide ((swapN sc ts).length ≠ ts.length) || vs.all (foldedForSure 8)
    | .List _ _ => false
    | _ => true)
  | _ => true
def yesSwap (a b : Expr) : Bool := notStar a && notStar b && !(foldedForSure 8 a && foldedForSure 8 b) && !(constantsAlone 8 a && constantsAlone 8 b)
def yesSwap3 (a b c : Expr) : Bool := notStar a && notStar b && notStar c && !(foldedForSure 8 a && (foldedForSure 8 b && foldedForSure 8 c)) && !(constantsAlone 8 a && (constantsAlone 8 b && constantsAlone 8 c))
def chkHs (T : Tab) (sc : Scope) : List CH → List ExceptHandler → Bool
  | [], hs => hs.isEmpty
  | h :: r, hs => match hs with
    | .ExceptHandler (some (.Name x _)) none [.Assign [.Name n _] (.Constant c _ _) _] _ :: r' => decide ((T.excs.lookup x).map (·.1) = some h.c) && glB sc x && !(x == ("__debug__" : Str)) && decide (T.N[h.i]? = some n) && locS sc n && conB h.d c && chkHs T sc r r'
    | _ => false
mutual
def chkS (T : Tab) (sc : Scope) : CS → Stmt → Bool
  | .asg t c, s => match s with
    | .Assign [tg] e pos => notStar tg && noSwap sc tg e && (match e with
        | .ListComp _ gs scope p => (match tg with
          | .Name x py => ((match t with | .nm i => decide (T.N[i]? = some x) | _ => false) && locS sc x && decide (py.line = p.line) && !(scope.names.any fun (n, k) => n == x && (k == .local || k == .cell)) && chkE T sc c e) ||
              (decide (sc.names.lookup x = some .cell) && chkE T sc c e && chkT T sc (fun _ => true) t tg)
          | _ => false)
        | _ => notComp e && chkE T sc c e && chkT T sc (fun _ => true) t tg)
    | _ => false
  | .par i j a b, s => match s with
    | .Assign [.Tuple [.Name x px, .Name y py] _ _] (.Tuple [e, f] _ _) _ => decide (T.N[i]? = some x) && decide (T.N[j]? = some y) && decide (i ≠ j) && locS sc x && locS sc y && decide (x ≠ y) && decide (py.line = px.line) && chkE T sc a e && chkE T sc b f && yesSwap e f
    | _ => false
  | .par3 i j l a b c, s => match s with
    | .Assign [.Tuple [.Name x px, .Name y py, .Name z pz] _ _] (.Tuple [e, f, h] _ _) _ => decide (T.N[i]? = some x) && decide (T.N[j]? = some y) && decide (T.N[l]? = some z) && decide (i ≠ j) && decide (i ≠ l) && decide (j ≠ l) && locS sc x && locS sc y && locS sc z &&
        decide (x ≠ y) && decide (x ≠ z) && decide (y ≠ z) && decide (py.line = px.line) && decide (pz.line = px.line) && chkE T sc a e && chkE T sc b f && chkE T sc c h && yesSwap3 e f h
    | _ => false
  | .aug i op c, s => match s with
    | .AugAssign (.Name x _) o e _ => decide (T.N[i]? = some x) && locB true sc x && decide (o = op) && chkE T sc c e
    | _ => false
  | .ife c a b, s => match s with
    | .If e p q _ => chkE T sc c e && chkSs T sc a p && chkSs T sc b q
    | _ => false
  | .whl c b, s => match s with
    | .While e p [] _ => chkE T sc c e && chkSs T sc b p
    | _ => false
  | .for_ t it b, s => match s with
    | .For tg iter p [] _ => chkT T sc (fun _ => true) t tg && chkI T sc tg it iter && notSet iter && chkSs T sc b p
    | _ => false
  | .ret c, s => match s with
    | .Return (some e) _ => chkE T sc c e
    | _ => false
  | .retN, s => match s with
    | .Return none _ => true
    | _ => false
  | .exp c, s => match s with
    | .Expr e _ => notComp e && chkE T sc c e
    | _ => false
  | .pass, s => match s with
    | .Pass _ => true
    | _ => false
  | .brk, s => match s with
    | .Break _ => true
    | _ => false
  | .never, s => match s with
    | .Raise _ _ _ => true
    | _ => false
  | .rse c, s => match s with
    | .Raise (some (.Call (.Name x _) [.Constant (.str _) _ _] [] _)) none _ => decide (T.excs.lookup x = some (c, true)) && glB sc x && !(x == ("__debug__" : Str))
    | _ => false
  | .rsf c e, s => match s with
    | .Raise (some (.Call (.Name x _) [a] [] _)) none _ => decide (T.excs.lookup x = some (c, false)) && (T.flds.lookup c).isSome && glB sc x && !(x == ("__debug__" : Str)) && notStar a && chkE T sc e a
    | _ => false
  | .tryf b c i ie l, s => match s with
    | .Try body (.ExceptHandler (some (.Name x _)) (some n) [.Assign [.Name y _] v _] _ :: _) [] [] _ => chkSs T sc b body && decide (T.excs.lookup x = some (c, false)) && glB sc x && !(x == ("__debug__" : Str)) && decide (T.N[i]? = some y) && decide (T.N[ie]? = some n) && decide (i ≠ ie) && locS sc y && locS sc n && plainName n &&
        (match v with
          | .Attribute (.Name n' _) f _ => !l && decide (n' = n) && decide (T.flds.lookup c = some f)
          | .List [.Attribute (.Name n' _) f _] _ => l && decide (n' = n) && decide (T.flds.lookup c = some f)
          | _ => false)
    | _ => false
  | .dput o i c, s => match s with
    | .Assign [.Subscript x y _] e _ => chkE T sc o x && chkE T sc i y && chkE T sc c e && notComp e
    | _ => false
  | .try_ b hs, s => match s with
    | .Try body (h₀ :: hds) [] [] _ => chkSs T sc b body && chkHs T sc hs (h₀ :: hds)
    | _ => false
  | .cnt, s => match s with
    | .Continue _ => true
    | _ => false
def chkSs (T : Tab) (sc : Scope) : CSs → List Stmt → Bool
  | .nil, ss => ss.isEmpty
  | .cons c cs, ss => match ss with
    | s :: r => chkS T sc c s && chkSs T sc cs r
    | [] => false
end
theorem lenTs_chk {T : Tab} {sc : Scope} {top : Str → Bool} : ∀ {ts : CTs} {es : List Expr}, chkTs T sc top ts es = true → lenTs ts = es.length
  | .nil, [], _ => rfl
  | .nil, _ :: _, h => by simp [chkTs] at h
  | .cons _ _, [], h => by simp [chkTs] at h
  | .cons t ts, e :: es, h => by
    simp only [chkTs, Bool.and_eq_true] at h
    simp [lenTs, lenTs_chk h.2]
section
theorem star_cons {e : Expr} {es : List Expr} {env : PySem.Env} (h : notStar e = true) : starEach (e :: es) env = (false, eval e env) :: starEach es env := by
  cases e <;> first | rfl | (simp [notStar] at h)
theorem noStar_all {T : Tab} {sc : Scope} {env : PySem.Env} : ∀ {cs : CEs} {es : List Expr}, chkEs T sc cs es = true → (starEach es env).any (·.1) = false
  | .nil, [], _ => rfl
  | .nil, _ :: _, h => by simp [chkEs] at h
  | .cons _ _, [], h => by simp [chkEs] at h
  | .cons c cs, e :: es, h => by
    simp only [chkEs, Bool.and_eq_true] at h
    rw [star_cons h.1.1, List.any_cons, noStar_all h.2]; rfl
theorem noStar_back {T : Tab} {sc : Scope} {env : PySem.Env} {cs : CEs} {es : List Expr} {pos : Pos} (h : chkEs T sc cs es = true) : (backTo pos (starEach es env)).any (·.1) = false := by
  have := noStar_all (env := env) h
  unfold backTo
  rw [List.any_map]
  exact this
theorem back_all {T : Tab} {sc : Scope} {env : PySem.Env} {cs : CEs} {es : List Expr} {pos : Pos} (h : chkEs T sc cs es = true) : (backTo pos (starEach es env)).all (fun x => !x.1) = true := by
  have := noStar_back (env := env) (pos := pos) h
  rw [List.any_eq_false] at this
  rw [List.all_eq_true]
  intro x hx
  have := this x hx
  simpa using this
theorem set_plain {e : Expr} {env : PySem.Env} (h : notSet e = true) : ∀ x, foldedSetIterable e env x = pure x := by
  intro x
  cases e <;> first | rfl | (simp [notSet] at h)
theorem behind_plain {e : Expr} {op : CmpOp} (h : notSet e = true) : behindInMarks op e = false := by
  cases e <;> first | rfl | (simp [notSet] at h)
theorem sub_plain {e : Expr} (h : notSlice e = true) : PlainIx e := by
  intro o i
  cases e <;> first | rfl | (simp [notSlice] at h)
theorem swap_plain {e : Expr} {tg : Option Expr} {n : Nat} {env : PySem.Env} (h : notComp e = true) : swapsWith e tg n env = pure false := by
  cases e <;> first | rfl | (simp [notComp] at h)
theorem base_plain {e : Expr} {name : Str} {env : PySem.Env} (h : plainBase e = true) : attributeBase e name env (eval e env) = eval e env := by
  unfold attributeBase
  split
  · simp [plainBase] at h
  · rfl
theorem pn {x : Str} (h : plainName x = true) : (x == ("__debug__" : Str)) = false ∧ (x == ("__classdict__" : Str)) = false ∧ x ≠ "__name__" := by
  unfold plainName at h
  simp only [Bool.and_eq_true, Bool.not_eq_true'] at h
  exact ⟨h.1.1, h.1.2, by simpa using h.2⟩
theorem vis_of {sc : Scope} {x : Str} (h : visB sc x = true) : Vis sc x := by
  unfold visB at h
  split at h
  · exact .inl (by assumption)
  · exact .inr (.inl (by assumption))
  · exact .inr (.inr (by assumption))
  · cases h
theorem gl_of {X : Cx} {x : Str} (h : glB X.env.scope x = true) : Gl X x := by
  unfold glB at h
  exact eq_of_beq h
theorem loc_of {top : Bool} {sc : Scope} {x : Str} (h : locB top sc x = true) : Loc sc x ∧ (sc.names.lookup x = some .local ∨ top = true) := by
  unfold locB at h
  split at h
  · rename_i e; exact ⟨.inl e, .inl e⟩
  · rename_i e; exact ⟨.inr e, .inr h⟩
  · cases h
end
end XC
end

section
set_option Elab.async false
set_option linter.all false
set_option maxRecDepth 100000
set_option maxHeartbeats 4000000
namespace XC
open PySem PySem.Spec PyProof.Rows L2
mutual
def toPy : D → PyData
  | .non => .none
  | .bl b => .bool b
  | .int i => .int i
  | .str x => .str x
  | .tup xs => .tuple (toPys xs)
  | .vls xs => .list (toPys xs)
  | .scr xs => .list (toPys xs)
  | .loc _ => .none
def toPys : List D → List PyData
  | [] => []
  | x :: xs => toPy x :: toPys xs
end
/-- the text of a value -/
def rpD (d : D) : Str := (toPy d).shown
theorem int_wt (i : Int) : (Str.ofString (toString i)).length ≤ i.natAbs.log2 + 2 := by
  have h1 : i.natAbs < 2 ^ (i.natAbs.log2 + 1) := Nat.lt_log2_self
  have h2 : 2 ^ (i.natAbs.log2 + 1) ≤ 10 ^ (i.natAbs.log2 + 1) := Nat.pow_le_pow_left (by decide) _
  have h : i.natAbs < 10 ^ (i.natAbs.log2 + 1) := Nat.lt_of_lt_of_le h1 h2
  have key : ∀ {k : Nat}, 0 < k → ∀ i : Int, i.natAbs < 10 ^ k → (Str.ofString (toString i)).length ≤ k + 1 := by
    intro k hk i h
    have hp : ((10 : Int) ^ k) = ((10 ^ k : Nat) : Int) := (Int.natCast_pow 10 k).symm
    cases i with
    | ofNat n =>
      have h : n < 10 ^ k := h
      exact Nat.le_succ_of_le (PyProof.Rows.toString_length_le (v := (n : Int)) (by omega) hk (by rw [hp]; exact Int.ofNat_lt.mpr h))
    | negSucc m =>
      have h : m + 1 < 10 ^ k := h
      have := PyProof.Rows.toString_length_le (v := ((m + 1 : Nat) : Int)) (by omega) hk (by rw [hp]; exact Int.ofNat_lt.mpr h)
      have e1 : toString (Int.negSucc m) = "-" ++ toString ((m + 1 : Nat) : Int) := rfl
      rw [PyProof.Rows.ofString_length] at this
      rw [PyProof.Rows.ofString_length, e1, String.toList_append, List.length_append]
      have e2 : "-".toList.length = 1 := rfl
      omega
  have := key (Nat.succ_pos _) i h
  omega
theorem toPys_length : ∀ xs : List D, (toPys xs).length = xs.length
  | [] => rfl
  | x :: xs => by simp [toPys, toPys_length xs]
mutual
theorem shown_wt : ∀ (n : Nat) (d : D), d.tx n = true → (toPy d).shown.length ≤ d.wt
  | _, .non, _ => by simp only [toPy, PyData.shown, D.wt]; decide
  | _, .bl b, _ => by simp only [toPy, PyData.shown, D.wt]; cases b <;> decide
  | _, .int i, _ => by simp only [toPy, PyData.shown, D.wt]; exact int_wt i
  | _, .str x, h => by
    simp only [toPy, PyData.shown, D.wt]
    refine PySem.StrLaws.reprText_len x fun c hc => ?_
    have h : strOkD x = true := by simpa [D.tx] using h
    unfold strOkD at h
    have h2 : c ∈ x.cps := by simpa using hc
    have := Array.all_eq_true_iff_forall_mem.mp h c h2
    have := of_decide_eq_true this
    exact Nat.lt_of_lt_of_le this (by decide)
  | n + 1, .tup xs, h => by
    simp only [toPy, PyData.shown, D.wt]
    have h : txs n xs = true := by simpa [D.tx] using h
    have h1 := tupleText_len_le (PyData.shownAll (toPys xs))
    have h2 := shownAll_wt n xs h
    rw [PyData.shownAll_length, toPys_length] at h1
    omega
  | n + 1, .vls xs, h => by
    simp only [toPy, PyData.shown, D.wt]
    have h : txs n xs = true := by simpa [D.tx] using h
    have h1 := listText_len_le (PyData.shownAll (toPys xs))
    have h2 := shownAll_wt n xs h
    rw [PyData.shownAll_length, toPys_length] at h1
    omega
  | n + 1, .scr xs, h => by
    simp only [toPy, PyData.shown, D.wt]
    have h : txs n xs = true := by simpa [D.tx] using h
    have h1 := listText_len_le (PyData.shownAll (toPys xs))
    have h2 := shownAll_wt n xs h
    rw [PyData.shownAll_length, toPys_length] at h1
    omega
  | 0, .tup xs, h => by simp [D.tx] at h
  | 0, .vls xs, h => by simp [D.tx] at h
  | 0, .scr xs, h => by simp [D.tx] at h
  | 0, .loc a, h => by simp [D.tx] at h
  | n + 1, .loc a, h => by simp [D.tx] at h
theorem shownAll_wt : ∀ (n : Nat) (xs : List D), txs n xs = true → ((PyData.shownAll (toPys xs)).map (·.length)).sum + 2 * xs.length ≤ wts xs
  | _, [], _ => by simp [toPys, PyData.shownAll, wts]
  | n, x :: xs, h => by
    simp only [txs, Bool.and_eq_true] at h
    have h1 := shown_wt n x h.1
    have h2 := shownAll_wt n xs h.2
    simp only [toPys, PyData.shownAll, List.map_cons, List.sum_cons, List.length_cons, wts]
    omega
end
mutual
theorem shw_tx : ∀ (n : Nat) (d : D), d.tx n = true → (toPy d).showable = true ∧ (toPy d).hasDict = false ∧ (toPy d).depth ≤ n
  | _, .non, _ => by simp [toPy, PyData.showable, PyData.hasDict, PyData.depth]
  | _, .bl b, _ => by simp [toPy, PyData.showable, PyData.hasDict, PyData.depth]
  | _, .int i, h => by
    have h : i.natAbs.log2 < 1900 := by simpa [D.tx] using h
    simp [toPy, PyData.showable, PyData.hasDict, PyData.depth]; omega
  | _, .str x, _ => by simp [toPy, PyData.showable, PyData.hasDict, PyData.depth]
  | n + 1, .tup xs, h => by
    obtain ⟨h1, h2, h3⟩ := shwAll_tx n xs (by simpa [D.tx] using h)
    simp only [toPy, PyData.showable, PyData.hasDict, PyData.depth]
    exact ⟨h1, h2, by omega⟩
  | n + 1, .vls xs, h => by
    obtain ⟨h1, h2, h3⟩ := shwAll_tx n xs (by simpa [D.tx] using h)
    simp only [toPy, PyData.showable, PyData.hasDict, PyData.depth]
    exact ⟨h1, h2, by omega⟩
  | n + 1, .scr xs, h => by
    obtain ⟨h1, h2, h3⟩ := shwAll_tx n xs (by simpa [D.tx] using h)
    simp only [toPy, PyData.showable, PyData.hasDict, PyData.depth]
    exact ⟨h1, h2, by omega⟩
  | 0, .tup xs, h => by simp [D.tx] at h
  | 0, .vls xs, h => by simp [D.tx] at h
  | 0, .scr xs, h => by simp [D.tx] at h
  | 0, .loc a, h => by simp [D.tx] at h
  | n + 1, .loc a, h => by simp [D.tx] at h
theorem shwAll_tx : ∀ (n : Nat) (xs : List D), txs n xs = true → PyData.showableAll (toPys xs) = true ∧ PyData.hasDictAll (toPys xs) = false ∧ PyData.depthAll (toPys xs) ≤ n
  | _, [], _ => by simp [toPys, PyData.showableAll, PyData.hasDictAll, PyData.depthAll]
  | n, x :: xs, h => by
    simp only [txs, Bool.and_eq_true] at h
    obtain ⟨a1, a2, a3⟩ := shw_tx n x h.1
    obtain ⟨b1, b2, b3⟩ := shwAll_tx n xs h.2
    simp only [toPys, PyData.showableAll, PyData.hasDictAll, PyData.depthAll, a1, a2, b1, b2]
    exact ⟨rfl, rfl, by omega⟩
end
section
variable {X : Cx} {pins : List (Addr × Obj)} {σ : L2.St} {H : Hp} {s : Shared} {S : Store}
mutual
theorem reads_rep (I : L2.Inv X pins σ H s) : ∀ (n : Nat) (d : D) {v : V} {u : Value}, Rep X.K S H v d → RelV v u → d.tx n = true → ∃ as, Reads s.heap u (toPy d) as
  | _, .non, _, _, r, rv, _ => by cases r; cases rv; exact ⟨_, .none⟩
  | _, .bl b, _, _, r, rv, _ => by cases r; cases rv; exact ⟨_, .bool b⟩
  | _, .int i, _, _, r, rv, _ => by cases r; obtain ⟨t, rfl⟩ := rv; exact ⟨_, .int i t⟩
  | _, .str x, _, _, r, rv, _ => by cases r; obtain ⟨t, rfl⟩ := rv; exact ⟨_, .str x t⟩
  | n + 1, .tup xs, _, _, r, rv, h => by
    cases r with
    | tup hT rs =>
      cases rv
      obtain ⟨its, r2, ⟨o, e, hc, k, hd⟩, _⟩ := I.tuple hT.sq
      obtain ⟨as, ra⟩ := reads_reps I n xs rs r2 (by simpa [D.tx] using h)
      exact ⟨_, .tuple e hc hd (by simpa using ra)⟩
  | n + 1, .vls xs, _, _, r, rv, h => by
    cases r with
    | vls hT rs =>
      cases rv
      obtain ⟨its, r2, ⟨o, k, e, hc, _, hd⟩, _⟩ := I.list hT.sq
      obtain ⟨as, ra⟩ := reads_reps I n xs rs r2 (by simpa [D.tx] using h)
      exact ⟨_, .list e hc hd (by simpa using ra)⟩
  | n + 1, .scr xs, _, _, r, rv, h => by
    cases r with
    | scr hT rs =>
      cases rv
      obtain ⟨its, r2, ⟨o, k, e, hc, _, hd⟩, _⟩ := I.list hT.sq
      obtain ⟨as, ra⟩ := reads_reps I n xs rs r2 (by simpa [D.tx] using h)
      exact ⟨_, .list e hc hd (by simpa using ra)⟩
  | 0, .tup xs, _, _, _, _, h => by simp [D.tx] at h
  | 0, .vls xs, _, _, _, _, h => by simp [D.tx] at h
  | 0, .scr xs, _, _, _, _, h => by simp [D.tx] at h
  | 0, .loc a, _, _, _, _, h => by simp [D.tx] at h
  | n + 1, .loc a, _, _, _, _, h => by simp [D.tx] at h
theorem reads_reps (I : L2.Inv X pins σ H s) : ∀ (n : Nat) (ds : List D) {vs : List V} {us : List Value}, Reps X.K S H vs ds → Vals vs us → txs n ds = true → ∃ as, ReadsAll s.heap us (toPys ds) as
  | _, [], _, _, rs, rv, _ => by cases rs; cases rv; exact ⟨_, .nil⟩
  | n, x :: xs, _, _, rs, rv, h => by
    simp only [txs, Bool.and_eq_true] at h
    cases rs with
    | cons r rs =>
      cases rv with
      | cons q rv =>
        obtain ⟨as, a⟩ := reads_rep I n x r q h.1
        obtain ⟨bs, b⟩ := reads_reps I n xs rs rv h.2
        exact ⟨_, .cons a b⟩
end
end
/-- what repr wants -/
def rRp (K : PySem.W.Frag) (cl : Nat → Addr) : List V → Hp → VK → Prop := fun vs H Q => ∃ S v d R, vs = [v] ∧ RepS K H cl S ∧ Rep K S H v d ∧ d.tx 40 = true ∧ d.wt ≤ 1000000 ∧ R (.str (rpD d)) S ∧ Ans K cl S H R Q
theorem call_rp {X : Cx} {cl : Nat → Addr} (hg : X.A.guards = some []) (hu : X.A.units + 64 < cLine) : CallR X (.builtin "repr") (rRp X.K cl) := by
  intro pins s σ H xs us Q I r h
  obtain ⟨S, v, d, R, rfl, hS, rep, ht, hw, hR, an⟩ := h
  obtain ⟨u, rfl, rv⟩ := vals1 r
  have hl : (toPy d).shown.length ≤ sizeLine := Nat.le_trans (Nat.le_trans (shown_wt 40 d ht) hw) (by decide)
  obtain ⟨s1, s2, s3⟩ := shw_tx 40 d ht
  have fin : Q (.str (rpD d)) H := an _ _ _ _ hR (Step.refl _ _) (.str _) hS
  obtain ⟨as, rd⟩ := reads_rep I 40 d rep rv ht
  have big : ∀ {a : Addr}, u = .ref a → wpAny (model X.prog X.w) X.A (call (.builtin "repr") [u]) (EP X pins σ Q) X.xe s := by
    rintro a rfl
    exact repr_of_reads' rd s1 (PyData.noDict_hsm s2) hg (by omega) (fun _ _ e => e) (fun h' u' tk hk => ⟨.str _, H, I.kept (t' := tk) hk, ⟨_, rfl⟩, fin⟩) hl
  cases rep with
  | non => cases rv; exact PySem.P.repr_of_none ⟨.str _, H, I.tok _, ⟨_, rfl⟩, by simpa [rpD, toPy, PyData.shown] using fin⟩
  | bl b => cases rv; exact PySem.P.repr_of_bool ⟨.str _, H, I.tok _, ⟨_, rfl⟩, by simpa [rpD, toPy, PyData.shown] using fin⟩
  | int i =>
    obtain ⟨t, rfl⟩ := rv
    have h : i.natAbs.log2 < 1900 := by simpa [D.tx] using ht
    exact PySem.P.repr_of_int (by omega) ⟨.str _, H, I.tok _, ⟨_, rfl⟩, by simpa [rpD, toPy, PyData.shown] using fin⟩
  | str x =>
    obtain ⟨t, rfl⟩ := rv
    exact PySem.P.repr_of_str ⟨.str _, H, I.tok _, ⟨_, rfl⟩, by simpa [rpD, toPy, PyData.shown] using fin⟩ (by simpa [toPy, PyData.shown] using hl)
  | tup _ _ => cases rv; exact big rfl
  | vls _ _ => cases rv; exact big rfl
  | scr _ _ => cases rv; exact big rfl
  | loc a => simp [D.tx] at ht
end XC
end

section
set_option Elab.async false
set_option linter.all false
set_option maxRecDepth 100000
set_option maxHeartbeats 4000000
namespace XC
open PySem PySem.Spec PyProof.Rows L2

/-- an exception, as it lies -/
def XR (K : PySem.W.Frag) (S : Store) (H : Hp) (xc : Nat → Value × Option Str) (x : Xc) (cls : Value) (dx : Option Addr) : Prop :=
  cls = (xc x.cls).1 ∧ match (xc x.cls).2, x.arg with
    | none, none => dx = none
    | some f, some d => ∃ p v, dx = some p ∧ S p = none ∧ H p = some (.xd [(f, v)]) ∧ Rep K S H v d
    | _, _ => False
/-- what a piece asks of exceptions is enough for what is wished -/
def ExOk (K : PySem.W.Frag) (cl : Nat → Addr) (xc : Nat → Value × Option Str) (W : WX) (σ : L2.St) (E : EX) (S : Store) (H : Hp) : Prop :=
  ∀ x S' cls dx H', E x S' → Step S H S' H' → XR K S' H' xc x cls dx → RepS K H' cl S' → W cls dx σ H'
structure In (K : PySem.W.Frag) (cl : Nat → Addr) (xc : Nat → Value × Option Str) (W : WX) (σ : L2.St) (H : Hp) (ρ : Env) (S : Store) (E : EX) : Prop where
  env : EnvR K S H σ ρ
  st : RepS K H cl S
  ex : ExOk K cl xc W σ E S H
/-- the promise of a def, for the layer -/
def lift (K : PySem.W.Frag) (cl : Nat → Addr) (xc : Nat → Value × Option Str) (sp : Spec) (n : Nat) : L2.Sp := fun vs H Q E => vs.length = n ∧ ∃ ds S Q0 E0, RepS K H cl S ∧ Reps K S H vs ds ∧ sp ds S Q0 E0 ∧ Ans K cl S H Q0 Q ∧
  ∀ x S' cls dx H', E0 x S' → Step S H S' H' → XR K S' H' xc x cls dx → RepS K H' cl S' → E cls dx H'
section
variable {K : PySem.W.Frag} {cl : Nat → Addr} {xc : Nat → Value × Option Str} {W : WX} {σ : L2.St} {H H1 : Hp} {ρ : Env} {S S1 : Store} {E : EX}
theorem In.step (i : In K cl xc W σ H ρ S E) (s : Step S H S1 H1) (h : RepS K H1 cl S1) : In K cl xc W σ H1 ρ S1 E :=
  ⟨i.env.step s, h, fun x S' cls dx H' e q r k => i.ex x S' cls dx H' e (s.trans q) r k⟩
end
theorem _root_.L2.PE.weak {X : Cx} {e : Expr} {t t' : TE} (h : PE X e t) (k : ∀ σ H Q, t' σ H Q → t σ H Q) : PE X e t' := ⟨fun pins s σ H Q I q => h.run pins s σ H Q I (k σ H Q q)⟩
theorem _root_.L2.PT.weak {X : Cx} {e : Expr} {t t' : TT} (h : PT X e t) (k : ∀ σ H Q, t' σ H Q → t σ H Q) : PT X e t' := ⟨fun pins s σ H Q I q => h.run pins s σ H Q I (k σ H Q q)⟩
theorem _root_.L2.PA.weak {X : Cx} {e : List Expr} {t t' : TA} (h : PA X e t) (k : ∀ σ H Q, t' σ H Q → t σ H Q) : PA X e t' := ⟨fun pos pins s σ H Q I q => h.run pos pins s σ H Q I (k σ H Q q)⟩
theorem _root_.L2.PO.weak {X : Cx} {e : Option Expr} {t t' : TO} (h : PO X e t) (k : ∀ σ H Q, t' σ H Q → t σ H Q) : PO X e t' := ⟨fun pins s σ H Q I q => h.run pins s σ H Q I (k σ H Q q)⟩
theorem _root_.L2.PG.weak {X : Cx} {e : Expr} {t t' : TG} (h : PG X e t) (k : ∀ v σ H Q, t' v σ H Q → t v σ H Q) : PG X e t' := ⟨fun pins s σ H v u Q I r q => h.run pins s σ H v u Q I r (k v σ H Q q)⟩
theorem _root_.L2.PGs.weak {X : Cx} {e : List Expr} {t t' : TGs} (h : PGs X e t) (k : ∀ v σ H Q, t' v σ H Q → t v σ H Q) : PGs X e t' := ⟨fun pins s σ H v u Q I r q => h.run pins s σ H v u Q I r (k v σ H Q q)⟩
theorem _root_.L2.PI.weak {X : Cx} {tg e : Expr} {t t' : TI} (h : PI X tg e t) (k : ∀ σ H Q, t' σ H Q → t σ H Q) : PI X tg e t' := ⟨fun pins s σ H Q I q => h.run pins s σ H Q I (k σ H Q q)⟩
theorem _root_.L2.PS.weak {X : Cx} {e : Stmt} {t t' : TS} (h : PS X e t) (k : ∀ D σ H, t' D σ H → t D σ H) : PS X e t' := ⟨fun pins s σ H D I q => h.run pins s σ H D I (k D σ H q)⟩
theorem _root_.L2.PSs.weak {X : Cx} {e : List Stmt} {t t' : TS} (h : PSs X e t) (k : ∀ D σ H, t' D σ H → t D σ H) : PSs X e t' := ⟨fun pins s σ H D I q => h.run pins s σ H D I (k D σ H q)⟩
theorem _root_.L2.PTs.weak {X : Cx} {e : List Expr} {t t' : TT} (h : PTs X e t) (k : ∀ σ H Q, t' σ H Q → t σ H Q) : PTs X e t' := ⟨fun pins s σ H Q I q => h.run pins s σ H Q I (k σ H Q q)⟩

/-- a def of the text, ready to be called -/
structure FnAt (X : Cx) (cl : Nat → Addr) (xc : Nat → Value × Option Str) (Γ : Ctx) (T : Tab) (x : Str) (i : Nat) : Prop where
  ex : ∃ (k : Nat) (f : Addr) (fd : FuncData) (ps : List Str), FnOk X.prog X.w X.K X.mg X.base (L2.CX X.prog X.w) k f fd ps (lift X.K cl xc (Γ.fn i) ps.length) ∧ Room k X.A ∧ X.mg x = some (.ref f) ∧ PySem.W.keepIn X.K (.ref f) = true ∧ ps.length = Γ.ar i ∧
    Binds X.K fd ps [] ∧ ∀ n ks perm, (i, n, ks, perm) ∈ T.kws → perm.length = ps.length ∧ ∀ (s : Shared) (us ws vs : List Value), us.length = n → ws.length = ks.length → (perm.mapM fun j => (us ++ ws)[j]?) = some vs → BindsTo s fd ⟨us, ks.zip ws⟩ (ps.zip vs)
/-- a class of exceptions of the module -/
def ExcAt (k : Nat) (P : Program) (K : PySem.W.Frag) (mg : Str → Option Value) (e : Value × Option Str) (x : Str) (pl : Bool) : Prop := ∃ C : Addr, e.1 = .ref C ∧ mg x = some (.ref C) ∧
  (pl = true → e.2 = none ∧ PySem.W.keepIn K (.ref C) = true ∧ PySem.W.subIn K (.ref C) (.type "BaseException") = some true ∧ PySem.W.typeIn K (.ref C) = some (.type "type") ∧
    ∃ (bm : List Value) (B n i : String), ExcBaseFacts B n i bm ∧ PySem.W.excIn K C bm n = true) ∧
  ∀ f, e.2 = some f → 1 ≤ k ∧ ∃ fI cc cda : Addr, Own.FldTxt P K mg x f C fI cc cda
/-- where the piece runs -/
structure Good (X : Cx) (T : Tab) (Γ : Ctx) (cl : Nat → Addr) (xc : Nat → Value × Option Str) (W : WX) : Prop where
  N : X.N = T.N
  nd : X.N.Nodup
  un : X.A.units + 64 < cLine
  calm : X.calm = true
  tk : Takes X W
  fn : ∀ x i, T.fns.lookup x = some i → FnAt X cl xc Γ T x i
  con : ∀ x g d, T.cons.lookup x = some g → Γ.con g = some d → ∃ v u, X.mg x = some u ∧ RelV v u ∧ ∀ S H, Rep X.K S H v d
  blt : ∀ x : Str, x ∈ bltNames → X.mg x = none
  exc : ∀ x c, T.excs.lookup x = some c → ∃ k, Room k X.A ∧ ExcAt k X.prog X.K X.mg (xc c.1) x c.2
  sub : ∀ a b v, Γ.sub a b = some v → PySem.W.exmOne X.K (xc a).1 (xc b).1 = some v
  gd : T.rp = true → X.A.guards = some []
  rp : Γ.rp = rpD
  fld : ∀ c f, T.flds.lookup c = some f → (xc c).2 = some f

section
variable (K : PySem.W.Frag) (cl : Nat → Addr) (xc : Nat → Value × Option Str) (W : WX) (Γ : Ctx)
def rdE (c : CE) : TE := fun σ H Q => ∃ ρ S E R, In K cl xc W σ H ρ S E ∧ wpE Γ E c ρ S R ∧ Ans K cl S H R Q
def AnsT (K : PySem.W.Frag) (cl : Nat → Addr) (S : Store) (H : Hp) (R : QE) (Q : Bool → Hp → Prop) : Prop :=
  ∀ d S' H', R d S' → Step S H S' H' → RepS K H' cl S' → ∃ k, truth S' d = some k ∧ Q k H'
def rdT (c : CE) : TT := fun σ H Q => ∃ ρ S E R, In K cl xc W σ H ρ S E ∧ wpE Γ E c ρ S R ∧ AnsT K cl S H R Q
def AnsA (K : PySem.W.Frag) (cl : Nat → Addr) (S : Store) (H : Hp) (R : List D → Store → Prop) (Q : List V → Hp → Prop) : Prop :=
  ∀ ds S' vs H', R ds S' → Step S H S' H' → Reps K S' H' vs ds → RepS K H' cl S' → Q vs H'
def rdA (c : CEs) : TA := fun σ H Q => ∃ ρ S E R, In K cl xc W σ H ρ S E ∧ wpEs Γ E c ρ S R ∧ AnsA K cl S H R Q
def AnsO {α : Type} (K : PySem.W.Frag) (cl : Nat → Addr) (S : Store) (H : Hp) (R : α → Store → Prop) (Q : α → Hp → Prop) : Prop :=
  ∀ o S' H', R o S' → Step S H S' H' → RepS K H' cl S' → Q o H'
def rdO (c : CO) : TO := fun σ H Q => ∃ ρ S E R, In K cl xc W σ H ρ S E ∧ wpO Γ E c ρ S R ∧ AnsO K cl S H R Q
def rdC (c : CO) : TT := fun σ H Q => ∃ ρ S E R, In K cl xc W σ H ρ S E ∧ wpC Γ E c ρ S R ∧ AnsO K cl S H R Q
/-- only the slots of L were stored to -/
def Keep (L : List Nat) (σ σ' : L2.St) : Prop := σ'.length = σ.length ∧ ∀ j, j ∉ L → σ'[j]? = σ[j]?
def AnsG (K : PySem.W.Frag) (cl : Nat → Addr) (L : List Nat) (S : Store) (σ : L2.St) (H : Hp) (R : Env → Store → Prop) (Q : L2.St → Hp → Prop) : Prop :=
  ∀ ρ S' σ' H', R ρ S' → Step S H S' H' → EnvR K S' H' σ' ρ → RepS K H' cl S' → Keep L σ σ' → Q σ' H'
def rdG (c : CT) : TG := fun v σ H Q => ∃ ρ S E R d, In K cl xc W σ H ρ S E ∧ (∀ σ', ExOk K cl xc W σ' E S H) ∧ Rep K S H v d ∧ wpT Γ E c d ρ S R ∧ AnsG K cl (slotsT c) S σ H R Q
end
section
variable {X : Cx} {T : Tab} {Γ : Ctx} {cl : Nat → Addr} {xc : Nat → Value × Option Str} {W : WX}
theorem Good.mgn (g : Good X T Γ cl xc W) (b : Bt) : X.mg (bltN b) = none := g.blt _ (by cases b <;> simp [bltN, bltNames])
theorem boot_of (b : Bt) : bootBuiltins (bltN b) = some (bltV b) := by cases b <;> decide +kernel
/-- an own def called, its arguments there -/
theorem run_own {x : Str} {i : Nat} {pins : List (Addr × Obj)} {s : Shared} {σ : L2.St} {H : Hp} {Q : VK} {us : List Value} {vs : List V} {f : Addr} {fd : FuncData} {ps : List Str} {k : Nat} {args : Args} {us' : List Value} (g : Good X T Γ cl xc W)
    (F : FnOk X.prog X.w X.K X.mg X.base (L2.CX X.prog X.w) k f fd ps (lift X.K cl xc (Γ.fn i) ps.length)) (hr : Room k X.A) (I : L2.Inv X pins σ H s) (hb : BindsTo s fd args (ps.zip us')) (rv : Vals vs us') (hl : ps.length = Γ.ar i)
    {S : Store} {ds : List D} {E : EX} {R : QE} (hS : RepS X.K H cl S) (rs : Reps X.K S H vs ds) (hw : callW Γ i ds S E R) (ex : ExOk X.K cl xc W σ E S H) (ans : Ans X.K cl S H R Q) :
    wpAny (model X.prog X.w) X.A (call (.ref f) args.pos args.kw) (EP X pins σ Q) X.xe s := by
  obtain ⟨hn, Q0, E0, hsp, hq, he⟩ := hw
  have h : lift X.K cl xc (Γ.fn i) ps.length vs H Q (fun cls d H' => W cls d σ H') :=
    ⟨rs.length.trans (hn.trans hl.symm), ds, S, Q0, E0, hS, rs, hsp, fun d S' v H' r a b c => ans d S' v H' (hq d S' r) a b c, fun x S' cls dx H' r a b c => ex x S' cls dx H' (he x S' r) a b c⟩
  refine wpAny_call (codeAny_mono (F.run X.A X.stack s H _ us' vs Q (fun cls d H' => W cls d σ H') hr I.env0 hb rv h) fun r s' hq => ?_)
  cases r with
  | error e => exact g.tk e s' (XE.of_call I (fun _ _ _ h => h) hq)
  | ok fl =>
    cases fl with
    | ret u => exact I.after hq
    | next => exact False.elim hq
    | brk => exact False.elim hq
    | cont => exact False.elim hq
theorem pick_vals {K : PySem.W.Frag} {S : Store} {H : Hp} {vs : List V} {ds : List D} {us : List Value} (rs : Reps K S H vs ds) (rv : Vals vs us) : ∀ {perm : List Nat} {ds' : List D}, perm.mapM (fun i => ds[i]?) = some ds' →
    ∃ vs' us', perm.mapM (fun i => us[i]?) = some us' ∧ Vals vs' us' ∧ Reps K S H vs' ds' ∧ vs'.length = perm.length
  | [], ds', e => by
    simp at e; subst e
    exact ⟨[], [], by simp, .nil, .nil, rfl⟩
  | i :: r, ds', e => by
    rw [List.mapM_cons] at e
    cases q : ds[i]? with
    | none => rw [q] at e; simp at e
    | some d =>
      rw [q] at e
      cases q2 : r.mapM (fun i => ds[i]?) with
      | none => rw [q2] at e; simp at e
      | some ds2 =>
        rw [q2] at e
        simp at e
        subst e
        obtain ⟨v, h1, h2⟩ := rs.get q
        obtain ⟨u, h3, h4⟩ := rv.get h1
        obtain ⟨vs', us', h5, h6, h7, h8⟩ := pick_vals rs rv q2
        exact ⟨v :: vs', u :: us', by rw [List.mapM_cons, h3, h5]; rfl, .cons h4 h6, .cons h2 h7, by simp [h8]⟩
theorem ty_exp {X : Cx} {t : Tyn} {e : Expr} (g : Good X T Γ cl xc W) (h : tyExp X.env.scope t e = true) : PE X e (tC (.ty (tyN t))) := by
  unfold tyExp at h
  split at h
  · simp only [Bool.and_eq_true, decide_eq_true_eq] at h
    obtain ⟨rfl, h2⟩ := h
    refine pe_bltn (gl_of h2) (g.blt _ (by cases t <;> simp [tyS, bltNames])) (u := .type (tyN t)) (by cases t <;> decide +kernel) rfl (by cases t <;> decide) (by cases t <;> decide)
  · cases h
theorem ty_notStar {sc : Scope} {t : Tyn} {e : Expr} (h : tyExp sc t e = true) : notStar e = true := by
  unfold tyExp at h
  split at h
  · rfl
  · cases h
theorem ty_exps {X : Cx} (g : Good X T Γ cl xc W) : ∀ {ts : List Tyn} {es : List Expr}, tyExps X.env.scope ts es = true → PA X es (fun _ H Q => Q (ts.map fun t => .ty (tyN t)) H)
  | [], [], _ => pa_nil
  | [], _ :: _, h => by simp [tyExps] at h
  | _ :: _, [], h => by simp [tyExps] at h
  | t :: ts, e :: es, h => by
    simp only [tyExps, Bool.and_eq_true] at h
    exact PA.weak (pa_cons (ty_exp g h.1) (ty_exps g h.2) (star_cons (ty_notStar h.1))) fun _ _ _ q => q
theorem tyVs_cls : ∀ ts : List Tyn, Paired ClsV (ts.map fun t => V.ty (tyN t)) (tyVs ts)
  | [] => .nil
  | t :: ts => .cons (.ty _) (tyVs_cls ts)
/-- the scope of a comprehension's block -/
theorem blk_scope {s : Shared} {H : Hp} {C : Addr} {cs : List (Str × Addr)} {fp : List Addr} {scope : Scope} : (X.blk s H scope (compEnvC scope cs C X.env) fp).env.scope = relS scope X.env.scope := rfl
theorem Good.blk (g : Good X T Γ cl xc W) (s : Shared) (H : Hp) (scope : Scope) (C : Addr) (cs : List (Str × Addr)) (fp : List Addr) : Good (X.blk s H scope (compEnvC scope cs C X.env) fp) T Γ cl xc (fun _ _ _ _ => False) :=
  ⟨g.N, g.nd, g.un, g.calm, takes0, fun x i h => let ⟨z⟩ := g.fn x i h; ⟨z⟩, g.con, g.blt, fun x c e => g.exc x c e, g.sub, g.gd, g.rp, g.fld⟩
theorem wipe_eq {σ : L2.St} {ρ : Env} {K : PySem.W.Frag} {S : Store} {H : Hp} (r : EnvR K S H σ ρ) : ∀ {own : List Nat}, own.Nodup → EnvR K S H (L2.wipe σ own) (XC.wipe ρ own) := by
  have len : ∀ (own : List Nat) (ρ : Env), (XC.wipe ρ own).length = ρ.length := fun own => by
    induction own with
    | nil => intro ρ; rfl
    | cons i r ih => intro ρ; show (XC.wipe (ρ.set i none) r).length = _; rw [ih, List.length_set]
  have key : ∀ (own : List Nat) (ρ : Env) (j : Nat) (d : D), (XC.wipe ρ own)[j]? = some (some d) → ρ[j]? = some (some d) ∧ j ∉ own := fun own => by
    induction own with
    | nil => intro ρ j d h; exact ⟨h, by simp⟩
    | cons i r ih =>
      intro ρ j d h
      obtain ⟨h1, h2⟩ := ih (ρ.set i none) j d h
      by_cases e : i = j
      · subst e
        by_cases hl : i < ρ.length
        · rw [List.getElem?_set_self hl] at h1; cases h1
        · rw [List.getElem?_eq_none (by rw [List.length_set]; omega)] at h1; cases h1
      · rw [List.getElem?_set_ne e] at h1
        exact ⟨h1, by simp only [List.mem_cons, not_or]; exact ⟨fun z => e z.symm, h2⟩⟩
  have out : ∀ (own : List Nat) (j : Nat), j ∉ own → (L2.wipe σ own)[j]? = σ[j]? := fun own j h => L2.wipe_out h
  intro own _
  refine ⟨by rw [L2.wipe_length, len, r.1], fun j d h => ?_⟩
  obtain ⟨h1, h2⟩ := key own ρ j d h
  obtain ⟨v, h3, h4⟩ := r.2 j d h1
  exact ⟨v, by rw [out own j h2]; exact h3, h4⟩
end
end XC
end

section
set_option Elab.async false
set_option linter.all false
set_option maxRecDepth 100000
set_option maxHeartbeats 8000000
namespace XC
open PySem PySem.Spec PyProof.Rows L2
section
variable {T : Tab} {Γ : Ctx} {cl : Nat → Addr} {xc : Nat → Value × Option Str}
/-- a test by its value -/
theorem pt_of {X : Cx} {W : WX} {c : CE} {e : Expr} (h : PE X e (rdE X.K cl xc W Γ c)) (hp : ∀ whole, isTrue e X.env whole = (do let v ← whole; standAt e.pos; holding [v] (truthy v))) : PT X e (rdT X.K cl xc W Γ c) := by
  refine (pt_truth h hp).weak fun σ H Q ⟨ρ, S, E, R, i, w, a⟩ => ?_
  refine ⟨ρ, S, E, R, i, w, fun d S' v H' r s rep hS => ?_⟩
  obtain ⟨k, hk, q⟩ := a d S' H' r s hS
  exact ⟨k, truth_of rep hS hk, q⟩
def rdGs (K : PySem.W.Frag) (cl : Nat → Addr) (xc : Nat → Value × Option Str) (W : WX) (Γ : Ctx) (c : CTs) : TGs := fun vs σ H Q => ∃ ρ S E R ds, In K cl xc W σ H ρ S E ∧ (∀ σ', ExOk K cl xc W σ' E S H) ∧ Reps K S H vs ds ∧ wpTs Γ E c ds ρ S R ∧ AnsG K cl (slotsTs c) S σ H R Q
/-- an iterable: a walk over the items, behind S0, H0 -/
def WalkD (K : PySem.W.Frag) (cl : Nat → Addr) (S0 : Store) (H0 : Hp) (J : It) (xs : List D) (G : Store → Prop) : Prop :=
  ∀ S H, Step S0 H0 S H → RepS K H cl S → G S → J.stop xs.length H ∧ ∀ i d, xs[i]? = some d → J.go i H ∧ ∀ x H', J.yld i H x H' → Step S H S H' ∧ Rep K S H' x d ∧ RepS K H' cl S
def rdI (K : PySem.W.Frag) (cl : Nat → Addr) (xc : Nat → Value × Option Str) (W : WX) (Γ : Ctx) (c : CI) : TI := fun σ H Q => ∃ ρ S E R, In K cl xc W σ H ρ S E ∧ wpI Γ E c ρ S R ∧
  ∀ xs G S' J H', R xs G S' → Step S H S' H' → RepS K H' cl S' → WalkD K cl S' H' J xs G → Q J H'
/-- any list, tuple, text walked -/
theorem pi_seq {X : Cx} {tg l : Expr} {tl : TE} (hl : PE X l tl) : PI X tg l (fun σ H R => tl σ H fun x H1 => (∃ a, x = .ref a ∧ (∃ xs, SqL X.K H1 a xs) ∧ R (Itl X.K a) H1) ∨ (∃ a, x = .ref a ∧ (∃ xs, SqT X.K H1 a xs) ∧ R (Itt X.K a) H1) ∨ ∃ z, x = .str z ∧ R (Its z) H1) := by
  have h1 := pi_list (tg := tg) hl
  have h2 := pi_tup (tg := tg) hl
  have h3 := pi_str (tg := tg) hl
  refine ⟨fun pins s σ H R I h => ?_⟩
  refine thn (hl.run pins s σ H _ I h) fun v s1 ⟨x, H1, I1, r1, q1⟩ => ?_
  rcases q1 with ⟨a, e, ⟨xs, hq⟩, q⟩ | ⟨a, e, ⟨xs, hq⟩, q⟩ | ⟨z, e, q⟩
  · subst e
    cases r1
    obtain ⟨its, rv, p, hz⟩ := I1.list hq
    refine wpAny_pyIter_list p.isList ?_
    refine ⟨s1.heap.objs.size, [s1.heap.objs.size], _, _, H1, rfl, I1.kept (t' := s1.toks) fun b o e => Heap.get?_push_of_some _ e, turn_list a _, ⟨_, Heap.get?_push_size _ rfl, rfl, rfl⟩, fun b hb => ?_, q⟩
    have e : b = s1.heap.objs.size := by simpa using hb
    subst e
    exact I1.fpOk (Nat.le_refl _) (I1.hok.fresh (Nat.le_refl _))
  · subst e
    cases r1
    obtain ⟨its, rv, p, hz⟩ := I1.tuple hq
    refine wpAny_pyIter_tuple (show s1.heap.IsTuple a its.toArray from p) ?_
    refine ⟨s1.heap.objs.size, [s1.heap.objs.size], _, _, H1, rfl, I1.kept (t' := s1.toks) fun b o e => Heap.get?_push_of_some _ e, turn_tuple a _, ⟨_, Heap.get?_push_size _ rfl, rfl, rfl⟩, fun b hb => ?_, q⟩
    have e : b = s1.heap.objs.size := by simpa using hb
    subst e
    exact I1.fpOk (Nat.le_refl _) (I1.hok.fresh (Nat.le_refl _))
  · subst e
    obtain ⟨t, rfl⟩ := r1
    cases ha : z.cps.all (· < 128)
    · exact wpAny_pyIter_wide ha (pi_one (tk := s1.toks) I1 _ (turn_str _ z t "str_iterator" (.inr rfl)) ⟨_, Heap.get?_push_size _ rfl, rfl, rfl⟩ q)
    · exact wpAny_pyIter_ascii ha (pi_one (tk := s1.toks) I1 _ (turn_str _ z t "str_ascii_iterator" (.inl rfl)) ⟨_, Heap.get?_push_size _ rfl, rfl, rfl⟩ q)
theorem walk_seq {K : PySem.W.Frag} {S : Store} {H : Hp} {v : V} {d : D} {R : List D → (Store → Prop) → Prop} (r : Rep K S H v d) (hS : RepS K H cl S) (w : srcW S d R) :
    (∃ a xs G, v = .ref a ∧ (∃ ys, SqL K H a ys) ∧ R xs G ∧ WalkD K cl S H (Itl K a) xs G) ∨ (∃ a xs G, v = .ref a ∧ (∃ ys, SqT K H a ys) ∧ R xs G ∧ WalkD K cl S H (Itt K a) xs G) ∨ ∃ z xs G, v = .str z ∧ R xs G ∧ WalkD K cl S H (Its z) xs G := by
  cases r with
  | @tup a vs ds h rs =>
    refine .inr (.inl ⟨a, ds, _, rfl, ⟨_, h.sq⟩, w, fun S' H' st hS' _ => ⟨⟨vs, (h.step st).sq, by rw [rs.length]; exact Nat.le_refl _⟩, fun i d e => ?_⟩⟩)
    obtain ⟨x, h1, h2⟩ := (rs.step st).get e
    refine ⟨⟨vs, x, (h.step st).sq, h1⟩, fun y H2 ⟨e1, e2⟩ => ?_⟩
    subst e1
    have := e2 vs (h.step st).sq
    rw [h1] at this; cases this
    exact ⟨Step.refl _ _, h2, hS'⟩
  | @vls a vs ds h rs =>
    refine .inl ⟨a, ds, _, rfl, ⟨_, h.sq⟩, w, fun S' H' st hS' _ => ⟨⟨vs, (h.step st).sq, by rw [rs.length]; exact Nat.le_refl _⟩, fun i d e => ?_⟩⟩
    obtain ⟨x, h1, h2⟩ := (rs.step st).get e
    refine ⟨⟨vs, x, (h.step st).sq, h1⟩, fun y H2 ⟨e1, e2⟩ => ?_⟩
    subst e1
    have := e2 vs (h.step st).sq
    rw [h1] at this; cases this
    exact ⟨Step.refl _ _, h2, hS'⟩
  | @scr a vs ds h rs =>
    refine .inl ⟨a, ds, _, rfl, ⟨_, h.sq⟩, w, fun S' H' st hS' _ => ⟨⟨vs, (h.step st).sq, by rw [rs.length]; exact Nat.le_refl _⟩, fun i d e => ?_⟩⟩
    obtain ⟨x, h1, h2⟩ := (rs.step st).get e
    refine ⟨⟨vs, x, (h.step st).sq, h1⟩, fun y H2 ⟨e1, e2⟩ => ?_⟩
    subst e1
    have := e2 vs (h.step st).sq
    rw [h1] at this; cases this
    exact ⟨Step.refl _ _, h2, hS'⟩
  | str z =>
    refine .inr (.inr ⟨z, _, _, rfl, w, fun S' H' st hS' _ => ⟨?_, fun i d e => ?_⟩⟩)
    · show z.cps.size ≤ _
      simp
    · rw [List.getElem?_map] at e
      cases q : z.cps.toList[i]? with
      | none => rw [q] at e; cases e
      | some c =>
        rw [q] at e; cases e
        have hi : i < z.cps.size := by
          have := List.getElem?_eq_some_iff.mp q
          simpa using this.1
        refine ⟨hi, fun y H2 ⟨e1, c', e2, e3⟩ => ?_⟩
        subst e1 e3
        have q' : z.cps[i]? = some c := by simpa using q
        rw [q'] at e2; cases e2
        exact ⟨Step.refl _ _, .str _, hS'⟩
  | loc a =>
    have w : (match S a with | some (.lst xs) => R xs fun S' => S' a = some (.lst xs) | _ => False) := w
    split at w
    · rename_i xs hx
      refine .inl ⟨a, xs, _, rfl, ?_, w, fun S' H' st hS' g => ?_⟩
      · cases hS a _ hx with
        | lst z rs => exact ⟨_, .of z⟩
      · cases hS' a _ g with
        | @lst vs _ z rs =>
          refine ⟨⟨vs, .of z, by rw [rs.length]; exact Nat.le_refl _⟩, fun i d e => ?_⟩
          obtain ⟨x, h1, h2⟩ := rs.get e
          refine ⟨⟨vs, x, .of z, h1⟩, fun y H2 ⟨e1, e2⟩ => ?_⟩
          subst e1
          have := e2 vs (.of z)
          rw [h1] at this; cases this
          exact ⟨Step.refl _ _, h2, hS'⟩
    · exact w.elim
  | non => exact (show False from w).elim
  | bl b => exact (show False from w).elim
  | int b => exact (show False from w).elim
theorem walk_rng {K : PySem.W.Frag} {S : Store} {H : Hp} (lo : Int) (n : Nat) : WalkD K cl S H (Itr lo n) (rngD lo n) (fun _ => True) := fun S' H' st hS' _ => by
  refine ⟨by show n ≤ _; simp [rngD], fun i d e => ?_⟩
  unfold rngD at e
  rw [List.getElem?_map] at e
  by_cases hi : i < n
  · rw [List.getElem?_range hi] at e
    cases e
    refine ⟨hi, fun y H2 ⟨e1, e2⟩ => ?_⟩
    subst e1 e2
    exact ⟨Step.refl _ _, .int _, hS'⟩
  · rw [List.getElem?_eq_none (by simpa using hi)] at e; cases e
end
end XC
end

section
set_option Elab.async false
set_option linter.all false
set_option maxRecDepth 100000
set_option maxHeartbeats 8000000
namespace XC
open PySem PySem.Spec PyProof.Rows L2
/-- a list (true), a tuple (false) -/
def SqK (kd : Bool) (K : PySem.W.Frag) (H : Hp) (a : Addr) (xs : List V) : Prop := match kd with
  | true => SqL K H a xs
  | false => SqT K H a xs
def IsK (kd : Bool) (h : Heap) (a : Addr) (its : Array Value) : Prop := match kd with
  | true => h.IsList a its
  | false => h.IsTuple a its
def ItK (kd : Bool) (h : Heap) (t a : Addr) (i : Nat) : Prop := match kd with
  | true => h.IsListIter t a i
  | false => h.IsTupleIter t a i
theorem ItK.at {kd : Bool} {h h' : Heap} {t a : Addr} {i : Nat} (x : ItK kd h t a i) (k : ∀ o, h.get? t = some o → h'.get? t = some o) : ItK kd h' t a i := by
  cases kd
  · exact Heap.IsTupleIter.at x k
  · exact Heap.IsListIter.at x k
theorem ItK.obj {kd : Bool} {h : Heap} {t a : Addr} {i : Nat} (x : ItK kd h t a i) : ∃ o, h.get? t = some o ∧ ∀ v, o.data ≠ .cell v := by
  cases kd
  · obtain ⟨o, e, _, d⟩ := x
    exact ⟨o, e, fun v q => by rw [d] at q; cases q⟩
  · obtain ⟨o, e, _, d⟩ := x
    exact ⟨o, e, fun v q => by rw [d] at q; cases q⟩
theorem IsK.lt {kd : Bool} {h : Heap} {a : Addr} {its : Array Value} (x : IsK kd h a its) : a < h.objs.size := by
  cases kd
  · obtain ⟨o, e, _⟩ := x; exact Heap.lt_size e
  · obtain ⟨o, e, _⟩ := x; exact Heap.lt_size e
theorem drawsK (kd : Bool) {P : Program} {w : World} {A : Around} (hh : A.handled = none) (t a : Addr) (hne : a ≠ t) (its : Array Value) :
    Draws P w A t [t, a] its.size (fun i v => its[i]? = some v) (fun i h => ItK kd h t a i ∧ IsK kd h a its) := by
  cases kd
  · exact Draws.tuple hh t a hne its
  · exact Draws.list hh t a hne its
def objK (kd : Bool) (a : Addr) : Obj := match kd with
  | true => { cls := .type "list_iterator", data := .fields #[.ref a, .int 0 0] }
  | false => { cls := .type "tuple_iterator", data := .fields #[.ref a, .int 0 0] }
theorem beginsK (kd : Bool) (a : Addr) (its : Array Value) : Begins (.ref a) (objK kd a) fun h => IsK kd h a its := by
  cases kd
  · exact begins_tuple a its
  · exact begins_list a its
theorem objK_it {kd : Bool} {h : Heap} {t a : Addr} (e : h.get? t = some (objK kd a)) : ItK kd h t a 0 := by
  cases kd
  · exact ⟨_, e, rfl, rfl⟩
  · exact ⟨_, e, rfl, rfl⟩
section
variable {X : Cx} {pins : List (Addr × Obj)} {σ : L2.St} {H : Hp} {s : Shared} {kd : Bool} {a : Addr} {xs ys : List V}
theorem sqK_at (I : Inv X pins σ H s) (h : SqK kd X.K H a xs) : ∃ its : List Value, Vals xs its ∧ IsK kd s.heap a its.toArray := by
  cases kd
  · obtain ⟨its, r, p, _⟩ := I.tuple h
    exact ⟨its, r, p⟩
  · obtain ⟨its, r, p, _⟩ := I.list h
    exact ⟨its, r, p.isList⟩
theorem sqK_inj (I : Inv X pins σ H s) (h : SqK kd X.K H a xs) (h' : SqK kd X.K H a ys) : xs = ys := by
  cases kd
  · exact I.tuple_inj h h'
  · exact I.list_inj h h'
end
def EnI (kd : Bool) (K : PySem.W.Frag) (a : Addr) : It :=
  ⟨fun i H => ∃ (xs : List V) (x : V), SqK kd K H a xs ∧ xs[i]? = some x,
   fun i H v H' => ∃ T x, v = .ref T ∧ H T = none ∧ H' = upd H T (.tup [.int (i : Nat), x]) ∧ ∀ xs, SqK kd K H a xs → xs[i]? = some x,
   fun i H => ∃ xs : List V, SqK kd K H a xs ∧ xs.length = i⟩
theorem turn_en (kd : Bool) {P : Program} {w : World} {K : PySem.W.Frag} {elts : List Expr} {kk : Nat} {tpos : Pos} (a e t : Addr) :
    Turn P w K (.Tuple elts kk tpos) (EnI kd K a) [e, t] e (fun i h => ((∃ old, IsEnum h e t ((i : Nat) : Int) old) ∧ ItK kd h t a i) ∧ e ≠ t ∧ e ≠ a ∧ a ≠ t) where
  mem := List.mem_cons_self
  obj := by
    rintro i h ⟨⟨⟨old, he⟩, hi⟩, _⟩ b hb
    rcases List.mem_cons.mp hb with rfl | hb
    · exact ⟨_, he, fun v q => nomatch q⟩
    · rw [List.mem_singleton.mp hb]; exact hi.obj
  keep := by
    rintro i h h' ⟨⟨⟨old, he⟩, hi⟩, nn⟩ k
    exact ⟨⟨⟨old, k e (by simp) _ he⟩, hi.at fun o q => k t (by simp) o q⟩, nn⟩
  item := by
    intro X hP hw hK hc i pins s σ H E I hf st hg
    subst hP hw hK
    obtain ⟨⟨⟨old, he⟩, hi⟩, n1, n2, n3⟩ := st
    obtain ⟨xs, x, hq, hx⟩ := hg
    obtain ⟨its, rv, p⟩ := sqK_at I hq
    obtain ⟨u, hu, ru⟩ := rv.get hx
    have lt1 : e < s.heap.objs.size := Heap.lt_size he
    have lt2 : t < s.heap.objs.size := by obtain ⟨o, q, _⟩ := hi.obj; exact Heap.lt_size q
    have hlen : i < its.toArray.size := by
      have := (List.getElem?_eq_some_iff.mp hu).1
      simpa using this
    refine wpAny_pyNext_enum_itemD (drawsK kd (show X.A.in1.handled = none from I.ok.hd hc) t a n3 its.toArray) he ⟨hi, p⟩ hlen n1 (by simp [n1, n2]) fun y h1 tk hy ho hi1 hT hz hk => ?_
    have hy' : its.toArray[i]? = some y := hy
    obtain rfl : y = u := by
      have : its[i]? = some y := by simpa using hy'
      rw [hu] at this; exact (Option.some.inj this).symm
    refine ⟨_, rfl, wpAny_letOwnedTupleGo_enum (s := { s with heap := h1, toks := tk + 1 }) ho fun h2 he2 sb => ?_⟩
    have hT2 : h2.get? s.heap.objs.size = some { cls := .type "tuple", data := .seq #[.int i tk, y] } := (sb.2 _ (Nat.ne_of_gt lt1)).trans hT
    have ok : ObjOk X.prog X.w (upd H s.heap.objs.size (.tup [.int (i : Nat), x])) h2 s.heap.objs.size (.tup [.int (i : Nat), x]) :=
      ⟨by show 2 ≤ sizeLine; decide, [.int i tk, y], .cons ⟨_, rfl⟩ (.cons ru .nil), ⟨_, hT2, rfl, _, rfl⟩⟩
    have I1 : Inv X pins σ (upd H s.heap.objs.size (.tup [.int (i : Nat), x])) { s with heap := h2, toks := tk + 1 } :=
      I.turnedNew (t' := tk + 1) (ch := [e, t]) (fun b ob hb q => (sb.2 b fun z => hb (by simp [z])).trans (hk b ob (fun z => hb (by simp [z])) (fun z => hb (by simp [z])) q)) hf (Nat.le_refl _) ok
    refine ⟨.ref s.heap.objs.size, _, I1, rfl, ⟨_, x, rfl, I.hok.fresh (Nat.le_refl _), rfl, fun zs hz => by rw [sqK_inj I hz hq]; exact hx⟩, ⟨⟨⟨y, ?_⟩, hi1.1.at fun o q => (sb.2 t (Ne.symm n1)).trans q⟩, n1, n2, n3⟩, fun b hb => ?_⟩
    · rw [show ((i + 1 : Nat) : Int) = (i : Int) + 1 by omega]; exact he2
    · have hb' : b < s.heap.objs.size := by
        rcases List.mem_cons.mp hb with rfl | hb
        · exact lt1
        · rw [List.mem_singleton.mp hb]; exact lt2
      rw [upd_ne (Nat.ne_of_lt hb')]
      exact (hf b hb).1
  done := by
    intro X hP hw hK hc i pins s σ H E I hf st hg
    subst hP hw hK
    obtain ⟨⟨⟨old, he⟩, hi⟩, n1, n2, n3⟩ := st
    obtain ⟨xs, hq, hx⟩ := hg
    obtain ⟨its, rv, p⟩ := sqK_at I hq
    have hl : its.toArray.size = i := by rw [← hx, rv.length]; simp
    obtain ⟨f0, f1, f2, f3, f4, f5⟩ := hf t (by simp)
    refine wpAny_pyNext_enum_endD (drawsK kd (show X.A.in1.handled = none from I.ok.hd hc) t a n3 its.toArray) he ⟨by rw [hl]; exact hi, p⟩ fun h' eb => ?_
    exact ⟨rfl, I.turned (t' := s.toks) (fun b o hb q => eb b o hb q) f0 f1 f3 f4 f5⟩
  self := by
    rintro A i s Q E ⟨⟨⟨old, he⟩, _⟩, _⟩ h
    exact wpAny_pyIter_enum he h
set_option maxHeartbeats 1000000 in
theorem meets_en {v : Value} {o : Obj} {H : Heap → Prop} (B : Begins v o H) :
    Meets (Builtin.«enumerate.__new__» ⟨[.type "enumerate", v], []⟩) (fun _ R s => H s.heap ∧
      R (.ok (.ret (.ref (s.heap.push o).objs.size))) { s with heap := (s.heap.push o).push { cls := .type "enumerate", data := .fields #[.none, .bool false, .ref s.heap.objs.size, rawInt 0, .none, .none] } }) :=
  .of_wp fun P w A R s h => by
    obtain ⟨hp, g, d, tk, os⟩ := s
    obtain ⟨h1, h⟩ := h
    have hsub := sub_enumerate
    have go : ∀ {A' : Around} {E Q : Value → Shared → Prop}, Q (.ref hp.objs.size) ⟨hp.push o, g, d, tk, os⟩ → wpAny (model P w) A' (pyIter v) Q E ⟨hp, g, d, tk, os⟩ := fun q => B.iter P w _ _ ⟨hp, g, d, tk, os⟩ _ h1 q
    wp_walk using go
    refine wpAny_stack_any fun st => wpAny_pure ?_
    split
    · rename_i c _ _ _ _ _
      cases (c == Value.type "enumerate")
      · wp_walk using go; exact ⟨_, rfl, h⟩
      · wp_walk using go; exact ⟨_, rfl, h⟩
    · wp_walk using go; exact ⟨_, rfl, h⟩
theorem call_en {P : Program} {w : World} {A : Around} {E : Value → Shared → Prop} {s : Shared} {v : Value} {o : Obj} {H : Heap → Prop} {Q : Value → Shared → Prop} (B : Begins v o H) (h1 : H s.heap)
    (h : ∀ h', IsEnum h' (s.heap.objs.size + 1) s.heap.objs.size 0 .none → h'.get? s.heap.objs.size = some o → (∀ b o, s.heap.get? b = some o → h'.get? b = some o) → Q (.ref (s.heap.objs.size + 1)) { s with heap := h' }) :
    wpAny (model P w) A (call (.type "enumerate") [v]) Q E s := by
  refine callType_new F.called_enumerate (by decide) (F.typeCall_enumerate_1 _) (F.newCall_enumerate_1 _) (fun obj => F.args_object_init_2 obj _) F.entry_enumerate_new (meets_en B) ⟨h1, ?_⟩
  have z : (s.heap.push o).objs.size = s.heap.objs.size + 1 := Heap.size_push ..
  show _ ∧ _
  rw [z]
  have he := Heap.get?_push_size (s.heap.push o) (o := { cls := .type "enumerate", data := .fields #[.none, .bool false, .ref s.heap.objs.size, rawInt 0, .none, .none] }) rfl
  rw [z] at he
  exact ⟨⟨_, he, rfl⟩, h _ he (Heap.get?_push_of_some _ (Heap.get?_push_size _ B.free)) fun b o x => Heap.get?_push_of_some _ (Heap.get?_push_of_some _ x)⟩
/-- enumerate(e), a list or a tuple -/
theorem pi_en {X : Cx} {e : Expr} {ta : TA} {p pos tpos : Pos} {elts : List Expr} {kk : Nat} (hg : Gl X "enumerate") (hm : X.mg "enumerate" = none) (ha : PA X [e] ta) (hs : starEach [e] X.env = [(false, eval e X.env)]) :
    PI X (.Tuple elts kk tpos) (.Call (.Name "enumerate" p) [e] [] pos) (fun σ H R => ta σ H fun vs H1 => ∃ kd a xs, vs = [.ref a] ∧ SqK kd X.K H1 a xs ∧ R (EnI kd X.K a) H1) := by
  refine ⟨fun pins s σ H R I h => ?_⟩
  refine Call_ (ld_blt I hg hm boot_enumerate (PyProof.Rows.callWith_type1 (thn (ha.run pos pins s σ H _ I h) fun us s1 ⟨vs, H1, I1, r1, kd, a, xs, ex, hq, q⟩ => ?_) hs rfl))
  subst ex
  cases r1 with
  | cons r rr =>
    cases rr
    cases r
    obtain ⟨its, rv, pk⟩ := sqK_at I1 hq
    have la := pk.lt
    refine call_en (beginsK kd a its.toArray) pk fun h' he hi hk => wpAny_pyIter_enum he ?_
    refine ⟨s1.heap.objs.size + 1, [s1.heap.objs.size + 1, s1.heap.objs.size], _, _, H1, rfl, I1.kept (t' := s1.toks) hk, turn_en kd a (s1.heap.objs.size + 1) s1.heap.objs.size, ⟨⟨⟨.none, he⟩, objK_it hi⟩, Nat.succ_ne_self _, Nat.ne_of_gt (Nat.lt_succ_of_lt la), Nat.ne_of_lt la⟩, fun b hb => ?_, q⟩
    have hle : s1.heap.objs.size ≤ b := by
      rcases List.mem_cons.mp hb with z | z
      · rw [z]; exact Nat.le_add_right _ _
      · rw [List.mem_singleton.mp z]; exact Nat.le_refl _
    exact I1.fpOk hle (I1.hok.fresh hle)
def ZiI (k1 k2 : Bool) (K : PySem.W.Frag) (a b : Addr) : It :=
  ⟨fun i H => ∃ (xs ys : List V) (x y : V), SqK k1 K H a xs ∧ SqK k2 K H b ys ∧ xs[i]? = some x ∧ ys[i]? = some y,
   fun i H v H' => ∃ T x y, v = .ref T ∧ H T = none ∧ H' = upd H T (.tup [x, y]) ∧ (∀ xs, SqK k1 K H a xs → xs[i]? = some x) ∧ ∀ ys, SqK k2 K H b ys → ys[i]? = some y,
   fun i H => ∃ xs ys : List V, SqK k1 K H a xs ∧ SqK k2 K H b ys ∧ min xs.length ys.length = i⟩
theorem nne {x y : Nat} (h : x < y ∨ y < x) : x ≠ y := by omega
theorem not2 {x y z : Nat} (h1 : x ≠ y) (h2 : x ≠ z) : x ∉ [y, z] := by simp [h1, h2]
/-- five new objects behind a -/
theorem zipSep {n a b : Nat} (ha : a < n) (hb : b < n) : ZipSep2 (n + 4) (n + 2) (n + 3) n (n + 1) [n, a] [n + 1, b] :=
  ⟨nne (by omega), nne (by omega), nne (by omega), nne (by omega), List.mem_cons_self, not2 (nne (by omega)) (nne (by omega)), not2 (nne (by omega)) (nne (by omega)),
   nne (by omega), List.mem_cons_self, not2 (nne (by omega)) (nne (by omega)), not2 (nne (by omega)) (nne (by omega)), not2 (nne (by omega)) (nne (by omega)), not2 (nne (by omega)) (nne (by omega))⟩
theorem turn_zi (k1 k2 : Bool) {P : Program} {w : World} {K : PySem.W.Frag} {elts : List Expr} {kk : Nat} {tpos : Pos} {n a b : Nat} (ha : a < n) (hb : b < n) :
    Turn P w K (.Tuple elts kk tpos) (ZiI k1 k2 K a b) [n + 4, n + 2, n + 3, n, n + 1] (n + 4) (fun i h => IsZip h (n + 4) (n + 2) (n + 3) .none ∧ IsTupOf2 h (n + 2) (.ref n) (.ref (n + 1)) ∧ (∃ x y, IsTupOf2 h (n + 3) x y) ∧ ItK k1 h n a i ∧ ItK k2 h (n + 1) b i) where
  mem := List.mem_cons_self
  obj := by
    rintro i h ⟨hz, h2, ⟨x, y, h3⟩, i1, i2⟩ c hc
    simp only [List.mem_cons, List.not_mem_nil, or_false] at hc
    rcases hc with rfl | rfl | rfl | rfl | rfl
    · exact ⟨_, hz, fun v q => nomatch q⟩
    · exact ⟨_, h2, fun v q => nomatch q⟩
    · exact ⟨_, h3, fun v q => nomatch q⟩
    · exact i1.obj
    · exact i2.obj
  keep := by
    rintro i h h' ⟨hz, h2, ⟨x, y, h3⟩, i1, i2⟩ k
    exact ⟨k _ (by simp) _ hz, k _ (by simp) _ h2, ⟨x, y, k _ (by simp) _ h3⟩, i1.at fun o q => k _ (by simp) o q, i2.at fun o q => k _ (by simp) o q⟩
  item := by
    intro X hP hw hK hc i pins s σ H E I hf st hg
    subst hP hw hK
    obtain ⟨hz, h2, ⟨x0, y0, h3⟩, i1, i2⟩ := st
    obtain ⟨xs, ys, x, y, hqx, hqy, hx, hy⟩ := hg
    obtain ⟨its, rv, p⟩ := sqK_at I hqx
    obtain ⟨its2, rv2, p2⟩ := sqK_at I hqy
    obtain ⟨u, hu, ru⟩ := rv.get hx
    obtain ⟨v, hv, ru2⟩ := rv2.get hy
    have hh : X.A.in1.handled = none := I.ok.hd hc
    have zl : n + 4 < s.heap.objs.size := Heap.lt_size hz
    have l1 : i < its.toArray.size := by have := (List.getElem?_eq_some_iff.mp hu).1; simpa using this
    have l2 : i < its2.toArray.size := by have := (List.getElem?_eq_some_iff.mp hv).1; simpa using this
    refine wpAny_pyNext_zipD2_item (zipSep ha hb) (drawsK k1 hh n a (nne (by omega)) its.toArray) (drawsK k2 hh (n + 1) b (nne (by omega)) its2.toArray) hz h2 h3 ⟨i1, p⟩ ⟨i2, p2⟩ l1 l2 fun u' v' h1 tk e1 e2 z1 t1 j1 j2 nw hsz hk => ?_
    have e1 : its.toArray[i]? = some u' := e1
    have e2 : its2.toArray[i]? = some v' := e2
    obtain rfl : u' = u := by
      have : its[i]? = some u' := by simpa using e1
      rw [hu] at this; exact (Option.some.inj this).symm
    obtain rfl : v' = v := by
      have : its2[i]? = some v' := by simpa using e2
      rw [hv] at this; exact (Option.some.inj this).symm
    refine ⟨_, rfl, wpAny_letOwnedTupleGo_zip (s := { s with heap := h1, toks := tk }) z1 fun h4 z4 sb => ?_⟩
    have nw2 : h4.get? s.heap.objs.size = some { cls := .type "tuple", data := .seq #[u', v'] } := (sb.2 _ (Nat.ne_of_gt zl)).trans nw
    have ok : ObjOk X.prog X.w (upd H s.heap.objs.size (.tup [x, y])) h4 s.heap.objs.size (.tup [x, y]) :=
      ⟨by show 2 ≤ sizeLine; decide, [u', v'], .cons ru (.cons ru2 .nil), ⟨_, nw2, rfl, _, rfl⟩⟩
    have I1 : Inv X pins σ (upd H s.heap.objs.size (.tup [x, y])) { s with heap := h4, toks := tk } :=
      I.turnedNew (t' := tk) (ch := [n + 4, n + 2, n + 3, n, n + 1]) (fun c o hb q => (sb.2 c fun z => hb (by simp [z])).trans (hk c o (fun z => hb (by simp [z])) (fun z => hb (by simp [z])) (fun z => hb (by simp [z])) (fun z => hb (by simp [z])) q)) hf (Nat.le_refl _) ok
    refine ⟨.ref s.heap.objs.size, _, I1, rfl, ⟨_, x, y, rfl, I.hok.fresh (Nat.le_refl _), rfl, fun l hl => by rw [sqK_inj I hl hqx]; exact hx, fun l hl => by rw [sqK_inj I hl hqy]; exact hy⟩,
      ⟨z4, ?_, ⟨u', v', ?_⟩, ?_, ?_⟩, fun c hcm => ?_⟩
    · exact (sb.2 _ (nne (by omega))).trans (hk _ _ (nne (by omega)) (nne (by omega)) (nne (by omega)) (nne (by omega)) h2)
    · exact (sb.2 _ (nne (by omega))).trans t1
    · exact j1.1.at fun o q => (sb.2 _ (nne (by omega))).trans q
    · exact j2.1.at fun o q => (sb.2 _ (nne (by omega))).trans q
    · have hlt : c < s.heap.objs.size := by
        simp only [List.mem_cons, List.not_mem_nil, or_false] at hcm
        have zl' : n + 4 < (s.heap.objs.size : Nat) := zl
        rcases hcm with z | z | z | z | z
        all_goals rw [z]; exact (show (_ : Nat) < (_ : Nat) by omega)
      rw [upd_ne (Nat.ne_of_lt hlt)]
      exact (hf c hcm).1
  done := by
    intro X hP hw hK hc i pins s σ H E I hf st hg
    subst hP hw hK
    obtain ⟨hz, h2, ⟨x0, y0, h3⟩, i1, i2⟩ := st
    obtain ⟨xs, ys, hqx, hqy, hend⟩ := hg
    obtain ⟨its, rv, p⟩ := sqK_at I hqx
    obtain ⟨its2, rv2, p2⟩ := sqK_at I hqy
    have hh : X.A.in1.handled = none := I.ok.hd hc
    have l1 : its.toArray.size = xs.length := by rw [rv.length]; simp
    have l2 : its2.toArray.size = ys.length := by rw [rv2.length]; simp
    refine wpAny_pyNext_zipD2_end (zipSep ha hb) (drawsK k1 hh n a (nne (by omega)) its.toArray) (drawsK k2 hh (n + 1) b (nne (by omega)) its2.toArray) hz h2 h3 ⟨i1, p⟩ ⟨i2, p2⟩ (by omega) (by omega) (by omega) fun h' tk hk => ⟨rfl, ?_⟩
    exact I.turnedL (t' := tk) (ch := [n + 4, n + 2, n + 3, n, n + 1]) (fun c o hb q => hk c o (fun z => hb (by simp [z])) (fun z => hb (by simp [z])) (fun z => hb (by simp [z])) (fun z => hb (by simp [z])) q) hf
  self := fun A i s Q E st h => wpAny_pyIter_zip st.1 h
/-- zip(e, e2), each a list or a tuple -/
theorem pi_zi {X : Cx} {e e2 : Expr} {ta : TA} {p pos tpos : Pos} {elts : List Expr} {kk : Nat} (hg : Gl X "zip") (hm : X.mg "zip" = none) (ha : PA X [e, e2] ta)
    (hs : starEach [e, e2] X.env = (false, eval e X.env) :: starEach [e2] X.env) (hpl : (backTo pos (starEach [e2] X.env)).any (·.1) = false) :
    PI X (.Tuple elts kk tpos) (.Call (.Name "zip" p) [e, e2] [] pos) (fun σ H R => ta σ H fun vs H1 => ∃ k1 k2 a b xs ys, vs = [.ref a, .ref b] ∧ SqK k1 X.K H1 a xs ∧ SqK k2 X.K H1 b ys ∧ R (ZiI k1 k2 X.K a b) H1) := by
  refine ⟨fun pins s σ H R I h => ?_⟩
  refine Call_ (ld_blt I hg hm PyProof.Rows.boot_zip (PyProof.Rows.callWith_type1 (thn (ha.run pos pins s σ H _ I h) fun us s1 ⟨vs, H1, I1, r1, k1, k2, a, b, xs, ys, ex, hqx, hqy, q⟩ => ?_) hs hpl))
  subst ex
  cases r1 with
  | cons r rr =>
    cases rr with
    | cons r' rr =>
      cases rr
      cases r
      cases r'
      obtain ⟨its, rv, p1⟩ := sqK_at I1 hqx
      obtain ⟨its2, rv2, p2⟩ := sqK_at I1 hqy
      have la := p1.lt
      have lb := p2.lt
      refine zip_begins2 (beginsK k1 a its.toArray) (beginsK k2 b its2.toArray) p1 p2 fun h' hz h2 h3 g1 g2 hsz hk => wpAny_pyIter_zip hz ?_
      refine ⟨s1.heap.objs.size + 4, [s1.heap.objs.size + 4, s1.heap.objs.size + 2, s1.heap.objs.size + 3, s1.heap.objs.size, s1.heap.objs.size + 1], _, _, H1, rfl, I1.kept (t' := s1.toks) hk, turn_zi k1 k2 la lb, ⟨hz, h2, ⟨_, _, h3⟩, objK_it g1, objK_it g2⟩, fun c hc => ?_, q⟩
      have hle : s1.heap.objs.size ≤ c := by
        simp only [List.mem_cons, List.not_mem_nil, or_false] at hc
        rcases hc with z | z | z | z | z
        all_goals first | (rw [z]; exact Nat.le_add_right _ _) | (rw [z]; exact Nat.le_refl _)
      exact I1.fpOk hle (I1.hok.fresh hle)
end XC
end

section
set_option Elab.async false
set_option linter.all false
set_option maxRecDepth 100000
set_option maxHeartbeats 8000000
namespace XC
open PySem PySem.Spec PyProof.Rows L2
section
variable {T : Tab} {Γ : Ctx} {cl : Nat → Addr} {xc : Nat → Value × Option Str}
theorem br_cases {b : Option Bool} {P Q : Prop} (h : br b P Q) : (b = some true ∧ P) ∨ (b = some false ∧ Q) := by
  unfold br at h
  split at h
  · exact .inl ⟨rfl, h⟩
  · exact .inr ⟨rfl, h⟩
  · exact h.elim
theorem when_cases {b : Option Bool} {Q : Bool → Prop} (h : whenB b Q) : ∃ k, b = some k ∧ Q k := by
  unfold whenB at h
  split at h
  · exact ⟨_, rfl, h⟩
  · exact h.elim
abbrev SE (T : Tab) (Γ : Ctx) (cl : Nat → Addr) (xc : Nat → Value × Option Str) (c : CE) : Prop := ∀ (X : Cx) (W : WX) (e : Expr), Good X T Γ cl xc W → chkE T X.env.scope c e = true → PE X e (rdE X.K cl xc W Γ c) ∧ PT X e (rdT X.K cl xc W Γ c)
abbrev SEs (T : Tab) (Γ : Ctx) (cl : Nat → Addr) (xc : Nat → Value × Option Str) (c : CEs) : Prop := ∀ (X : Cx) (W : WX) (e : List Expr), Good X T Γ cl xc W → chkEs T X.env.scope c e = true → PA X e (rdA X.K cl xc W Γ c) ∧ ∀ kws, kwExprs kws = e → PK X kws (rdA X.K cl xc W Γ c)
abbrev SO (T : Tab) (Γ : Ctx) (cl : Nat → Addr) (xc : Nat → Value × Option Str) (c : CO) : Prop := ∀ (X : Cx) (W : WX) (e : Option Expr), Good X T Γ cl xc W → chkO T X.env.scope c e = true → PO X e (rdO X.K cl xc W Γ c) ∧ ∀ e', e = some e' → PT X e' (rdC X.K cl xc W Γ c)
abbrev ST (T : Tab) (Γ : Ctx) (cl : Nat → Addr) (xc : Nat → Value × Option Str) (c : CT) : Prop := ∀ (X : Cx) (W : WX) (top : Str → Bool) (e : Expr), Good X T Γ cl xc W → (∀ x, top x = true → X.fn x = true) → chkT T X.env.scope top c e = true → PG X e (rdG X.K cl xc W Γ c)
abbrev STs (T : Tab) (Γ : Ctx) (cl : Nat → Addr) (xc : Nat → Value × Option Str) (c : CTs) : Prop := ∀ (X : Cx) (W : WX) (top : Str → Bool) (e : List Expr), Good X T Γ cl xc W → (∀ x, top x = true → X.fn x = true) → chkTs T X.env.scope top c e = true →
  PGs X e (rdGs X.K cl xc W Γ c) ∧ (assignEach e X.env).findIdx? (·.1) = none ∧ (assignEach e X.env).length = e.length
abbrev SI (T : Tab) (Γ : Ctx) (cl : Nat → Addr) (xc : Nat → Value × Option Str) (c : CI) : Prop := ∀ (X : Cx) (W : WX) (tg e : Expr), Good X T Γ cl xc W → chkI T X.env.scope tg c e = true → PI X tg e (rdI X.K cl xc W Γ c)

theorem s_con (d : D) : SE T Γ cl xc (.con d) := fun X W e g h => by
  unfold chkE at h
  split at h
  · rename_i c k p
    have key : ∀ {v : V}, PE X (.Constant c k p) (tC v) → (∀ S H, Rep X.K S H v d) → PE X (.Constant c k p) (rdE X.K cl xc W Γ (.con d)) := fun {v} hp hr =>
      hp.weak fun σ H Q ⟨ρ, S, E, R, i, w, a⟩ => a.here i.st (show R d S from w) (hr S H)
    have hpe : PE X (.Constant c k p) (rdE X.K cl xc W Γ (.con d)) := by
      unfold conB at h
      split at h
      · exact key pe_non fun _ _ => .non
      · rw [eq_of_beq h] at key ⊢; exact key pe_bl fun _ _ => .bl _
      · rw [eq_of_beq h] at key ⊢; exact key pe_int fun _ _ => .int _
      · rw [of_decide_eq_true h] at key ⊢; exact key pe_str fun _ _ => .str _
      · cases h
    exact ⟨hpe, pt_of hpe fun _ => rfl⟩
  · cases h
theorem s_var (n : Nat) : SE T Γ cl xc (.var n) := fun X W e g h => by
  unfold chkE at h
  split at h
  · rename_i x p
    simp only [Bool.and_eq_true, decide_eq_true_eq] at h
    obtain ⟨⟨h1, h2⟩, h3⟩ := h
    obtain ⟨p1, p2, _⟩ := pn h1
    have hpe : PE X (.Name x p) (rdE X.K cl xc W Γ (.var n)) := (pe_var (i := n) (by rw [g.N]; exact h2) (vis_of h3) p1 p2).weak fun σ H Q ⟨ρ, S, E, R, i, w, a⟩ => by
      have w : look ρ n (fun d => R d S) := w
      unfold look at w
      split at w
      · rename_i d hd
        obtain ⟨v, h5, h6⟩ := i.env.2 n d hd
        exact ⟨v, h5, a.here i.st w h6⟩
      · exact w.elim
    exact ⟨hpe, pt_of hpe fun _ => rfl⟩
  · cases h
theorem s_glob (n : Nat) : SE T Γ cl xc (.glob n) := fun X W e g h => by
  unfold chkE at h
  split at h
  · rename_i x p
    simp only [Bool.and_eq_true, decide_eq_true_eq] at h
    obtain ⟨⟨h1, h2⟩, h3⟩ := h
    obtain ⟨p1, p2, _⟩ := pn h1
    have hpe : PE X (.Name x p) (rdE X.K cl xc W Γ (.glob n)) := by
      cases q : Γ.con n with
      | none =>
        refine ⟨fun pins s σ H Q I ⟨ρ, S, E, R, i, w, a⟩ => ?_⟩
        have w : (match Γ.con n with | some d => R d S | none => False) := w
        rw [q] at w
        exact w.elim
      | some d =>
        obtain ⟨v, u, m1, m2, m3⟩ := g.con x n d h3 q
        refine (pe_glob (gl_of h2) m1 m2 p1).weak fun σ H Q ⟨ρ, S, E, R, i, w, a⟩ => ?_
        have w : (match Γ.con n with | some d => R d S | none => False) := w
        rw [q] at w
        exact a.here i.st (show R d S from w) (m3 S H)
    exact ⟨hpe, pt_of hpe fun _ => rfl⟩
  · cases h
theorem s_bin (op : Operator) (a b : CE) (ia : SE T Γ cl xc a) (ib : SE T Γ cl xc b) : SE T Γ cl xc (.bin op a b) := fun X W e g h => by
  unfold chkE at h
  split at h
  · rename_i l o r p
    simp only [Bool.and_eq_true, decide_eq_true_eq] at h
    obtain ⟨⟨e1, h1⟩, h2⟩ := h
    subst e1
    have hpe := (pe_op (op_binW (cl := cl) o) (ia X W _ g h1).1 (ib X W _ g h2).1 (pos := p)).weak (t' := rdE X.K cl xc W Γ (.bin o a b)) fun σ H Q ⟨ρ, S, E, R, i, w, an⟩ =>
      ⟨ρ, S, E, _, i, w, fun d S1 v H1 w1 s1 r1 k1 => ⟨ρ, S1, E, _, i.step s1 k1, w1, fun d2 S2 v2 H2 w2 s2 r2 k2 => ⟨S2, d, d2, R, k2, r1.step s2, r2, w2, an.from (s1.trans s2)⟩⟩⟩
    exact ⟨hpe, pt_of hpe fun _ => rfl⟩
  · cases h
theorem s_catM (a b : CE) (ia : SE T Γ cl xc a) (ib : SE T Γ cl xc b) : SE T Γ cl xc (.catM a b) := fun X W e g h => by
  unfold chkE at h
  split at h
  · rename_i l r p
    simp only [Bool.and_eq_true] at h
    obtain ⟨h1, h2⟩ := h
    have hpe := (pe_op (op_catM (cl := cl)) (ia X W _ g h1).1 (ib X W _ g h2).1 (pos := p)).weak (t' := rdE X.K cl xc W Γ (.catM a b)) fun σ H Q ⟨ρ, S, E, R, i, w, an⟩ =>
      ⟨ρ, S, E, _, i, w, fun d S1 v H1 w1 s1 r1 k1 => ⟨ρ, S1, E, _, i.step s1 k1, w1, fun d2 S2 v2 H2 w2 s2 r2 k2 => ⟨S2, d, d2, R, k2, r1.step s2, r2, w2, an.from (s1.trans s2)⟩⟩⟩
    exact ⟨hpe, pt_of hpe fun _ => rfl⟩
  · cases h
theorem s_neg (a : CE) (ia : SE T Γ cl xc a) : SE T Γ cl xc (.neg a) := fun X W e g h => by
  unfold chkE at h
  split at h
  · rename_i y p
    have hpe := (pe_un un_neg (ia X W _ g h).1 (pos := p)).weak (t' := rdE X.K cl xc W Γ (.neg a)) fun σ H Q ⟨ρ, S, E, R, i, w, an⟩ =>
      ⟨ρ, S, E, _, i, w, fun d S1 v H1 w1 s1 r1 k1 => by
        cases d with
        | int j => cases r1; exact ⟨_, rfl, (an.from s1).here k1 (show R (.int (-j)) S1 from w1) (.int _)⟩
        | _ => exact (show False from w1).elim⟩
    exact ⟨hpe, pt_of hpe fun _ => rfl⟩
  · cases h
theorem s_nt (a : CE) (ia : SE T Γ cl xc a) : SE T Γ cl xc (.nt a) := fun X W e g h => by
  unfold chkE at h
  split at h
  · refine ⟨(pe_notT (ia X W _ g h).1).weak fun σ H Q ⟨ρ, S, E, R, i, w, an⟩ => ⟨ρ, S, E, _, i, w, fun d S1 v H1 w1 s1 r1 k1 => ?_⟩, (pt_not (ia X W _ g h).2).weak fun σ H Q ⟨ρ, S, E, R, i, w, an⟩ => ⟨ρ, S, E, _, i, w, fun d S1 H1 w1 s1 k1 => ?_⟩⟩
    · obtain ⟨k, hk, q⟩ := when_cases w1
      exact ⟨k, truth_of r1 k1 hk, (an.from s1).here k1 q (.bl _)⟩
    · obtain ⟨k, hk, q⟩ := when_cases w1
      obtain ⟨k', hk', q'⟩ := an _ S1 H1 q s1 k1
      cases hk'
      exact ⟨k, hk, q'⟩
  · cases h
theorem and_pe {X : Cx} {W : WX} {a b : CE} {x y : Expr} {r : List Expr} {pos : Pos} (ia : PE X x (rdE X.K cl xc W Γ a) ∧ PT X x (rdT X.K cl xc W Γ a)) (h1 : PE X (.BoolOp .And (y :: r) pos) (rdE X.K cl xc W Γ b)) (h2 : PW X (.BoolOp .And (y :: r) pos) (rdT X.K cl xc W Γ b)) :
    PE X (.BoolOp .And (x :: y :: r) pos) (rdE X.K cl xc W Γ (.and a b)) ∧ PT X (.BoolOp .And (x :: y :: r) pos) (rdT X.K cl xc W Γ (.and a b)) := by
  refine ⟨(pe_andT ia.1 h1).weak fun σ H Q ⟨ρ, S, E, R, i, w, an⟩ => ⟨ρ, S, E, _, i, w, fun d S1 v H1 w1 s1 r1 k1 => ?_⟩, (PW.pt (pw_and ia.2 h2)).weak fun σ H Q ⟨ρ, S, E, R, i, w, an⟩ => ⟨ρ, S, E, _, i, w, fun d S1 H1 w1 s1 k1 => ?_⟩⟩
  · rcases br_cases w1 with ⟨e, q⟩ | ⟨e, q⟩
    · exact ⟨true, truth_of r1 k1 e, iteT ⟨ρ, S1, E, R, i.step s1 k1, q, an.from s1⟩⟩
    · exact ⟨false, truth_of r1 k1 e, iteF ((an.from s1).here k1 q r1)⟩
  · rcases br_cases w1 with ⟨e, q⟩ | ⟨e, q⟩
    · exact ⟨true, e, iteT ⟨ρ, S1, E, R, i.step s1 k1, q, fun d S2 H2 q2 s2 k2 => an d S2 H2 q2 (s1.trans s2) k2⟩⟩
    · obtain ⟨k, hk, q'⟩ := an d S1 H1 q s1 k1
      rw [e] at hk; cases hk
      exact ⟨false, e, iteF q'⟩
theorem or_pe {X : Cx} {W : WX} {a b : CE} {x y : Expr} {r : List Expr} {pos : Pos} (ia : PE X x (rdE X.K cl xc W Γ a) ∧ PT X x (rdT X.K cl xc W Γ a)) (h1 : PE X (.BoolOp .Or (y :: r) pos) (rdE X.K cl xc W Γ b)) (h2 : PW X (.BoolOp .Or (y :: r) pos) (rdT X.K cl xc W Γ b)) :
    PE X (.BoolOp .Or (x :: y :: r) pos) (rdE X.K cl xc W Γ (.or a b)) ∧ PT X (.BoolOp .Or (x :: y :: r) pos) (rdT X.K cl xc W Γ (.or a b)) := by
  refine ⟨(pe_orT ia.1 h1).weak fun σ H Q ⟨ρ, S, E, R, i, w, an⟩ => ⟨ρ, S, E, _, i, w, fun d S1 v H1 w1 s1 r1 k1 => ?_⟩, (PW.pt (pw_or ia.2 h2)).weak fun σ H Q ⟨ρ, S, E, R, i, w, an⟩ => ⟨ρ, S, E, _, i, w, fun d S1 H1 w1 s1 k1 => ?_⟩⟩
  · rcases br_cases w1 with ⟨e, q⟩ | ⟨e, q⟩
    · exact ⟨true, truth_of r1 k1 e, iteT ((an.from s1).here k1 q r1)⟩
    · exact ⟨false, truth_of r1 k1 e, iteF ⟨ρ, S1, E, R, i.step s1 k1, q, an.from s1⟩⟩
  · rcases br_cases w1 with ⟨e, q⟩ | ⟨e, q⟩
    · obtain ⟨k, hk, q'⟩ := an d S1 H1 q s1 k1
      rw [e] at hk; cases hk
      exact ⟨true, e, iteT q'⟩
    · exact ⟨false, e, iteF ⟨ρ, S1, E, R, i.step s1 k1, q, fun d S2 H2 q2 s2 k2 => an d S2 H2 q2 (s1.trans s2) k2⟩⟩
theorem s_and (a b : CE) (ia : SE T Γ cl xc a) (ib : SE T Γ cl xc b) : SE T Γ cl xc (.and a b) := fun X W e g h => by
  unfold chkE at h
  split at h
  · simp only [Bool.and_eq_true] at h
    obtain ⟨h1, h2⟩ := h
    split at h2
    · exact and_pe (ia X W _ g h1) (pe_one (ib X W _ g h2).1) (pw_and1 (ib X W _ g h2).2)
    · obtain ⟨p, t⟩ := ib X W _ g h2
      exact and_pe (ia X W _ g h1) p ⟨fun whole => t.run⟩
  · cases h
theorem s_or (a b : CE) (ia : SE T Γ cl xc a) (ib : SE T Γ cl xc b) : SE T Γ cl xc (.or a b) := fun X W e g h => by
  unfold chkE at h
  split at h
  · simp only [Bool.and_eq_true] at h
    obtain ⟨h1, h2⟩ := h
    split at h2
    · exact or_pe (ia X W _ g h1) (pe_one (ib X W _ g h2).1) (pw_or1 (ib X W _ g h2).2)
    · obtain ⟨p, t⟩ := ib X W _ g h2
      exact or_pe (ia X W _ g h1) p ⟨fun whole => t.run⟩
  · cases h
/-- a comparison, as a value and as a test -/
theorem s_cmp (op : CmpOp) (a b : CE) (ia : SE T Γ cl xc a) (ib : SE T Γ cl xc b) : SE T Γ cl xc (.cmp op a b) := fun X W e g h => by
  unfold chkE at h
  split at h
  · rename_i l o r p
    simp only [Bool.and_eq_true, decide_eq_true_eq] at h
    obtain ⟨⟨⟨e1, h1⟩, h2⟩, h3⟩ := h
    subst e1
    refine ⟨(pe_cmpR (op_cmpW (cl := cl) o g.un) (ia X W _ g h1).1 (ib X W _ g h2).1 (behind_plain h3)).weak fun σ H Q ⟨ρ, S, E, R, i, w, an⟩ =>
      ⟨ρ, S, E, _, i, w, fun d S1 v H1 w1 s1 r1 k1 => ⟨ρ, S1, E, _, i.step s1 k1, w1, fun d2 S2 v2 H2 w2 s2 r2 k2 => ⟨S2, d, d2, R, k2, r1.step s2, r2, w2, an.from (s1.trans s2)⟩⟩⟩,
      (pt_cmpR (op_cmpW (cl := cl) o g.un) (ia X W _ g h1).1 (ib X W _ g h2).1 (behind_plain h3)).weak fun σ H Q ⟨ρ, S, E, R, i, w, an⟩ =>
      ⟨ρ, S, E, _, i, w, fun d S1 v H1 w1 s1 r1 k1 => ⟨ρ, S1, E, _, i.step s1 k1, w1, fun d2 S2 v2 H2 w2 s2 r2 k2 => ⟨S2, d, d2, fun x S' => ∃ k, x = .bl k ∧ R (.bl k) S', k2, r1.step s2, r2, ?_, ?_⟩⟩⟩⟩
    · obtain ⟨k, hk, q⟩ := when_cases w2
      show whenB (cmpD S2 o d d2) _
      rw [hk]
      exact ⟨k, rfl, q⟩
    · rintro d' S' v' H' ⟨k, rfl, q⟩ s3 r3 k3
      cases r3
      obtain ⟨k', hk', q'⟩ := an _ S' H' q ((s1.trans s2).trans s3) k3
      cases hk'
      exact ⟨k, rfl, q'⟩
  · cases h
theorem s_chain (op op' : CmpOp) (a b c : CE) (ia : SE T Γ cl xc a) (ib : SE T Γ cl xc b) (ic : SE T Γ cl xc c) : SE T Γ cl xc (.chain op op' a b c) := fun X W e g h => by
  unfold chkE at h
  split at h
  · rename_i l o o' r r' p
    simp only [Bool.and_eq_true, decide_eq_true_eq] at h
    obtain ⟨⟨⟨⟨⟨e1, e2⟩, h1⟩, h2⟩, h3⟩, h4⟩ := h
    subst e1
    subst e2
    have hpe := (pe_chain (op_cmpW (cl := cl) o g.un) (op_cmpW (cl := cl) o' g.un) (ia X W _ g h1).1 (ib X W _ g h2).1 (ic X W _ g h3).1 (behind_plain h4) (pos := p)).weak (t' := rdE X.K cl xc W Γ (.chain o o' a b c)) fun σ H Q ⟨ρ, S, E, R, i, w, an⟩ =>
      ⟨ρ, S, E, _, i, w, fun d S1 v H1 w1 s1 r1 k1 => ⟨ρ, S1, E, _, i.step s1 k1, w1, fun d2 S2 v2 H2 w2 s2 r2 k2 => ⟨S2, d, d2, fun x S' => S' = S2 ∧ ∃ k, x = .bl k ∧ cmpD S2 o d d2 = some k, k2, r1.step s2, r2, by
          rcases br_cases w2 with ⟨e, q⟩ | ⟨e, q⟩ <;> (show whenB (cmpD S2 o d d2) _; rw [e]; exact ⟨rfl, _, rfl, rfl⟩), by
          rintro d' S' v' H' ⟨rfl, k, rfl, e⟩ s3 r3 k3
          cases r3
          refine ⟨k, rfl, ?_⟩
          rcases br_cases w2 with ⟨e', q⟩ | ⟨e', q⟩
          · rw [e] at e'; cases e'
            exact iteT ⟨ρ, S', E, _, (i.step s1 k1).step (s2.trans s3) k3, q, fun d3 S3 v3 H3 w3 s4 r4 k4 => ⟨S3, d2, d3, R, k4, (r2.step s3).step s4, r4, w3, an.from ((s1.trans s2).trans (s3.trans s4))⟩⟩
          · rw [e] at e'; cases e'
            exact iteF ((an.from ((s1.trans s2).trans s3)).here k3 q (.bl _))⟩⟩⟩
    have hpt := (pt_chain (op_cmpW (cl := cl) o g.un) (op_cmpW (cl := cl) o' g.un) (ia X W _ g h1).1 (ib X W _ g h2).1 (ic X W _ g h3).1 (behind_plain h4) (pos := p)).weak (t' := rdT X.K cl xc W Γ (.chain o o' a b c)) fun σ H Q ⟨ρ, S, E, R, i, w, an⟩ =>
      ⟨ρ, S, E, _, i, w, fun d S1 v H1 w1 s1 r1 k1 => ⟨ρ, S1, E, _, i.step s1 k1, w1, fun d2 S2 v2 H2 w2 s2 r2 k2 => ⟨S2, d, d2, fun x S' => S' = S2 ∧ ∃ k, x = .bl k ∧ cmpD S2 o d d2 = some k, k2, r1.step s2, r2, by
          rcases br_cases w2 with ⟨e, q⟩ | ⟨e, q⟩ <;> (show whenB (cmpD S2 o d d2) _; rw [e]; exact ⟨rfl, _, rfl, rfl⟩), by
          rintro d' S' v' H' ⟨rfl, k, rfl, e⟩ s3 r3 k3
          cases r3
          have fin : ∀ {k' : Bool} {S'' : Store} {H'' : Hp}, R (.bl k') S'' → Step S H S'' H'' → RepS X.K H'' cl S'' → Q k' H'' := fun {k' S'' H''} r st kk => by
            obtain ⟨k2, hk2, q'⟩ := an _ S'' H'' r st kk
            cases hk2
            exact q'
          refine ⟨k, rfl, ?_⟩
          rcases br_cases w2 with ⟨e', q⟩ | ⟨e', q⟩
          · rw [e] at e'; cases e'
            refine iteT ⟨ρ, S', E, _, (i.step s1 k1).step (s2.trans s3) k3, q, fun d3 S3 v3 H3 w3 s4 r4 k4 => ⟨S3, d2, d3, fun x S' => ∃ k, x = .bl k ∧ R (.bl k) S', k4, (r2.step s3).step s4, r4, ?_, ?_⟩⟩
            · obtain ⟨k, hk, q⟩ := when_cases w3
              show whenB (cmpD S3 o' d2 d3) _
              rw [hk]
              exact ⟨k, rfl, q⟩
            · rintro d' S5 v' H5 ⟨k, rfl, q⟩ s5 r5 k5
              cases r5
              exact ⟨k, rfl, fin q (((s1.trans s2).trans (s3.trans s4)).trans s5) k5⟩
          · rw [e] at e'; cases e'
            exact iteF ⟨false, rfl, fin q ((s1.trans s2).trans s3) k3⟩⟩⟩⟩
    exact ⟨hpe, hpt⟩
  · cases h
end
end XC
end

section
set_option Elab.async false
set_option linter.all false
set_option maxRecDepth 100000
set_option maxHeartbeats 8000000
namespace XC
open PySem PySem.Spec PyProof.Rows L2
section
variable {T : Tab} {Γ : Ctx} {cl : Nat → Addr} {xc : Nat → Value × Option Str}
theorem s_ite (c a b : CE) (ic : SE T Γ cl xc c) (ia : SE T Γ cl xc a) (ib : SE T Γ cl xc b) : SE T Γ cl xc (.ite c a b) := fun X W e g h => by
  unfold chkE at h
  split at h
  · rename_i t x y p
    simp only [Bool.and_eq_true] at h
    obtain ⟨⟨h1, h2⟩, h3⟩ := h
    have pc := (ic X W _ g h1).2
    have pt : PT X (.IfExp t x y p) (fun σ H Q => rdT X.K cl xc W Γ c σ H fun k H1 => if k = true then rdT X.K cl xc W Γ a σ H1 Q else rdT X.K cl xc W Γ b σ H1 Q) := by
      refine ⟨fun pins s σ H Q I q => isTrue_IfExp (thn (pc.run pins s σ H _ I q) fun k s1 ⟨H1, I1, q1⟩ => ?_)⟩
      cases k with
      | true => exact (ia X W _ g h2).2.run pins s1 σ H1 Q I1 q1
      | false => exact (ib X W _ g h3).2.run pins s1 σ H1 Q I1 q1
    refine ⟨(pe_ifExp pc (ia X W _ g h2).1 (ib X W _ g h3).1).weak fun σ H Q ⟨ρ, S, E, R, i, w, an⟩ => ⟨ρ, S, E, _, i, w, fun d S1 H1 w1 s1 k1 => ?_⟩, pt.weak fun σ H Q ⟨ρ, S, E, R, i, w, an⟩ => ⟨ρ, S, E, _, i, w, fun d S1 H1 w1 s1 k1 => ?_⟩⟩
    · rcases br_cases w1 with ⟨e, q⟩ | ⟨e, q⟩
      · exact ⟨true, e, iteT ⟨ρ, S1, E, R, i.step s1 k1, q, an.from s1⟩⟩
      · exact ⟨false, e, iteF ⟨ρ, S1, E, R, i.step s1 k1, q, an.from s1⟩⟩
    · rcases br_cases w1 with ⟨e, q⟩ | ⟨e, q⟩
      · exact ⟨true, e, iteT ⟨ρ, S1, E, R, i.step s1 k1, q, fun d S2 H2 q2 s2 k2 => an d S2 H2 q2 (s1.trans s2) k2⟩⟩
      · exact ⟨false, e, iteF ⟨ρ, S1, E, R, i.step s1 k1, q, fun d S2 H2 q2 s2 k2 => an d S2 H2 q2 (s1.trans s2) k2⟩⟩
  · cases h
theorem s_tup (es : CEs) (ies : SEs T Γ cl xc es) : SE T Γ cl xc (.tup es) := fun X W e g h => by
  unfold chkE at h
  split at h
  · rename_i xs k p
    have hpe := (pe_tup (ies X W _ g h).1 (x1 := k) (pos := p)).weak (t' := rdE X.K cl xc W Γ (.tup es)) fun σ H Q ⟨ρ, S, E, R, i, w, an⟩ =>
      ⟨ρ, S, E, _, i, w, fun ds S1 vs H1 ⟨z, q⟩ s1 rs k1 => ⟨by rw [← sizeL_eq, rs.length]; exact z, fun p hp => (an.from s1).newT k1 hp rs q⟩⟩
    exact ⟨hpe, pt_of hpe fun _ => rfl⟩
  · cases h
theorem s_lst (m : Bool) (es : CEs) (ies : SEs T Γ cl xc es) : SE T Γ cl xc (.lst m es) := fun X W e g h => by
  unfold chkE at h
  split at h
  · rename_i xs p
    have hpe := (pe_lst (ies X W _ g h).1 (pos := p)).weak (t' := rdE X.K cl xc W Γ (.lst m es)) fun σ H Q ⟨ρ, S, E, R, i, w, an⟩ =>
      ⟨ρ, S, E, _, i, w, fun ds S1 vs H1 ⟨z, q⟩ s1 rs k1 => ⟨by rw [← sizeL_eq, rs.length]; exact z, fun p hp => (an.from s1).newL k1 hp rs q⟩⟩
    exact ⟨hpe, pt_of hpe fun _ => rfl⟩
  · cases h
theorem s_idx (a b : CE) (ia : SE T Γ cl xc a) (ib : SE T Γ cl xc b) : SE T Γ cl xc (.idx a b) := fun X W e g h => by
  unfold chkE at h
  split at h
  · rename_i x y p
    simp only [Bool.and_eq_true] at h
    obtain ⟨⟨h1, h2⟩, h3⟩ := h
    have hpe := (pe_ix (ix_W (cl := cl)) (ia X W _ g h1).1 (ib X W _ g h2).1 (sub_plain h3) (pos := p)).weak (t' := rdE X.K cl xc W Γ (.idx a b)) fun σ H Q ⟨ρ, S, E, R, i, w, an⟩ =>
      ⟨ρ, S, E, _, i, w, fun d S1 v H1 w1 s1 r1 k1 => ⟨ρ, S1, E, _, i.step s1 k1, w1, fun d2 S2 v2 H2 w2 s2 r2 k2 => ⟨S2, d, d2, R, k2, r1.step s2, r2, w2, an.from (s1.trans s2)⟩⟩⟩
    exact ⟨hpe, pt_of hpe fun _ => rfl⟩
  · cases h
theorem s_sli (a : CE) (lo hi : CO) (ia : SE T Γ cl xc a) (il : SO T Γ cl xc lo) (ih : SO T Γ cl xc hi) : SE T Γ cl xc (.sli a lo hi) := fun X W e g h => by
  unfold chkE at h
  split at h
  · rename_i x l u p2 p
    simp only [Bool.and_eq_true] at h
    obtain ⟨⟨h1, h2⟩, h3⟩ := h
    have hpe := (pe_slice (sl_W (cl := cl)) (ia X W _ g h1).1 (il X W _ g h2).1 (ih X W _ g h3).1 (p2 := p2) (pos := p)).weak (t' := rdE X.K cl xc W Γ (.sli a lo hi)) fun σ H Q ⟨ρ, S, E, R, i, w, an⟩ =>
      ⟨ρ, S, E, _, i, w, fun d S1 v H1 w1 s1 r1 k1 => ⟨ρ, S1, E, _, i.step s1 k1, w1, fun o2 S2 H2 w2 s2 k2 => ⟨ρ, S2, E, _, (i.step s1 k1).step s2 k2, w2, fun o3 S3 H3 w3 s3 k3 =>
        ⟨S3, d, R, k3, (r1.step s2).step s3, w3, an.from ((s1.trans s2).trans s3)⟩⟩⟩⟩
    exact ⟨hpe, pt_of hpe fun _ => rfl⟩
  · cases h
theorem s_call (f : Nat) (es : CEs) (ies : SEs T Γ cl xc es) : SE T Γ cl xc (.call f es) := fun X W e g h => by
  unfold chkE at h
  split at h
  · rename_i x p0 args p
    simp only [Bool.and_eq_true, decide_eq_true_eq] at h
    obtain ⟨⟨⟨h1, h2⟩, h3⟩, h4⟩ := h
    obtain ⟨p1, _, _⟩ := pn h1
    obtain ⟨k, fa, fd, ps, F, hr, hm, hk, hl, hb, _⟩ := (g.fn x f h3).ex
    have fin : ∀ {pins : List (Addr × Obj)} {s : Shared} {σ : L2.St} {H H1 : Hp} {Q : VK} {us : List Value} {vs : List V} {ρ : Env} {S S1 : Store} {E : EX} {R : QE} {ds : List D}, L2.Inv X pins σ H1 s → Vals vs us → In X.K cl xc W σ H ρ S E → Step S H S1 H1 → Reps X.K S1 H1 vs ds → RepS X.K H1 cl S1 →
        callW Γ f ds S1 E R → Ans X.K cl S H R Q → wpAny (model X.prog X.w) X.A (PySem.call (.ref fa) us) (EP X pins σ Q) X.xe s := by
      intro pins s σ H H1 Q us vs ρ S S1 E R ds I r i s1 rs k1 w an
      have h : us.length = ps.length := by rw [← r.length, rs.length, w.1, hl]
      have hb' : BindsTo s fd ⟨us, []⟩ (ps.zip us) := by have := hb s us I.kIn (by rw [List.append_nil]; exact h); simpa using this
      exact run_own (x := x) (us := us) (args := ⟨us, []⟩) (us' := us) g F hr I hb' r hl k1 rs w (i.step s1 k1).ex (an.from s1)
    have hpe : PE X (.Call (.Name x p0) args [] p) (rdE X.K cl xc W Γ (.call f es)) := by
      have pa := (ies X W _ g h4).1
      cases args with
      | nil =>
        refine ⟨fun pins s σ H Q I ⟨ρ, S, E, R, i, w, an⟩ => ?_⟩
        refine wpAny_Call_Name_kw (ld_glob I (gl_of h2) hm ?_ p1)
        cases es with
        | nil => exact PySem.W.callWith_K0 I.kIn hk (fin I .nil i (Step.refl _ _) .nil i.st w an)
        | cons _ _ => simp [chkEs] at h4
      | cons a as =>
        refine ⟨fun pins s σ H Q I ⟨ρ, S, E, R, i, w, an⟩ => ?_⟩
        refine wpAny_Call_Name_kw (ld_glob I (gl_of h2) hm ?_ p1)
        have hst : notStar a = true ∧ (backTo p (starEach as X.env)).any (·.1) = false := by
          cases es with
          | nil => simp [chkEs] at h4
          | cons c cs =>
            simp only [chkEs, Bool.and_eq_true] at h4
            exact ⟨h4.1.1, noStar_back h4.2⟩
        refine PySem.W.callWith_K (h₀ := X.base) I.ok.mod.kin hk (thn (pa.run p pins s σ H (fun vs H1 => ∃ ds S1, Step S H S1 H1 ∧ Reps X.K S1 H1 vs ds ∧ RepS X.K H1 cl S1 ∧ callW Γ f ds S1 E R) I ⟨ρ, S, E, _, i, w, fun ds S1 vs H1 q s1 rs k1 => ⟨ds, S1, s1, rs, k1, q⟩⟩) fun us s1 ⟨vs, H1, I1, r, ds, S1, st, rs, k1, q⟩ => ⟨I1.kIn, ?_⟩) (star_cons hst.1) hst.2
        exact fin I1 r i st rs k1 q an
    exact ⟨hpe, pt_of hpe fun _ => rfl⟩
  · cases h
theorem kw_all {env : PySem.Env} {pos : Pos} : ∀ {kws : List Keyword} {ks : List Str}, kwNames kws = some ks → (backToKw pos (keywordEach kws env)).all (·.1.isSome) = true ∧ (backToKw pos (keywordEach kws env)).filterMap (·.1) = ks ∧ (backToKw pos (keywordEach kws env)).any (·.1.isNone) = false
  | [], ks, e => by
    have e : some [] = some ks := e
    cases e
    exact ⟨rfl, rfl, rfl⟩
  | ⟨some x, v, p⟩ :: r, ks, e => by
    have e : (kwNames r).map (x :: ·) = some ks := e
    cases q : kwNames r with
    | none => rw [q] at e; cases e
    | some l =>
      rw [q] at e
      cases e
      obtain ⟨a, b, c⟩ := kw_all (env := env) (pos := pos) q
      refine ⟨?_, ?_, ?_⟩
      · show (true && (backToKw pos (keywordEach r env)).all (·.1.isSome)) = true
        rw [a]; rfl
      · show x :: (backToKw pos (keywordEach r env)).filterMap (·.1) = x :: l
        rw [b]
      · show (false || (backToKw pos (keywordEach r env)).any (·.1.isNone)) = false
        rw [c]; rfl
  | ⟨none, v, p⟩ :: r, ks, e => by cases e
theorem kw_len : ∀ {kws : List Keyword} {ks : List Str}, kwNames kws = some ks → kws.length = ks.length
  | [], ks, e => by
    have e : some [] = some ks := e
    cases e; rfl
  | ⟨some x, v, p⟩ :: r, ks, e => by
    have e : (kwNames r).map (x :: ·) = some ks := e
    cases q : kwNames r with
    | none => rw [q] at e; cases e
    | some l =>
      rw [q] at e
      cases e
      simp [kw_len q]
  | ⟨none, v, p⟩ :: r, ks, e => by cases e
theorem s_nil : SEs T Γ cl xc .nil := fun X W e g h => by
  cases e with
  | cons _ _ => simp [chkEs] at h
  | nil =>
    refine ⟨pa_nil.weak fun σ H Q ⟨ρ, S, E, R, i, w, an⟩ => an _ _ _ _ w (Step.refl _ _) .nil i.st, fun kws hk => ?_⟩
    cases kws with
    | cons k r => simp [kwExprs] at hk
    | nil => exact ⟨fun pos pins s σ H Q I ⟨ρ, S, E, R, i, w, an⟩ => pk_nil.run pos pins s σ H Q I (an _ _ _ _ w (Step.refl _ _) .nil i.st)⟩
theorem s_cons (c : CE) (cs : CEs) (ic : SE T Γ cl xc c) (ics : SEs T Γ cl xc cs) : SEs T Γ cl xc (.cons c cs) := fun X W e g h => by
  cases e with
  | nil => simp [chkEs] at h
  | cons e es =>
    simp only [chkEs, Bool.and_eq_true] at h
    obtain ⟨⟨h1, h2⟩, h3⟩ := h
    have key : ∀ {σ : L2.St} {H : Hp} {Q : List V → Hp → Prop}, rdA X.K cl xc W Γ (.cons c cs) σ H Q → tCons (rdE X.K cl xc W Γ c) (rdA X.K cl xc W Γ cs) σ H Q := fun {σ H Q} ⟨ρ, S, E, R, i, w, an⟩ =>
      ⟨ρ, S, E, _, i, w, fun d S1 v H1 q s1 r1 k1 => ⟨ρ, S1, E, _, i.step s1 k1, q, fun ds S2 vs H2 q2 s2 rs k2 => an _ _ _ _ q2 (s1.trans s2) (.cons (r1.step s2) rs) k2⟩⟩
    refine ⟨(pa_cons (ic X W e g h2).1 (ics X W es g h3).1 (star_cons h1)).weak fun σ H Q q => key q, fun kws hk => ?_⟩
    cases kws with
    | nil => simp [kwExprs] at hk
    | cons k r =>
      obtain ⟨nm, v, kp⟩ := k
      have hk : v :: kwExprs r = e :: es := hk
      cases hk
      have := pk_cons (nm := nm) (kpos := kp) (ic X W _ g h2).1 ((ics X W _ g h3).2 r rfl)
      exact ⟨fun pos pins s σ H Q I q => this.run pos pins s σ H Q I (key q)⟩
theorem s_callk (f n m : Nat) (perm : List Nat) (es kes : CEs) (ies : SEs T Γ cl xc es) (iks : SEs T Γ cl xc kes) : SE T Γ cl xc (.callk f n m perm es kes) := fun X W e g h => by
  unfold chkE at h
  split at h
  · rename_i x p0 args kws p
    simp only [Bool.and_eq_true, decide_eq_true_eq] at h
    obtain ⟨⟨⟨⟨⟨⟨⟨h1, h2⟩, h3⟩, h7⟩, h8⟩, h4⟩, h5⟩, h6⟩ := h
    obtain ⟨p1, _, _⟩ := pn h1
    obtain ⟨k, fa, fd, ps, F, hr, hm, hk, hl, hb, hkw⟩ := (g.fn x f h3).ex
    split at h6
    · rename_i ks hks
      rw [List.any_eq_true] at h6
      obtain ⟨⟨q1, q2, q3, q4⟩, hq, hqq⟩ := h6
      simp only [Bool.and_eq_true, decide_eq_true_eq] at hqq
      obtain ⟨⟨⟨e1, e2⟩, e3⟩, e4⟩ := hqq
      subst e1
      subst e2
      subst e3
      subst e4
      obtain ⟨hp, hbt⟩ := hkw _ _ _ hq
      obtain ⟨ka, kf, kn⟩ := kw_all (env := X.env) (pos := p) hks
      have kl := kw_len hks
      have pa := (ies X W _ g h4).1
      have pk := (iks X W _ g h5).2 kws rfl
      -- behind all arguments
      have fin : ∀ {pins : List (Addr × Obj)} {s : Shared} {σ : L2.St} {H H1 : Hp} {Q : VK} {us ws : List Value} {vs zs : List V} {ρ : Env} {S S1 : Store} {E : EX} {R : QE} {ds es' : List D}, L2.Inv X pins σ H1 s → Vals vs us → Vals zs ws →
          In X.K cl xc W σ H ρ S E → Step S H S1 H1 → Reps X.K S1 H1 vs ds → Reps X.K S1 H1 zs es' → RepS X.K H1 cl S1 → ds.length = q2 ∧ es'.length = m ∧
          (match pickD (ds ++ es') q4 with | some ds' => callW Γ q1 ds' S1 E R | none => False) → Ans X.K cl S H R Q → wpAny (model X.prog X.w) X.A (PySem.call (.ref fa) us (q3.zip ws)) (EP X pins σ Q) X.xe s := by
        intro pins s σ H H1 Q us ws vs zs ρ S S1 E R ds es' I r rz i s1 rs rs2 k1 ⟨l1, l2, w⟩ an
        cases q : pickD (ds ++ es') q4 with
        | none => rw [q] at w; exact w.elim
        | some ds' =>
          rw [q] at w
          replace w : callW Γ q1 ds' S1 E R := w
          obtain ⟨vs', us', e1, e2, e3, e4⟩ := pick_vals (rs.append rs2) (r.append rz) (perm := q4) q
          have hb' : BindsTo s fd ⟨us, q3.zip ws⟩ (ps.zip us') := hbt s us ws us' (by rw [← r.length, rs.length, l1]) (by rw [← rz.length, rs2.length, l2, ← h8, kl]) e1
          exact run_own (x := x) (us := us) (args := ⟨us, q3.zip ws⟩) (us' := us') g F hr I hb' e2 hl k1 e3 w (i.step s1 k1).ex (an.from s1)
      have hpe : PE X (.Call (.Name x p0) args kws p) (rdE X.K cl xc W Γ (.callk q1 q2 m q4 es kes)) := by
        cases args with
        | nil =>
          refine ⟨fun pins s σ H Q I ⟨ρ, S, E, R, i, w, an⟩ => ?_⟩
          refine wpAny_Call_Name_kw (ld_glob I (gl_of h2) hm ?_ p1)
          cases es with
          | cons _ _ => simp [chkEs] at h4
          | nil =>
            refine PySem.W.callWith_KW0 (h₀ := X.base) I.ok.mod.kin hk ka (thn (pk.run p pins s σ H (fun zs H1 => ∃ es' S1, Step S H S1 H1 ∧ Reps X.K S1 H1 zs es' ∧ RepS X.K H1 cl S1 ∧ ([] : List D).length = q2 ∧ es'.length = m ∧ (match pickD ([] ++ es') q4 with | some ds' => callW Γ q1 ds' S1 E R | none => False)) I ⟨ρ, S, E, _, i, w, fun ds S1 vs H1 q s1 rs k1 => ⟨ds, S1, s1, rs, k1, q⟩⟩)
              fun ws s2 ⟨zs, H2, I2, rz, es', S2, st, rs2, k2, q⟩ => ⟨I2.kIn, ?_⟩) (by rw [kn]; rfl)
            rw [kf]
            exact fin I2 .nil rz i st .nil rs2 k2 q an
        | cons a as =>
          have hst : notStar a = true ∧ (backTo p (starEach (a :: as) X.env)).any (·.1) = false := by
            refine ⟨?_, noStar_back h4⟩
            cases es with
            | nil => simp [chkEs] at h4
            | cons c cs =>
              simp only [chkEs, Bool.and_eq_true] at h4
              exact h4.1.1
          refine ⟨fun pins s σ H Q I ⟨ρ, S, E, R, i, w, an⟩ => ?_⟩
          refine wpAny_Call_Name_kw (ld_glob I (gl_of h2) hm ?_ p1)
          refine PySem.W.callWith_KW (h₀ := X.base) I.ok.mod.kin hk ka (thn (pa.run p pins s σ H (fun vs H1 => ∃ ds S1, Step S H S1 H1 ∧ Reps X.K S1 H1 vs ds ∧ RepS X.K H1 cl S1 ∧ wpEs Γ E kes ρ S1 fun zs S2 => ds.length = q2 ∧ zs.length = m ∧ (match pickD (ds ++ zs) q4 with | some ds' => callW Γ q1 ds' S2 E R | none => False)) I ⟨ρ, S, E, _, i, w, fun ds S1 vs H1 q s1 rs k1 => ⟨ds, S1, s1, rs, k1, q⟩⟩)
            fun us s1 ⟨vs, H1, I1, r, ds, S1, st, rs, k1, q⟩ => ?_) (by rw [hst.2, kn]; rfl) (star_cons hst.1)
          refine thn (pk.run p pins s1 σ H1 (fun zs H2 => ∃ es' S2, Step S1 H1 S2 H2 ∧ Reps X.K S2 H2 zs es' ∧ RepS X.K H2 cl S2 ∧ ds.length = q2 ∧ es'.length = m ∧ (match pickD (ds ++ es') q4 with | some ds' => callW Γ q1 ds' S2 E R | none => False)) I1 ⟨ρ, S1, E, _, i.step st k1, q, fun zs S2 ws H2 q s2 rs k2 => ⟨zs, S2, s2, rs, k2, q⟩⟩)
            fun ws s2 ⟨zs, H2, I2, rz, es', S2, st2, rs2, k2, q⟩ => ⟨I2.kIn, ?_⟩
          rw [kf]
          exact fin I2 r rz i (st.trans st2) (rs.step st2) rs2 k2 q an
      exact ⟨hpe, pt_of hpe fun _ => rfl⟩
    · cases h6
  · cases h
theorem s_blt (b : Bt) (es : CEs) (ies : SEs T Γ cl xc es) : SE T Γ cl xc (.blt b es) := fun X W e g h => by
  unfold chkE at h
  split at h
  · rename_i x p0 args p
    simp only [Bool.and_eq_true, decide_eq_true_eq] at h
    obtain ⟨⟨⟨⟨h1, h2⟩, h3⟩, h4⟩, h5⟩ := h
    subst h1
    have pa := (ies X W _ g h3).1
    have hpe : PE X (.Call (.Name (bltN b) p0) args [] p) (rdE X.K cl xc W Γ (.blt b es)) := by
      cases args with
      | nil => simp at h4
      | cons a as =>
        have hst : notStar a = true ∧ (backTo p (starEach as X.env)).any (·.1) = false := by
          cases es with
          | nil => simp [chkEs] at h3
          | cons c cs =>
            simp only [chkEs, Bool.and_eq_true] at h3
            exact ⟨h3.1.1, noStar_back h3.2⟩
        have hn : bltN b ≠ "__name__" := by cases b <;> decide
        have hd : (bltN b == ("__debug__" : Str)) = false := by cases b <;> decide
        have hc := blt_W (X := X) (cl := cl) b g.calm
        have key : ∀ {r : List V → Hp → VK → Prop}, r = rBt X.K cl b → PE X (.Call (.Name (bltN b) p0) (a :: as) [] p) (tCB r (rdA X.K cl xc W Γ es)) → PE X (.Call (.Name (bltN b) p0) (a :: as) [] p) (rdE X.K cl xc W Γ (.blt b es)) := fun {r} hr hp => by
          subst hr
          exact hp.weak fun σ H Q ⟨ρ, S, E, R, i, w, an⟩ => ⟨ρ, S, E, _, i, w, fun ds S1 vs H1 q s1 rs k1 => ⟨S1, ds, R, k1, rs, q, an.from s1⟩⟩
        have hv := boot_of b
        have hm := g.mgn b
        generalize hx : bltN b = x at *
        cases b with
        | len => exact key rfl (pe_callB hc (gl_of h2) hm hv pa hn hd (star_cons hst.1) hst.2)
        | abs => exact key rfl (pe_callB hc (gl_of h2) hm hv pa hn hd (star_cons hst.1) hst.2)
        | all => exact key rfl (pe_callB hc (gl_of h2) hm hv pa hn hd (star_cons hst.1) hst.2)
        | any => exact key rfl (pe_callB hc (gl_of h2) hm hv pa hn hd (star_cons hst.1) hst.2)
        | max => exact key rfl (pe_callB hc (gl_of h2) hm hv pa hn hd (star_cons hst.1) hst.2)
        | sorted => exact key rfl (pe_callB hc (gl_of h2) hm hv pa hn hd (star_cons hst.1) hst.2)
        | min => exact key rfl (pe_callB hc (gl_of h2) hm hv pa hn hd (star_cons hst.1) hst.2)
        | int => exact key rfl (pe_callTy hc (gl_of h2) hm hv pa hn hd (star_cons hst.1) hst.2)
        | bool => exact key rfl (pe_callTy hc (gl_of h2) hm hv pa hn hd (star_cons hst.1) hst.2)
        | str => exact key rfl (pe_callTy hc (gl_of h2) hm hv pa hn hd (star_cons hst.1) hst.2)
        | list => exact key rfl (pe_callTy hc (gl_of h2) hm hv pa hn hd (star_cons hst.1) hst.2)
        | listM => exact key rfl (pe_callTy hc (gl_of h2) hm hv pa hn hd (star_cons hst.1) hst.2)
        | tuple => exact key rfl (pe_callTy hc (gl_of h2) hm hv pa hn hd (star_cons hst.1) hst.2)
        | _ => simp at h5
    exact ⟨hpe, pt_of hpe fun _ => rfl⟩
  · cases h
end
end XC
end

section
set_option Elab.async false
set_option linter.all false
set_option maxRecDepth 100000
set_option maxHeartbeats 8000000
namespace XC
open PySem PySem.Spec PyProof.Rows L2
section
variable {T : Tab} {Γ : Ctx} {cl : Nat → Addr} {xc : Nat → Value × Option Str}
theorem s_isi (a : CE) (ts : List Tyn) (ia : SE T Γ cl xc a) : SE T Γ cl xc (.isi a ts) := fun X W e g h => by
  unfold chkE at h
  split at h
  · rename_i x p0 y ty p
    simp only [Bool.and_eq_true, decide_eq_true_eq] at h
    obtain ⟨⟨⟨⟨h1, h2⟩, h3⟩, h4⟩, h5⟩ := h
    subst h1
    have hm : X.mg "isinstance" = none := g.blt _ (by simp [bltNames])
    have pa := (ia X W _ g h3).1
    have hpe : PE X (.Call (.Name "isinstance" p0) [y, ty] [] p) (rdE X.K cl xc W Γ (.isi a ts)) := by
      split at h5
      · rename_i t
        have hs : starEach [ty] X.env = (false, eval ty X.env) :: starEach [] X.env := star_cons (ty_notStar h5)
        refine (pe_callB call_isi (gl_of h2) hm (by decide +kernel) (pa_cons pa (pa_cons (ty_exp g h5) pa_nil hs) (star_cons h4)) (by decide) (by decide) (star_cons h4) (by rw [hs]; rfl)).weak fun σ H Q ⟨ρ, S, E, R, i, w, an⟩ =>
          ⟨ρ, S, E, _, i, w, fun d S1 v H1 q s1 r1 k1 => ?_⟩
        obtain ⟨k, hk, q⟩ := when_cases q
        unfold isiD at hk
        cases e : tyOf S1 d with
        | none => rw [e] at hk; cases hk
        | some l =>
          rw [e] at hk
          have hk : some ([t].any fun t => l.contains t) = some k := hk
          obtain ⟨tv, h6, h7⟩ := ty_of r1 k1 e
          refine ⟨v, .ty (tyN t), tv, .type (tyN t), k, rfl, .ty _, h6, ?_, (an.from s1).here k1 q (.bl _)⟩
          rw [h7 t, ← hk]
          simp
      · split at h5
        · rename_i es k0 p3
          rw [Bool.and_eq_true, decide_eq_true_eq] at h5
          obtain ⟨h50, h5⟩ := h5
          have hs : starEach [.Tuple es k0 p3] X.env = (false, eval (.Tuple es k0 p3) X.env) :: starEach [] X.env := rfl
          refine (pe_callB call_isiT (gl_of h2) hm (by decide +kernel) (pa_cons pa (pa_cons (pe_tup (ty_exps g h5)) pa_nil hs) (star_cons h4)) (by decide) (by decide) (star_cons h4) (by rw [hs]; rfl)).weak fun σ H Q ⟨ρ, S, E, R, i, w, an⟩ =>
            ⟨ρ, S, E, _, i, w, fun d S1 v H1 q s1 r1 k1 => ?_⟩
          obtain ⟨k, hk, q⟩ := when_cases q
          unfold isiD at hk
          cases e : tyOf S1 d with
          | none => rw [e] at hk; cases hk
          | some l =>
            rw [e] at hk
            have hk : some (ts.any fun t => l.contains t) = some k := hk
            refine ⟨by rw [List.length_map, sizeLine_eq]; omega, fun tp htp => ?_⟩
            have st : Step S1 H1 S1 (upd H1 tp (.tup (ts.map fun t => V.ty (tyN t)))) := Step.new htp
            have k2 := k1.new (o := .tup (ts.map fun t => V.ty (tyN t))) htp
            obtain ⟨tv, h6, h7⟩ := ty_of (r1.step st) k2 e
            refine ⟨v, tp, _, tv, _, k, rfl, upd_same, tyVs_cls ts, h6, ?_, ((an.from s1).from st).here k2 q (.bl _)⟩
            rw [kit_all h7 ts, hk]
        · cases h5
    exact ⟨hpe, pt_of hpe fun _ => rfl⟩
  · cases h
theorem s_meth (m : Mt) (o : CE) (es : CEs) (io : SE T Γ cl xc o) (ies : SEs T Γ cl xc es) : SE T Γ cl xc (.meth m o es) := fun X W e g h => by
  unfold chkE at h
  split at h
  · rename_i y name apos args cpos
    simp only [Bool.and_eq_true, decide_eq_true_eq] at h
    obtain ⟨⟨⟨⟨⟨⟨h1, h2⟩, h3⟩, h4⟩, h5⟩, h6⟩, h7⟩ := h
    subst h1
    have po := (io X W _ g h3).1
    have pa := (ies X W _ g h4).1
    have hl : (apos.endLine == cpos.line) = true := by rw [h6]; exact beq_self_eq_true _
    -- the receiver is a list
    have ty : ∀ {S1 : Store} {H1 : Hp} {d : D} {v : V}, Rep X.K S1 H1 v d → RepS X.K H1 cl S1 → lstAt S1 d → tyV X.K "list" v H1 := fun {S1 H1 d v} r k e => by
      unfold lstAt at e
      split at e
      · split at e
        · rename_i xs e2
          cases r
          cases k _ _ e2 with
          | lst z rs => exact .inl ⟨rfl, _, .of z⟩
        · exact e.elim
      · cases r with
        | vls h rs => exact .inl ⟨rfl, _, h.sq⟩
      · exact e.elim
    have one : ∀ {m' : Mt} {id : String}, m' = m → MtR X id (rMt X.K cl m') → PySem.F.plainAttrs_list = PySem.F.plainAttrs_list → Slot "list" (mtName m) id → typeOf (.builtin id) = pure (.type "method_descriptor") → args.length = 1 → PE X (.Call (.Attribute y (mtName m) apos) args [] cpos) (rdE X.K cl xc W Γ (.meth m o es)) := by
      intro m' id hm hmt _ hsl hty hlen
      subst hm
      match args, hlen with
      | [a], _ =>
        cases es with
        | nil => simp [chkEs] at h4
        | cons c cs =>
          simp only [chkEs, Bool.and_eq_true] at h4
          have hs := star_cons (es := []) (env := X.env) h4.1.1
          refine (pe_bm PySem.F.plainAttrs_list hsl hty hmt po pa (base_plain h5) (by rw [hs]; rfl) hl hs rfl).weak fun σ H Q ⟨ρ, S, E, R, i, w, an⟩ =>
            ⟨ρ, S, E, _, i, w, fun d S1 v H1 ⟨q0, q⟩ s1 r1 k1 => ⟨ty r1 k1 q0, ρ, S1, E, _, i.step s1 k1, q, fun ds S2 vs H2 q2 s2 rs k2 => ⟨S2, d, ds, R, k2, r1.step s2, rs, q2, an.from (s1.trans s2)⟩⟩⟩
    have hpe : PE X (.Call (.Attribute y (mtName m) apos) args [] cpos) (rdE X.K cl xc W Γ (.meth m o es)) := by
      cases m with
      | pop =>
        cases args with
        | cons _ _ => simp at h7
        | nil =>
          cases es with
          | cons _ _ => simp [chkEs] at h4
          | nil =>
            refine (pe_bm0 PySem.F.plainAttrs_list PySem.F.slot_list_pop PySem.F.type_list_pop (mt_W_pop (cl := cl)) po (base_plain h5) hl).weak fun σ H Q ⟨ρ, S, E, R, i, w, an⟩ =>
              ⟨ρ, S, E, _, i, w, fun d S1 v H1 ⟨q0, q⟩ s1 r1 k1 => ⟨ty r1 k1 q0, S1, d, [], R, k1, r1, .nil, q, an.from s1⟩⟩
      | append => exact one rfl mt_W_append rfl PySem.F.slot_list_append PySem.F.type_list_append h7
      | popAt => exact one rfl mt_W_popAt rfl PySem.F.slot_list_pop PySem.F.type_list_pop h7
      | count => exact one rfl mt_W_count rfl PySem.F.slot_list_count PySem.F.type_list_count h7
      | _ => simp [mtOk] at h2
    exact ⟨hpe, pt_of hpe fun _ => rfl⟩
  · cases h
theorem s_onone : SO T Γ cl xc .none := fun X W e g h => by
  cases e with
  | some _ => simp [chkO] at h
  | none => exact ⟨⟨fun pins s σ H Q I ⟨ρ, S, E, R, i, w, an⟩ => po_none.run pins s σ H Q I (an none S H w (Step.refl _ _) i.st)⟩, fun _ z => nomatch z⟩
theorem s_osome (c : CE) (ic : SE T Γ cl xc c) : SO T Γ cl xc (.some c) := fun X W e g h => by
  cases e with
  | none => simp [chkO] at h
  | some e =>
    have h : chkE T X.env.scope c e = true := by simpa [chkO] using h
    obtain ⟨p, t⟩ := ic X W e g h
    refine ⟨⟨fun pins s σ H Q I ⟨ρ, S, E, R, i, w, an⟩ => (po_some p).run pins s σ H Q I ⟨ρ, S, E, _, i, w, fun d S1 v H1 q s1 r1 k1 => ?_⟩⟩, fun e' he => ?_⟩
    · cases d with
      | int j => cases r1; exact ⟨j, rfl, an _ S1 H1 (show R (some j) S1 from q) s1 k1⟩
      | _ => exact (show False from q).elim
    · cases he
      exact t.weak fun σ H Q ⟨ρ, S, E, R, i, w, an⟩ => ⟨ρ, S, E, _, i, w, fun d S1 H1 q s1 k1 => by
        obtain ⟨k, hk, q⟩ := when_cases q
        exact ⟨k, hk, an k S1 H1 q s1 k1⟩⟩
theorem assign_cons {e : Expr} {es : List Expr} {env : PySem.Env} (h : notStar e = true) : assignEach (e :: es) env = (false, assign e env) :: assignEach es env := by
  cases e <;> first | rfl | (simp [notStar] at h)
theorem s_tnm (n : Nat) : ST T Γ cl xc (.nm n) := fun X W top e g ht h => by
  unfold chkT at h
  split at h
  · rename_i x p
    simp only [Bool.and_eq_true, decide_eq_true_eq] at h
    obtain ⟨h1, h2⟩ := loc_of h.2
    refine (pg_name (i := n) g.nd (by rw [g.N]; exact h.1) h1 (h2.elim .inr fun z => .inl (ht x z))).weak fun v σ H Q ⟨ρ, S, E, R, d, i, _, r, w, an⟩ => ?_
    exact an (ρ.set n (some d)) S _ H w (Step.refl _ _) (i.env.set n r) i.st ⟨List.length_set, fun j hj => List.getElem?_set_ne (fun z => hj (by simp [slotsT, z]))⟩
  · cases h
theorem s_ttp (ts : CTs) (its : STs T Γ cl xc ts) : ST T Γ cl xc (.tp ts) := fun X W top e g ht h => by
  unfold chkT at h
  split at h
  · rename_i es k p
    obtain ⟨q1, q2, q3⟩ := its X W top es g ht h
    have key : ∀ {ts : CTs} {es : List Expr} {ds : List D} {ρ : Env} {S : Store} {E : EX} {R : Env → Store → Prop}, chkTs T X.env.scope top ts es = true → wpTs Γ E ts ds ρ S R → True := fun _ _ => trivial
    refine PG.weak (t := fun v σ H Q => gTup X.K _ _ v σ H Q ∨ gLst X.K _ _ v σ H Q) ⟨fun pins s σ H v u Q I r hw => hw.elim ((pg_tup g.calm q1 rfl q2).run pins s σ H v u Q I r) ((pg_lst g.calm q1 rfl q2).run pins s σ H v u Q I r)⟩ fun v σ H Q ⟨ρ, S, E, R, d, i, ex, r, w, an⟩ => ?_
    cases d with
    | tup xs =>
      cases r with
      | tup ha rs =>
        obtain ⟨w0, w⟩ : xs.length = lenTs ts ∧ wpTs Γ E ts xs ρ S R := w
        refine .inl ⟨_, _, rfl, ha.sq, ?_, ρ, S, E, R, xs, i, ex, rs, w, an⟩
        rw [rs.length, w0, q3, lenTs_chk h]
    | vls xs =>
      cases r with
      | vls ha rs =>
        obtain ⟨w0, w⟩ : xs.length = lenTs ts ∧ wpTs Γ E ts xs ρ S R := w
        refine .inr ⟨_, _, rfl, ha.sq, ?_, ρ, S, E, R, xs, i, ex, rs, w, an⟩
        rw [rs.length, w0, q3, lenTs_chk h]
    | _ => exact (show False from w).elim
  · cases h
end
end XC
end

section
set_option Elab.async false
set_option linter.all false
set_option maxRecDepth 100000
set_option maxHeartbeats 8000000
namespace XC
open PySem PySem.Spec PyProof.Rows L2
section
variable {T : Tab} {Γ : Ctx} {cl : Nat → Addr} {xc : Nat → Value × Option Str}
theorem s_tix (o n : CE) (io : SE T Γ cl xc o) (ii : SE T Γ cl xc n) : ST T Γ cl xc (.ix o n) := fun X W top e g ht h => by
  unfold chkT at h
  split at h
  · rename_i x y p
    simp only [Bool.and_eq_true] at h
    have ha : ∀ v, assign (.Subscript x y p) X.env v = (do
      let ov ← holding [v] (eval x X.env)
      let iv ← holding [v, ov] (eval y X.env)
      standAt p
      holding [v, ov, iv] (setItem ov iv v)
      release [v, ov, iv] []) := by
      intro v
      have h2 := h.2
      cases y <;> first | rfl | (simp [notSlice] at h2)
    refine (pg_sub (io X W _ g h.1.1).1 (ii X W _ g h.1.2).1 (set_W (cl := cl)) ha).weak fun v σ H Q ⟨ρ, S, E, R, d, i, _, r, w, an⟩ => ?_
    exact ⟨ρ, S, E, _, i, w, fun do_ S1 vo H1 q s1 ro k1 => ⟨ρ, S1, E, _, i.step s1 k1, q, fun di S2 vi H2 q2 s2 ri k2 => ⟨S2, do_, di, d, _, k2, ro.step s2, ri, (r.step s1).step s2, q2, fun S3 H3 q3 s3 k3 => an ρ S3 σ H3 q3 ((s1.trans s2).trans s3) (i.env.step ((s1.trans s2).trans s3)) k3 ⟨rfl, fun _ _ => rfl⟩⟩⟩⟩
  · cases h
theorem s_tsnil : STs T Γ cl xc .nil := fun X W top e g ht h => by
  cases e with
  | cons _ _ => simp [chkTs] at h
  | nil =>
    refine ⟨pgs_nil.weak fun vs σ H Q ⟨ρ, S, E, R, ds, i, _, rs, w, an⟩ => ?_, rfl, rfl⟩
    obtain ⟨w0, w⟩ : ds = [] ∧ R ρ S := w
    subst w0
    cases rs
    exact ⟨rfl, an ρ S σ H w (Step.refl _ _) i.env i.st ⟨rfl, fun _ _ => rfl⟩⟩
theorem s_tscons (t : CT) (ts : CTs) (it : ST T Γ cl xc t) (its : STs T Γ cl xc ts) : STs T Γ cl xc (.cons t ts) := fun X W top e g ht h => by
  cases e with
  | nil => simp [chkTs] at h
  | cons e es =>
    simp only [chkTs, Bool.and_eq_true] at h
    obtain ⟨⟨h1, h2⟩, h3⟩ := h
    obtain ⟨q1, q2, q3⟩ := its X W top es g ht h3
    have hs : (assignEach (e :: es) X.env).map (·.2) = assign e X.env :: (assignEach es X.env).map (·.2) := by rw [assign_cons h1]; rfl
    refine ⟨(pgs_cons (it X W top e g ht h2) q1 hs).weak fun vs σ H Q ⟨ρ, S, E, R, ds, i, ex, rs, w, an⟩ => ?_, ?_, ?_⟩
    · cases rs with
      | nil => exact (show False from w).elim
      | @cons v d vs ds r rs =>
        refine ⟨v, vs, rfl, ρ, S, E, _, d, i, ex, r, w, fun ρ1 S1 σ1 H1 w1 s1 e1 k1 p1 => ⟨ρ1, S1, E, R, ds, ⟨e1, k1, ?_⟩, ?_, rs.step s1, w1, fun ρ2 S2 σ2 H2 w2 s2 e2 k2 p2 => an ρ2 S2 σ2 H2 w2 (s1.trans s2) e2 k2 ⟨p2.1.trans p1.1, fun j hj => (p2.2 j fun z => hj (by simp [slotsTs, z])).trans (p1.2 j fun z => hj (by simp [slotsTs, z]))⟩⟩⟩
        · exact fun x S' cls dx H' a b c d' => ex σ1 x S' cls dx H' a (s1.trans b) c d'
        · exact fun σ' x S' cls dx H' a b c d' => ex σ' x S' cls dx H' a (s1.trans b) c d'
    · rw [assign_cons h1, List.findIdx?_cons]
      simp only [Bool.false_eq_true, if_false]
      rw [q2]; rfl
    · rw [assign_cons h1, List.length_cons, q3]; rfl
/-- a sequence, while what must stay stays -/
def SeqD (K : PySem.W.Frag) (cl : Nat → Addr) (S0 : Store) (H0 : Hp) (kd : Bool) (a : Addr) (xs : List D) (G : Store → Prop) : Prop :=
  ∀ S H, Step S0 H0 S H → RepS K H cl S → G S → ∃ vs, SqK kd K H a vs ∧ Reps K S H vs xs
theorem srcQ_seq {K : PySem.W.Frag} {S : Store} {H : Hp} {v : V} {d : D} {R : List D → (Store → Prop) → Prop} (r : Rep K S H v d) (hS : RepS K H cl S) (w : srcQ S d R) :
    ∃ kd a xs G, v = .ref a ∧ (∃ ys, SqK kd K H a ys) ∧ R xs G ∧ SeqD K cl S H kd a xs G := by
  cases r with
  | @tup a vs ds h rs => exact ⟨false, a, ds, _, rfl, ⟨vs, h.sq⟩, w, fun S' H' st _ _ => ⟨vs, (h.step st).sq, rs.step st⟩⟩
  | @vls a vs ds h rs => exact ⟨true, a, ds, _, rfl, ⟨vs, h.sq⟩, w, fun S' H' st _ _ => ⟨vs, (h.step st).sq, rs.step st⟩⟩
  | @scr a vs ds h rs => exact ⟨true, a, ds, _, rfl, ⟨vs, h.sq⟩, w, fun S' H' st _ _ => ⟨vs, (h.step st).sq, rs.step st⟩⟩
  | loc a =>
    have w : (match S a with | some (.lst xs) => R xs fun S' => S' a = some (.lst xs) | _ => False) := w
    split at w
    · rename_i xs hx
      refine ⟨true, a, xs, _, rfl, ?_, w, fun S' H' st hS' g => ?_⟩
      · cases hS a _ hx with
        | @lst vs _ z rs => exact ⟨vs, .of z⟩
      · cases hS' a _ g with
        | @lst vs _ z rs => exact ⟨vs, .of z, rs⟩
    · exact w.elim
  | str z => exact (show False from w).elim
  | non => exact (show False from w).elim
  | bl b => exact (show False from w).elim
  | int b => exact (show False from w).elim
theorem pairUp_length : ∀ (xs : List D) (n : Nat), (pairUp n xs).length = xs.length
  | [], _ => rfl
  | x :: r, n => by simp [pairUp, pairUp_length r]
theorem pairUp_get : ∀ (xs : List D) (n i : Nat) {d : D}, (pairUp n xs)[i]? = some d → ∃ x, xs[i]? = some x ∧ d = .tup [.int ((n + i : Nat) : Int), x]
  | [], _, _, _, e => by simp [pairUp] at e
  | x :: r, n, 0, d, e => by simp [pairUp] at e; exact ⟨x, rfl, by rw [← e]; rfl⟩
  | x :: r, n, i + 1, d, e => by
    obtain ⟨y, h1, h2⟩ := pairUp_get r (n + 1) i (by simpa [pairUp] using e)
    exact ⟨y, by simpa using h1, by rw [h2, show n + 1 + i = n + (i + 1) by omega]⟩
theorem walk_en {K : PySem.W.Frag} {S : Store} {H : Hp} {kd : Bool} {a : Addr} {xs : List D} {G : Store → Prop} (sd : SeqD K cl S H kd a xs G) : WalkD K cl S H (EnI kd K a) (pairUp 0 xs) G := fun S' H' st hS' g => by
  obtain ⟨vs, hq, rs⟩ := sd S' H' st hS' g
  refine ⟨⟨vs, hq, by rw [pairUp_length, rs.length]⟩, fun i d e => ?_⟩
  obtain ⟨x, hx, rfl⟩ := pairUp_get xs 0 i e
  obtain ⟨v, hv, rv⟩ := rs.get hx
  refine ⟨⟨vs, v, hq, hv⟩, fun y H2 ⟨N, z, e1, e2, e3, e4⟩ => ?_⟩
  have e5 := e4 vs hq
  rw [hv] at e5; cases e5
  subst e1 e3
  have st2 : Step S' H' S' (upd H' N (.tup [.int (i : Nat), v])) := Step.new e2
  rw [Nat.zero_add]
  exact ⟨st2, .tup (.inl ⟨hS'.free e2, .inl upd_same⟩) (.cons (.int _) (.cons (rv.step st2) .nil)), hS'.new e2⟩
theorem walk_zi {K : PySem.W.Frag} {S : Store} {H : Hp} {k1 k2 : Bool} {a b : Addr} {xs ys : List D} {G G' : Store → Prop} (sd : SeqD K cl S H k1 a xs G) (sd' : SeqD K cl S H k2 b ys G') :
    WalkD K cl S H (ZiI k1 k2 K a b) ((xs.zip ys).map fun p => .tup [p.1, p.2]) (fun S => G S ∧ G' S) := fun S' H' st hS' g => by
  obtain ⟨vs, hq, rs⟩ := sd S' H' st hS' g.1
  obtain ⟨ws, hq', rs'⟩ := sd' S' H' st hS' g.2
  refine ⟨⟨vs, ws, hq, hq', by rw [List.length_map, List.length_zip, rs.length, rs'.length]⟩, fun i d e => ?_⟩
  rw [List.getElem?_map] at e
  cases e1 : (xs.zip ys)[i]? with
  | none => rw [e1] at e; cases e
  | some p =>
    rw [e1] at e; cases e
    obtain ⟨h1, h2⟩ := List.getElem?_zip_eq_some.mp e1
    obtain ⟨v, hv, rv⟩ := rs.get h1
    obtain ⟨u, hu, ru⟩ := rs'.get h2
    refine ⟨⟨vs, ws, v, u, hq, hq', hv, hu⟩, fun y H2 ⟨N, z, z', f1, f2, f3, f4, f5⟩ => ?_⟩
    have g1 := f4 vs hq
    rw [hv] at g1; cases g1
    have g2 := f5 ws hq'
    rw [hu] at g2; cases g2
    subst f1 f3
    have st2 : Step S' H' S' (upd H' N (.tup [v, u])) := Step.new f2
    exact ⟨st2, .tup (.inl ⟨hS'.free f2, .inl upd_same⟩) (.cons (rv.step st2) (.cons (ru.step st2) .nil)), hS'.new f2⟩
theorem tup_of {e : Expr} (h : isTupE e = true) : ∃ es k p, e = .Tuple es k p := by
  unfold isTupE at h
  split at h
  · exact ⟨_, _, _, rfl⟩
  · cases h
theorem s_ienum (a : CE) (ia : SE T Γ cl xc a) : SI T Γ cl xc (.enum a) := fun X W tg e g h => by
  unfold chkI at h
  split at h
  · rename_i x p0 y p
    simp only [Bool.and_eq_true, decide_eq_true_eq] at h
    obtain ⟨⟨⟨⟨h1, h2⟩, h3⟩, h4⟩, h5⟩ := h
    subst h1
    obtain ⟨es, k, tp, rfl⟩ := tup_of h5
    have hm : X.mg "enumerate" = none := g.blt _ (by simp [bltNames])
    have hs := star_cons (es := []) (env := X.env) h4
    refine (pi_en (gl_of h2) hm (pa_cons (ia X W _ g h3).1 pa_nil hs) hs).weak fun σ H Q ⟨ρ, S, E, R, i, w, an⟩ => ⟨ρ, S, E, _, i, w, fun d S1 v H1 q s1 r1 k1 => ?_⟩
    obtain ⟨kd, b, xs, G, e1, ⟨ys, e2⟩, e3, e4⟩ := srcQ_seq r1 k1 q
    exact ⟨kd, b, ys, by rw [e1], e2, an _ G S1 _ H1 e3 s1 k1 (walk_en e4)⟩
  · cases h
theorem s_izip (a b : CE) (ia : SE T Γ cl xc a) (ib : SE T Γ cl xc b) : SI T Γ cl xc (.zip a b) := fun X W tg e g h => by
  unfold chkI at h
  split at h
  · rename_i x p0 y z p
    simp only [Bool.and_eq_true, decide_eq_true_eq] at h
    obtain ⟨⟨⟨⟨⟨⟨h1, h2⟩, h3⟩, h4⟩, h5⟩, h6⟩, h7⟩ := h
    subst h1
    obtain ⟨es, k, tp, rfl⟩ := tup_of h7
    have hm : X.mg "zip" = none := g.blt _ (by simp [bltNames])
    have hs2 := star_cons (es := []) (env := X.env) h6
    have hs1 := star_cons (es := [z]) (env := X.env) h4
    refine (pi_zi (gl_of h2) hm (pa_cons (ia X W _ g h3).1 (pa_cons (ib X W _ g h5).1 pa_nil hs2) hs1) (by rw [hs1]) (by rw [hs2]; rfl)).weak fun σ H Q ⟨ρ, S, E, R, i, w, an⟩ => ⟨ρ, S, E, _, i, w, fun d S1 v H1 q s1 r1 k1 => ⟨ρ, S1, E, _, i.step s1 k1, q, fun d2 S2 v2 H2 q2 s2 r2 k2 => ?_⟩⟩
    obtain ⟨kd, a1, xs, G, e1, ⟨us, e2⟩, e3, e4⟩ := srcQ_seq (r1.step s2) k2 q2
    obtain ⟨kd', a2, ys, G', f1, ⟨us', f2⟩, f3, f4⟩ := srcQ_seq r2 k2 e3
    exact ⟨kd, kd', a1, a2, us, us', by rw [e1, f1], e2, f2, an _ _ S2 _ H2 f3 (s1.trans s2) k2 (walk_zi e4 f4)⟩
  · cases h
theorem s_iev (c : CE) (ic : SE T Γ cl xc c) : SI T Γ cl xc (.ev c) := fun X W tg e g h => by
  have h : chkE T X.env.scope c e = true := by simpa [chkI] using h
  refine (pi_seq (ic X W e g h).1).weak fun σ H Q ⟨ρ, S, E, R, i, w, an⟩ => ⟨ρ, S, E, _, i, w, fun d S1 v H1 q s1 r1 k1 => ?_⟩
  rcases walk_seq r1 k1 q with ⟨a, xs, G, e1, e2, e3, e4⟩ | ⟨a, xs, G, e1, e2, e3, e4⟩ | ⟨z, xs, G, e1, e3, e4⟩
  · exact .inl ⟨a, e1, e2, an xs G S1 _ H1 e3 s1 k1 e4⟩
  · exact .inr (.inl ⟨a, e1, e2, an xs G S1 _ H1 e3 s1 k1 e4⟩)
  · exact .inr (.inr ⟨z, e1, an xs G S1 _ H1 e3 s1 k1 e4⟩)
theorem s_irange1 (a : CE) (ia : SE T Γ cl xc a) : SI T Γ cl xc (.range1 a) := fun X W tg e g h => by
  unfold chkI at h
  split at h
  · rename_i x p0 y p
    simp only [Bool.and_eq_true, decide_eq_true_eq] at h
    obtain ⟨⟨⟨h1, h2⟩, h3⟩, h4⟩ := h
    subst h1
    have hm : X.mg "range" = none := g.blt _ (by simp [bltNames])
    have hs := star_cons (es := []) (env := X.env) h4
    refine (pi_range1 (gl_of h2) hm (pa_cons (ia X W _ g h3).1 pa_nil hs) hs).weak fun σ H Q ⟨ρ, S, E, R, i, w, an⟩ => ⟨ρ, S, E, _, i, w, fun d S1 v H1 q s1 r1 k1 => ?_⟩
    cases d with
    | int j =>
      obtain ⟨q1, q2, q3⟩ := q
      cases r1
      exact ⟨j, rfl, q1, q2, an _ _ S1 _ H1 q3 s1 k1 (walk_rng 0 _)⟩
    | _ => exact (show False from q).elim
  · cases h
theorem s_irange2 (a b : CE) (ia : SE T Γ cl xc a) (ib : SE T Γ cl xc b) : SI T Γ cl xc (.range2 a b) := fun X W tg e g h => by
  unfold chkI at h
  split at h
  · rename_i x p0 y z p
    simp only [Bool.and_eq_true, decide_eq_true_eq] at h
    obtain ⟨⟨⟨⟨⟨h1, h2⟩, h3⟩, h4⟩, h5⟩, h6⟩ := h
    subst h1
    have hm : X.mg "range" = none := g.blt _ (by simp [bltNames])
    have hs2 := star_cons (es := []) (env := X.env) h6
    have hs1 := star_cons (es := [z]) (env := X.env) h4
    refine (pi_range2 (gl_of h2) hm (pa_cons (ia X W _ g h3).1 (pa_cons (ib X W _ g h5).1 pa_nil hs2) hs1) (by rw [hs1, hs2]; rfl) (by rw [hs2]; rfl)).weak fun σ H Q ⟨ρ, S, E, R, i, w, an⟩ => ⟨ρ, S, E, _, i, w, fun d S1 v H1 q s1 r1 k1 => ⟨ρ, S1, E, _, i.step s1 k1, q, fun d2 S2 v2 H2 q2 s2 r2 k2 => ?_⟩⟩
    cases d with
    | int j =>
      cases d2 with
      | int j2 =>
        obtain ⟨q1, q3⟩ := q2
        cases r1; cases r2
        exact ⟨j, j2, rfl, q1, an _ _ S2 _ H2 q3 (s1.trans s2) k2 (walk_rng _ _)⟩
      | _ => exact (show False from q2).elim
    | _ => exact (show False from q2).elim
  · cases h
end
end XC
end

section
set_option Elab.async false
set_option linter.all false
set_option maxRecDepth 100000
set_option maxHeartbeats 8000000
namespace XC
open PySem PySem.Spec PyProof.Rows L2
section
variable {T : Tab} {Γ : Ctx} {cl : Nat → Addr} {xc : Nat → Value × Option Str}
theorem key_rep {K : PySem.W.Frag} {S : Store} {H : Hp} {v : V} {d : D} {k : Sum Int Str} (r : Rep K S H v d) (h : keyD d = some k) : v = kV k := by
  cases r <;> simp [keyD] at h <;> subst h <;> rfl
theorem val_rep {κ : Type} [DecidableEq κ] {K : PySem.W.Frag} {S : Store} {H : Hp} (k : κ) : ∀ {kvs : List (κ × V)} {ds : List (κ × D)}, kvs.map (·.1) = ds.map (·.1) → Reps K S H (kvs.map (·.2)) (ds.map (·.2)) →
    (valV kvs k = none ∧ valD ds k = none) ∨ ∃ v d, valV kvs k = some v ∧ valD ds k = some d ∧ Rep K S H v d
  | [], [], _, _ => .inl ⟨rfl, rfl⟩
  | [], _ :: _, e, _ => by simp at e
  | _ :: _, [], e, _ => by simp at e
  | (k1, v) :: kvs, (k2, d) :: ds, e, r => by
    simp only [List.map_cons, List.cons.injEq] at e
    obtain ⟨e1, e2⟩ := e
    subst e1
    cases r with
    | cons r1 rs =>
      by_cases h : k1 = k
      · refine .inr ⟨v, d, ?_, ?_, r1⟩
        · exact valV_pos (p := (k1, v)) h
        · simp [valD, List.find?_cons, h]
      · have a1 : valV ((k1, v) :: kvs) k = valV kvs k := valV_neg (p := (k1, v)) h
        have a2 : valD ((k1, d) :: ds) k = valD ds k := by simp [valD, List.find?_cons, h]
        rw [a1, a2]
        exact val_rep k e2 rs
theorem any_rep {κ : Type} [DecidableEq κ] (k : κ) : ∀ {kvs : List (κ × V)} {ds : List (κ × D)}, kvs.map (·.1) = ds.map (·.1) → (kvs.any fun kv => decide (kv.1 = k)) = (ds.any fun kv => decide (kv.1 = k)) := by
  intro kvs ds e
  have h1 : (kvs.any fun kv => decide (kv.1 = k)) = (kvs.map (·.1)).any fun x => decide (x = k) := by rw [List.any_map]; rfl
  have h2 : (ds.any fun kv => decide (kv.1 = k)) = (ds.map (·.1)).any fun x => decide (x = k) := by rw [List.any_map]; rfl
  rw [h1, h2, e]
theorem put_rep {κ : Type} [DecidableEq κ] {K : PySem.W.Frag} {S : Store} {H : Hp} {v : V} {d : D} (k : κ) (r : Rep K S H v d) {kvs : List (κ × V)} {ds : List (κ × D)} (e : kvs.map (·.1) = ds.map (·.1)) (rs : Reps K S H (kvs.map (·.2)) (ds.map (·.2))) :
    (putK kvs k v).map (·.1) = (putD ds k d).map (·.1) ∧ Reps K S H ((putK kvs k v).map (·.2)) ((putD ds k d).map (·.2)) := by
  unfold putK putD
  rw [any_rep k e]
  by_cases h : (ds.any fun kv => decide (kv.1 = k)) = true
  · rw [if_pos h, if_pos h]
    clear h
    induction kvs generalizing ds with
    | nil =>
      cases ds with
      | nil => exact ⟨rfl, .nil⟩
      | cons _ _ => simp at e
    | cons p kvs ih =>
      cases ds with
      | nil => simp at e
      | cons q ds =>
        simp only [List.map_cons, List.cons.injEq] at e
        cases rs with
        | cons r1 rs =>
          obtain ⟨a1, a2⟩ := ih e.2 rs
          simp only [List.map_cons]
          refine ⟨?_, ?_⟩
          · rw [a1]
            congr 1
            by_cases hk : p.1 = k
            · rw [if_pos hk, if_pos (e.1 ▸ hk)]; exact e.1
            · rw [if_neg hk, if_neg (e.1 ▸ hk)]; exact e.1
          · refine .cons ?_ a2
            by_cases hk : p.1 = k
            · rw [if_pos hk, if_pos (e.1 ▸ hk)]; exact r
            · rw [if_neg hk, if_neg (e.1 ▸ hk)]; exact r1
  · rw [if_neg h, if_neg h]
    rw [List.map_append, List.map_append, List.map_append, List.map_append, e]
    exact ⟨rfl, rs.append (.cons r .nil)⟩
theorem kt_rep {K : PySem.W.Frag} {S : Store} {H : Hp} {v : V} {d : D} {ks : List (Sum Int Str)} (hS : RepS K H cl S) (r : Rep K S H v d) (h : ktAt S d = some ks) : ∃ b, v = .ref b ∧ H b = some (.tup (ks.map kV)) := by
  unfold ktAt at h
  split at h
  · split at h
    · rename_i e
      cases h
      cases r
      cases hS _ _ e with
      | kt z => exact ⟨_, rfl, z⟩
    · cases h
  · cases h
theorem s_dnew : SE T Γ cl xc .dnew := fun X W e g h => by
  unfold chkE at h
  split at h
  · rename_i p
    have hpe := (pe_dnewK (X := X) (pos := p)).weak (t' := rdE X.K cl xc W Γ .dnew) fun σ H Q ⟨ρ, S, E, R, i, w, an⟩ => fun q hq => by
      have w : ∀ p, S p = none → R (.loc p) (put S p (.dic [])) := w
      have f : S q = none := i.st.free hq
      exact an _ _ (.ref q) _ (w q f) (Step.newT hq) (.loc q) (i.st.newT hq (.dic upd_same rfl .nil))
    exact ⟨hpe, pt_of hpe fun _ => rfl⟩
  · cases h
theorem s_dnewT : SE T Γ cl xc .dnewT := fun X W e g h => by
  unfold chkE at h
  split at h
  · rename_i p
    have hpe := (pe_dnewT (X := X) (pos := p)).weak (t' := rdE X.K cl xc W Γ .dnewT) fun σ H Q ⟨ρ, S, E, R, i, w, an⟩ => fun q hq => by
      have w : ∀ p, S p = none → R (.loc p) (put S p (.dct [])) := w
      have f : S q = none := i.st.free hq
      exact an _ _ (.ref q) _ (w q f) (Step.newT hq) (.loc q) (i.st.newT hq (.dct upd_same rfl .nil))
    exact ⟨hpe, pt_of hpe fun _ => rfl⟩
  · cases h
theorem keys_rep {K : PySem.W.Frag} {S : Store} {H : Hp} : ∀ {vs : List V} {ds : List D} {ks : List (Sum Int Str)}, Reps K S H vs ds → keysD ds = some ks → vs = ks.map kV
  | _, _, ks, .nil, e => by cases e; rfl
  | _, _, ks, .cons (d := d) (ds := ds) r rs, e => by
    unfold keysD at e
    cases e1 : keyD d with
    | none => rw [e1] at e; cases e
    | some k =>
      cases e2 : keysD ds with
      | none => rw [e1, e2] at e; cases e
      | some ks' =>
        rw [e1, e2] at e
        cases e
        rw [List.map_cons, key_rep r e1, keys_rep rs e2]
theorem s_tupK (es : CEs) (ies : SEs T Γ cl xc es) : SE T Γ cl xc (.tupK es) := fun X W e g h => by
  unfold chkE at h
  split at h
  · rename_i xs c p
    have hpe := (pe_tup (ies X W _ g h).1 (x1 := c) (pos := p)).weak (t' := rdE X.K cl xc W Γ (.tupK es)) fun σ H Q ⟨ρ, S, E, R, i, w, an⟩ =>
      ⟨ρ, S, E, _, i, w, fun ds S1 vs H1 q s1 rs k1 => by
        replace q : (match keysD ds with | some ks => ds.length ≤ sizeL ∧ ∀ p, S1 p = none → R (.loc p) (put S1 p (.kt ks)) | none => False) := q
        cases ek : keysD ds with
        | none => rw [ek] at q; exact q.elim
        | some ks =>
          rw [ek] at q
          refine ⟨by rw [← sizeL_eq, rs.length]; exact q.1, fun p hp => ?_⟩
          have f : S1 p = none := k1.free hp
          have ev := keys_rep rs ek
          subst ev
          exact an _ _ (.ref p) _ (q.2 p f) (s1.trans (Step.newT hp)) (.loc p) (k1.newT hp (.kt upd_same))⟩
    exact ⟨hpe, pt_of hpe fun _ => rfl⟩
  · cases h
theorem strs_rep {K : PySem.W.Frag} {S : Store} {H : Hp} : ∀ {vs : List V} {ds : List D} {ys : List Str}, Reps K S H vs ds → strsD ds = some ys → vs = ys.map V.str
  | _, _, ys, .nil, e => by cases e; rfl
  | _, d :: ds, ys, .cons r rs, e => by
    cases r <;> try (cases e; done)
    rename_i x
    have e : (strsD ds).map (x :: ·) = some ys := e
    cases q : strsD ds with
    | none => rw [q] at e; cases e
    | some zs =>
      rw [q] at e
      cases e
      rw [List.map_cons, strs_rep rs q]
theorem s_join (a b : CE) (ia : SE T Γ cl xc a) (ib : SE T Γ cl xc b) : SE T Γ cl xc (.join a b) := fun X W e g h => by
  unfold chkE at h
  split at h
  · rename_i y name apos f cpos
    simp only [Bool.and_eq_true, decide_eq_true_eq] at h
    obtain ⟨⟨⟨⟨⟨h1, h2⟩, h3⟩, h4⟩, h5⟩, h6⟩ := h
    subst h1
    have hs : starEach [f] X.env = [(false, eval f X.env)] := by rw [star_cons h4]; rfl
    have hpe := (pe_m1 PySem.F.slot_str_join PySem.F.type_str_join mt_join (ia X W _ g h2).1 (ib X W _ g h3).1 hs (base_plain h5) (by rw [h6]; exact beq_self_eq_true _)).weak (t' := rdE X.K cl xc W Γ (.join a b)) fun σ H Q ⟨ρ, S, E, R, i, w, an⟩ =>
      ⟨ρ, S, E, _, i, w, fun x S1 v H1 ⟨qs, q⟩ s1 r1 k1 => by
        have hx : ∃ z, x = .str z ∧ v = .str z := by
          cases r1 <;> first | exact ⟨_, rfl, rfl⟩ | (simp [isStrD] at qs)
        obtain ⟨z, rfl, rfl⟩ := hx
        refine ⟨⟨_, rfl⟩, ρ, S1, E, _, i.step s1 k1, q, fun y S2 vy H2 q2 s2 r2 k2 => ?_⟩
        have q2 : joinW (.str z) y (fun r => R r S2) := q2
        show ∃ a p ys, V.str z = V.str a ∧ [vy] = [V.ref p] ∧ _ ∧ _ ∧ _
        cases r2 with
        | @vls a vs xs h2 rs =>
          have q2 : (match strsD xs with
            | some ys => (ys.map (·.length)).sum + ys.length * z.length ≤ 1000000 ∧ R (.str (Str.join z ys)) S2
            | none => False) := q2
          cases e : strsD xs with
          | none => rw [e] at q2; exact q2.elim
          | some ys =>
            rw [e] at q2
            have ev := strs_rep rs e
            subst ev
            refine ⟨_, _, ys, rfl, rfl, .inl h2.sq, by have := q2.1; omega, ?_⟩
            rw [show PySem.Txt.join z ys = Str.join z ys from PySem.StrLaws.glued_eq_join z ys]
            exact an _ _ _ _ q2.2 (s1.trans s2) (.str _) k2
        | _ => exact q2.elim⟩
    exact ⟨hpe, pt_of hpe fun _ => rfl⟩
  · cases h
theorem s_find (a b : CE) (ia : SE T Γ cl xc a) (ib : SE T Γ cl xc b) : SE T Γ cl xc (.find a b) := fun X W e g h => by
  unfold chkE at h
  split at h
  · rename_i y name apos f cpos
    simp only [Bool.and_eq_true, decide_eq_true_eq] at h
    obtain ⟨⟨⟨⟨⟨h1, h2⟩, h3⟩, h4⟩, h5⟩, h6⟩ := h
    subst h1
    have hs : starEach [f] X.env = [(false, eval f X.env)] := by rw [star_cons h4]; rfl
    have hpe := (pe_m1 PySem.F.slot_str_find PySem.F.type_str_find mt_find (ia X W _ g h2).1 (ib X W _ g h3).1 hs (base_plain h5) (by rw [h6]; exact beq_self_eq_true _)).weak (t' := rdE X.K cl xc W Γ (.find a b)) fun σ H Q ⟨ρ, S, E, R, i, w, an⟩ =>
      ⟨ρ, S, E, _, i, w, fun x S1 v H1 ⟨qs, q⟩ s1 r1 k1 => by
        have hx : ∃ z, x = .str z ∧ v = .str z := by
          cases r1 <;> first | exact ⟨_, rfl, rfl⟩ | (simp [isStrD] at qs)
        obtain ⟨z, rfl, rfl⟩ := hx
        refine ⟨⟨_, rfl⟩, ρ, S1, E, _, i.step s1 k1, q, fun y S2 vy H2 q2 s2 r2 k2 => ?_⟩
        have q2 : findW (.str z) y (fun r => R r S2) := q2
        cases r2 with
        | str u =>
          have q2 : (match u.cps.toList with
            | [c] => R (.int (findC z c)) S2
            | _ => False) := q2
          split at q2
          · rename_i c hc
            have hu : u = ⟨#[c]⟩ := by
              obtain ⟨⟨l⟩⟩ := u
              have hc : l = [c] := hc
              rw [hc]
            refine ⟨z, u, rfl, rfl, ?_⟩
            rw [hu, find_one]
            exact an _ _ _ _ q2 (s1.trans s2) (.int _) k2
          · exact q2.elim
        | _ => exact q2.elim⟩
    exact ⟨hpe, pt_of hpe fun _ => rfl⟩
  · cases h
theorem rg_reps {K : PySem.W.Frag} {S : Store} {H : Hp} (n : Int) : Reps K S H (rgV 0 n) (rngD 0 n.toNat) := by
  unfold rgV rngD
  rw [show (n - 0).toNat = n.toNat by simp]
  generalize List.range n.toNat = l
  induction l with
  | nil => exact .nil
  | cons j r ih => exact .cons (.int _) ih
theorem s_lrng (m : Bool) (a : CE) (ia : SE T Γ cl xc a) : SE T Γ cl xc (.lrng m a) := fun X W e g h => by
  unfold chkE at h
  split at h
  · rename_i x p1 x2 p2 y p3 p4
    simp only [Bool.and_eq_true, decide_eq_true_eq] at h
    obtain ⟨⟨⟨⟨⟨h1, h2⟩, h3⟩, h4⟩, h5⟩, h6⟩ := h
    subst h1 h3
    have hs : starEach [y] X.env = (false, eval y X.env) :: starEach [] X.env := star_cons h6
    have hpe := (pe_listRg (p := p1) (pos := p4) g.calm (gl_of h2) (g.blt _ (by simp [bltNames])) (prg_1 (p := p2) (pos := p3) (gl_of h4) (g.blt _ (by simp [bltNames])) (ia X W _ g h5).1 hs)).weak (t' := rdE X.K cl xc W Γ (.lrng m a)) fun σ H Q ⟨ρ, S, E, R, i, w, an⟩ =>
      ⟨ρ, S, E, _, i, w, fun x S1 v H1 q s1 r1 k1 => by
        have q : lrngW m x S1 R := q
        cases r1 with
        | int n =>
          obtain ⟨⟨n0, n1⟩, q⟩ := q
          exact ⟨n, rfl, ⟨by omega, by omega, by omega, by omega, by omega⟩, fun p hp => (an.from s1).newL k1 hp (rg_reps n) q⟩
        | _ => exact q.elim⟩
    exact ⟨hpe, pt_of hpe fun _ => rfl⟩
  · cases h
theorem s_dget (o k d : CE) (io : SE T Γ cl xc o) (ik : SE T Γ cl xc k) (id : SE T Γ cl xc d) : SE T Γ cl xc (.dget o k d) := fun X W e g h => by
  unfold chkE at h
  split at h
  · rename_i y name apos f f2 cpos
    simp only [Bool.and_eq_true, decide_eq_true_eq] at h
    obtain ⟨⟨⟨⟨⟨⟨⟨h1, h2⟩, h3⟩, h4⟩, h5⟩, h6⟩, h7⟩, h8⟩ := h
    subst h1
    have hs : starEach [f, f2] X.env = [(false, eval f X.env), (false, eval f2 X.env)] := by
      rw [star_cons h5, star_cons h6]; rfl
    have m2 : M2 X y "get" apos f f2 cpos := ⟨base_plain h7, by rw [hs]; rfl, by rw [h8]; exact beq_self_eq_true _, by rw [hs]; rfl⟩
    have hpe := (pe_dget2 (by have := g.un; omega) (io X W _ g h2).1 (ik X W _ g h3).1 (id X W _ g h4).1 m2).weak (t' := rdE X.K cl xc W Γ (.dget o k d)) fun σ H Q ⟨ρ, S, E, R, i, w, an⟩ =>
      ⟨ρ, S, E, _, i, w, fun x S1 v H1 ⟨q0, q⟩ s1 r1 k1 => by
        have isd : ∃ a, v = .ref a ∧ x = .loc a ∧ IsD H1 a := by
          unfold dicAt at q0
          split at q0
          · split at q0
            · rename_i kvs e2
              cases r1
              cases k1 _ _ e2 with
              | dic z ek rs => exact ⟨_, rfl, rfl, .inl ⟨_, .inl z⟩⟩
            · rename_i kvs e2
              cases r1
              cases k1 _ _ e2 with
              | dct z ek rs => exact ⟨_, rfl, rfl, .inr ⟨_, .inl z⟩⟩
            · exact q0.elim
          · exact q0.elim
        obtain ⟨a, rfl, rfl, hd⟩ := isd
        refine ⟨a, rfl, hd, ρ, S1, E, _, i.step s1 k1, q, fun dy S2 vy H2 q2 s2 r2 k2 => ⟨ρ, S2, E, _, (i.step s1 k1).step s2 k2, q2, fun dz S3 vz H3 q3 s3 r3 k3 => ?_⟩⟩
        have st := s1.trans (s2.trans s3)
        have r2' := r2.step s3
        have q3 : dgetW S3 (.loc a) dy dz (fun r => R r S3) := q3
        unfold dgetW at q3
        simp only at q3
        split at q3
        · rename_i kvs' e3
          cases k3 _ _ e3 with
          | dic z3 ek3 rs3 =>
            cases hx : keyD dy with
            | none => rw [hx] at q3; exact q3.elim
            | some k' =>
              rw [hx] at q3
              have hkv := key_rep r2 hx
              subst hkv
              refine ⟨_, DGet.k z3, ?_⟩
              rcases val_rep k' ek3 rs3 with ⟨v1, v2⟩ | ⟨v, d, v1, v2, rv⟩
              · rw [v1]
                simp only [v2] at q3
                exact an _ _ _ _ q3 st r3 k3
              · rw [v1]
                simp only [v2] at q3
                exact an _ _ _ _ q3 st rv k3
        · rename_i kvs' e3
          cases k3 _ _ e3 with
          | dct z3 ek3 rs3 =>
            cases hx : ktAt S3 dy with
            | none => rw [hx] at q3; exact q3.elim
            | some k' =>
              rw [hx] at q3
              obtain ⟨b, rfl, hb⟩ := kt_rep k3 r2' hx
              refine ⟨_, DGet.t z3 hb, ?_⟩
              rcases val_rep k' ek3 rs3 with ⟨v1, v2⟩ | ⟨v, d, v1, v2, rv⟩
              · rw [v1]
                simp only [v2] at q3
                exact an _ _ _ _ q3 st r3 k3
              · rw [v1]
                simp only [v2] at q3
                exact an _ _ _ _ q3 st rv k3
        · exact q3.elim⟩
    exact ⟨hpe, pt_of hpe fun _ => rfl⟩
  · cases h
end
end XC
end

section
set_option Elab.async false
set_option linter.all false
set_option maxRecDepth 100000
set_option maxHeartbeats 8000000
namespace XC
open PySem PySem.Spec PyProof.Rows L2
section
variable {T : Tab} {Γ : Ctx} {cl : Nat → Addr} {xc : Nat → Value × Option Str}
theorem wipe_in {σ : L2.St} {i : Nat} : ∀ {vs : List Nat}, i ∈ vs → i < σ.length → (L2.wipe σ vs)[i]? = some none
  | v :: vs, h, hl => by
    unfold L2.wipe
    by_cases e : v = i
    · subst e
      exact List.getElem?_set_self (by rw [L2.wipe_length]; exact hl)
    · rw [List.getElem?_set_ne e]
      exact wipe_in ((List.mem_cons.mp h).elim (fun z => absurd z.symm e) id) hl
theorem wipe_keep {σ σ' : L2.St} {L vs : List Nat} (k : Keep L (L2.wipe σ vs) σ') (h : ∀ j, j ∈ L → j ∈ vs) : L2.wipe σ' vs = L2.wipe σ vs := by
  have hl : σ'.length = σ.length := by rw [k.1, L2.wipe_length]
  refine List.ext_getElem? fun j => ?_
  by_cases hj : j ∈ vs
  · by_cases hb : j < σ.length
    · rw [wipe_in hj (by omega), wipe_in hj hb]
    · rw [List.getElem?_eq_none (by rw [L2.wipe_length]; omega), List.getElem?_eq_none (by rw [L2.wipe_length]; omega)]
  · rw [L2.wipe_out hj, k.2 j fun z => hj (h j z)]
theorem own_map (N : List Str) (own : List Nat) : (ownP N own).map (·.2) = own := by
  unfold ownP
  rw [List.map_map]
  induction own with
  | nil => rfl
  | cons i r ih => rw [List.map_cons, ih]; rfl
theorem s_comp_core {X : Cx} {W : WX} (g : Good X T Γ cl xc W) {m : Bool} {own : List Nat} {t : CT} {it : CI} {c : CO} {elt : CE} (hsl : ∀ j, j ∈ slotsT t → j ∈ own) (hnd : own.Nodup) {σ : L2.St} {H : Hp} {Q : VK}
    (h : rdE X.K cl xc W Γ (.comp m own t it c elt) σ H Q) :
    tLc (rdI X.K cl xc W Γ it) (rdG X.K cl xc (fun _ _ _ _ => False) Γ t) (rdC X.K cl xc (fun _ _ _ _ => False) Γ c) (rdE X.K cl xc (fun _ _ _ _ => False) Γ elt) own σ H Q := by
  obtain ⟨ρ, S, E, R, i, w, an⟩ := h
  have noX : ∀ {σ : L2.St} {S : Store} {H : Hp}, ExOk X.K cl xc (fun _ _ _ _ => False) σ (fun _ _ => False) S H := fun _ _ _ _ _ z => z.elim
  refine ⟨ρ, S, E, _, i, w, fun xs G S1 J H1 q s1 k1 wd => fun D hD => ?_⟩
  have f1 : S1 D = none := k1.free hD
  have q0 := q D f1
  have st0 : Step S1 H1 (put S1 D (.lst [])) (upd H1 D (.lst [])) := Step.newT hD
  let Wt : Nat → Hp → Prop := fun n H' => ∃ S' acc, S' D = some (.lst acc) ∧ RepS X.K H' cl S' ∧ Step S1 H1 S' H' ∧
    compW G D (XC.wipe ρ own) (wpT Γ (fun _ _ => False) t) (wpC Γ (fun _ _ => False) c) (wpE Γ (fun _ _ => False) elt) (xs.drop n) acc S' (compEnd m D R)
  refine ⟨fun n m' H' => m' = xs.length - n ∧ n ≤ xs.length ∧ Wt n H', ⟨xs.length, by simp, Nat.zero_le _, _, _, put_same, k1.newT hD (.lst upd_same .nil), st0, q0⟩, ?_⟩
  rintro n m' H' ⟨rfl, hn, S', acc, hSD, hk, st, hc⟩
  have hG : G S' := by
    cases hx : xs.drop n with
    | nil => rw [hx] at hc; exact hc.1
    | cons d r => rw [hx] at hc; exact hc.1
  obtain ⟨w1, w2⟩ := wd S' H' st hk hG
  by_cases hlt : n < xs.length
  · have hd : xs.drop n = xs[n] :: xs.drop (n + 1) := List.drop_eq_getElem_cons hlt
    rw [hd] at hc
    obtain ⟨_, hc⟩ := hc
    obtain ⟨go, yl⟩ := w2 n xs[n] (by simp [hlt])
    refine .inr ⟨go, Wt (n + 1), fun H'' hw => ⟨xs.length - (n + 1), by omega, rfl, hlt, hw⟩, fun x H2 hy => ?_⟩
    obtain ⟨s2, rx, k2⟩ := yl x H2 hy
    have en : EnvR X.K S' H2 (L2.wipe σ own) (XC.wipe ρ own) := wipe_eq ((i.env.step (s1.trans st)).step s2) hnd
    refine ⟨XC.wipe ρ own, S', fun _ _ => False, _, xs[n], ⟨en, k2, noX⟩, fun _ => noX, rx, hc, fun ρ3 S3 σ3 H3 w3 s3 e3 k3 p3 => ⟨wipe_keep p3 hsl, ρ3, S3, fun _ _ => False, _, ⟨e3, k3, noX⟩, w3, fun b S4 H4 w4 s4 k4 => ?_⟩⟩
    have st4 : Step S1 H1 S4 H4 := st.trans (s2.trans (s3.trans s4))
    cases b with
    | true =>
      rw [if_pos rfl] at w4
      refine iteT ⟨ρ3, S4, fun _ _ => False, _, ⟨e3.step s4, k4, noX⟩, w4, fun y S5 v H5 ⟨w5, w6, w7⟩ s5 r5 k5 => ?_⟩
      cases hx : k5 D _ w5 with
      | @lst vs _ z rs =>
        have s6 : Step S5 H5 (put S5 D (.lst (acc ++ [y]))) (upd H5 D (.lst (vs ++ [v]))) := Step.write w5
        refine ⟨vs, z, by rw [← sizeL_eq, rs.length]; exact w6, put S5 D (.lst (acc ++ [y])), acc ++ [y], put_same, k5.write w5 (.lst upd_same ((rs.append (.cons r5 .nil)).step s6)), st4.trans (s5.trans s6), w7⟩
    | false =>
      rw [if_neg Bool.false_ne_true] at w4
      exact iteF ⟨S4, acc, w4.1, k4, st4, w4.2⟩
  · have e : n = xs.length := by omega
    subst e
    refine .inl ⟨w1, ?_⟩
    rw [List.drop_length] at hc
    obtain ⟨_, hc⟩ := hc
    unfold compEnd at hc
    cases m with
    | true =>
      rw [if_pos rfl] at hc
      exact an _ S' _ H' hc (s1.trans st) (.loc D) hk
    | false =>
      rw [if_neg Bool.false_ne_true] at hc
      cases hx : hk D _ hSD with
      | @lst vs _ z rs =>
        have sb : Sub (rem S' D) S' := fun a o e => by
          unfold rem at e
          split at e
          · cases e
          · exact e
        exact an _ (rem S' D) _ H' hc ((s1.trans st).sub sb) (.vls ⟨by unfold rem; rw [if_pos rfl], z⟩ (rs.sub sb)) (hk.sub sb)
/-- the parts of a comprehension -/
theorem s_comp_parts {X : Cx} {W : WX} (g : Good X T Γ cl xc W) {own : List Nat} {t : CT} {it : CI} {c : CO} {elt : CE} {el tg iter : Expr} {ifs : List Expr} {scope : Scope} (it' : ST T Γ cl xc t) (ic : SO T Γ cl xc c) (ie : SE T Γ cl xc elt)
    (h4 : chkT T (relS scope X.env.scope) (ownCell scope) t tg = true) (h5 : chkE T (relS scope X.env.scope) elt el = true)
    (h6 : (match ifs with | [] => noneO c | [q] => !noneO c && chkO T (relS scope X.env.scope) c (some q) | _ => false) = true) :
    (∀ (s : Shared) (H : Hp) (C : Addr) (cs : List (Str × Addr)) (fp : List Addr), PG (X.blk s H scope (compEnvC scope cs C X.env) fp) tg (rdG X.K cl xc (fun _ _ _ _ => False) Γ t)) ∧
    (∀ (s : Shared) (H : Hp) (C : Addr) (cs : List (Str × Addr)) (fp : List Addr), PTs (X.blk s H scope (compEnvC scope cs C X.env) fp) ifs (rdC X.K cl xc (fun _ _ _ _ => False) Γ c)) ∧
    (∀ (s : Shared) (H : Hp) (C : Addr) (cs : List (Str × Addr)) (fp : List Addr), PE (X.blk s H scope (compEnvC scope cs C X.env) fp) el (rdE X.K cl xc (fun _ _ _ _ => False) Γ elt)) := by
  refine ⟨fun s H C cs fp => ?_, fun s H C cs fp => ?_, fun s H C cs fp => ?_⟩
  · exact it' _ _ (ownCell scope) tg (g.blk s H scope C cs fp) (fun x z => z) h4
  · split at h6
    · cases c with
      | none => exact pts_nil.weak fun σ H Q ⟨ρ, S, E, R, i, w, an⟩ => an true S H w (Step.refl _ _) i.st
      | some _ => simp [noneO] at h6
    · rename_i q
      rw [Bool.and_eq_true] at h6
      exact pts_one ((ic _ _ (some q) (g.blk s H scope C cs fp) h6.2).2 q rfl)
    · cases h6
  · exact (ie _ _ el (g.blk s H scope C cs fp) h5).1
theorem s_comp (m : Bool) (own : List Nat) (t : CT) (it : CI) (c : CO) (elt : CE) (it' : ST T Γ cl xc t) (ii : SI T Γ cl xc it) (ic : SO T Γ cl xc c) (ie : SE T Γ cl xc elt) : SE T Γ cl xc (.comp m own t it c elt) := fun X W e g h => by
  unfold chkE at h
  split at h
  · rename_i el tg iter ifs a scope p
    simp only [Bool.and_eq_true, decide_eq_true_eq] at h
    obtain ⟨⟨⟨⟨⟨⟨⟨⟨h1, h2⟩, h3⟩, h3b⟩, h4⟩, h5⟩, h6⟩, h7⟩, h8⟩ := h
    subst h1
    obtain ⟨a1, a2, a3⟩ := s_comp_parts g (own := own) (it := it) (iter := iter) it' ic ie h6 h7 h8
    have hsl : ∀ j, j ∈ slotsT t → j ∈ own := fun j hj => by
      have := List.all_eq_true.mp h3b j hj
      simpa using this
    have hpe : PE X (.ListComp el [⟨tg, iter, ifs, 0⟩] scope p) (rdE X.K cl xc W Γ (.comp m own t it c elt)) :=
      (pe_lc g.calm g.nd (ii X W tg iter g h4) (by rw [g.N]; exact blkOk_by h2) a1 a2 a3 (set_plain h5)).weak fun σ H Q q => by
        rw [own_map]
        exact s_comp_core g hsl h3 q
    exact ⟨hpe, pt_of hpe fun _ => rfl⟩
  · cases h
theorem s_rpr (a : CE) (ia : SE T Γ cl xc a) : SE T Γ cl xc (.rpr a) := fun X W e g h => by
  unfold chkE at h
  split at h
  · rename_i x p0 y p
    simp only [Bool.and_eq_true, decide_eq_true_eq] at h
    obtain ⟨⟨⟨⟨h1, h2⟩, h3⟩, h4⟩, h5⟩ := h
    subst h1
    have hm : X.mg "repr" = none := g.blt _ (by simp [bltNames])
    have hs := star_cons (es := []) (env := X.env) h4
    have hpe : PE X (.Call (.Name "repr" p0) [y] [] p) (rdE X.K cl xc W Γ (.rpr a)) :=
      (pe_callB (call_rp (cl := cl) (g.gd h5) g.un) (gl_of h2) hm (by decide +kernel) (pa_cons (ia X W _ g h3).1 pa_nil hs) (by decide) (by decide) hs rfl).weak fun σ H Q ⟨ρ, S, E, R, i, w, an⟩ =>
        ⟨ρ, S, E, _, i, w, fun d S1 v H1 ⟨q1, q2, q3⟩ s1 r1 k1 => ⟨S1, v, d, R, rfl, k1, r1, q1, q2, by rw [← g.rp]; exact q3, an.from s1⟩⟩
    exact ⟨hpe, pt_of hpe fun _ => rfl⟩
  · cases h
theorem s_comp2_core {X : Cx} {W : WX} (g : Good X T Γ cl xc W) {m : Bool} {own own1 : List Nat} {t t1 : CT} {it it1 : CI} {c c1 : CO} {elt : CE} (hsl : ∀ j, j ∈ slotsT t → j ∈ own) (hsl1 : ∀ j, j ∈ slotsT t1 → j ∈ own1) (hnd : own.Nodup) (hnd1 : own1.Nodup) {σ : L2.St} {H : Hp} {Q : VK}
    (h : rdE X.K cl xc W Γ (.comp2 m own t it c own1 t1 it1 c1 elt) σ H Q) :
    tLc2 (rdI X.K cl xc W Γ it) (rdG X.K cl xc (fun _ _ _ _ => False) Γ t) (rdC X.K cl xc (fun _ _ _ _ => False) Γ c) (rdI X.K cl xc (fun _ _ _ _ => False) Γ it1) (rdG X.K cl xc (fun _ _ _ _ => False) Γ t1) (rdC X.K cl xc (fun _ _ _ _ => False) Γ c1)
      (rdE X.K cl xc (fun _ _ _ _ => False) Γ elt) own own1 σ H Q := by
  obtain ⟨ρ, S, E, R, i, w, an⟩ := h
  have noX : ∀ {σ : L2.St} {S : Store} {H : Hp}, ExOk X.K cl xc (fun _ _ _ _ => False) σ (fun _ _ => False) S H := fun _ _ _ _ _ z => z.elim
  refine ⟨ρ, S, E, _, i, w, fun xs G S1 J H1 q s1 k1 wd => fun D hD => ?_⟩
  have f1 : S1 D = none := k1.free hD
  have q0 := q D f1
  have st0 : Step S1 H1 (put S1 D (.lst [])) (upd H1 D (.lst [])) := Step.newT hD
  let inn : Env → Store → List XC.D → (List XC.D → Store → Prop) → Prop := fun ρ' S2 acc Kin => wpI Γ (fun _ _ => False) it1 ρ' S2 fun ys G1 S3 =>
        S3 D = some (.lst acc) ∧ compW G1 D (XC.wipe ρ' own1) (wpT Γ (fun _ _ => False) t1) (wpC Γ (fun _ _ => False) c1) (wpE Γ (fun _ _ => False) elt) ys acc S3 Kin
  let Wt : Nat → Hp → Prop := fun n H' => ∃ S' acc, S' D = some (.lst acc) ∧ RepS X.K H' cl S' ∧ Step S1 H1 S' H' ∧
    comp2W G D (XC.wipe ρ own) (wpT Γ (fun _ _ => False) t) (wpC Γ (fun _ _ => False) c) inn (xs.drop n) acc S' (compEnd m D R)
  refine ⟨fun n m' H' => m' = xs.length - n ∧ n ≤ xs.length ∧ Wt n H', ⟨xs.length, by simp, Nat.zero_le _, _, _, put_same, k1.newT hD (.lst upd_same .nil), st0, q0⟩, ?_⟩
  rintro n m' H' ⟨rfl, hn, S', acc, hSD, hk, st, hc⟩
  have hG : G S' := by
    cases hx : xs.drop n with
    | nil => rw [hx] at hc; exact hc.1
    | cons d r => rw [hx] at hc; exact hc.1
  obtain ⟨w1, w2⟩ := wd S' H' st hk hG
  by_cases hlt : n < xs.length
  · have hd : xs.drop n = xs[n] :: xs.drop (n + 1) := List.drop_eq_getElem_cons hlt
    rw [hd] at hc
    obtain ⟨_, hc⟩ := hc
    obtain ⟨go, yl⟩ := w2 n xs[n] (by simp [hlt])
    refine .inr ⟨go, Wt (n + 1), fun H'' hw => ⟨xs.length - (n + 1), by omega, rfl, hlt, hw⟩, fun x H2 hy => ?_⟩
    obtain ⟨s2, rx, k2⟩ := yl x H2 hy
    have en : EnvR X.K S' H2 (L2.wipe σ own) (XC.wipe ρ own) := wipe_eq ((i.env.step (s1.trans st)).step s2) hnd
    refine ⟨XC.wipe ρ own, S', fun _ _ => False, _, xs[n], ⟨en, k2, noX⟩, fun _ => noX, rx, hc, fun ρ3 S3 σ3 H3 w3 s3 e3 k3 p3 => ⟨wipe_keep p3 hsl, ρ3, S3, fun _ _ => False, _, ⟨e3, k3, noX⟩, w3, fun b S4 H4 w4 s4 k4 => ?_⟩⟩
    have st4 : Step S1 H1 S4 H4 := st.trans (s2.trans (s3.trans s4))
    have e4 : EnvR X.K S4 H4 σ3 ρ3 := e3.step s4
    cases b with
    | false =>
      rw [if_neg Bool.false_ne_true] at w4
      exact iteF ⟨S4, acc, w4.1, k4, st4, w4.2⟩
    | true =>
      rw [if_pos rfl] at w4
      refine iteT ⟨ρ3, S4, fun _ _ => False, _, ⟨e4, k4, noX⟩, w4, fun ys G1 S5 J1 H5 ⟨h5, w5⟩ s5 k5 wd1 => ?_⟩
      have st5 : Step S1 H1 S5 H5 := st4.trans s5
      have e5 : EnvR X.K S5 H5 σ3 ρ3 := e4.step s5
      let Kin : List XC.D → Store → Prop := fun acc' S3 => comp2W G D (XC.wipe ρ own) (wpT Γ (fun _ _ => False) t) (wpC Γ (fun _ _ => False) c) inn (xs.drop (n + 1)) acc' S3 (compEnd m D R)
      let Wi : Nat → Hp → Prop := fun k H' => ∃ S' acc, S' D = some (.lst acc) ∧ RepS X.K H' cl S' ∧ Step S5 H5 S' H' ∧
        compW G1 D (XC.wipe ρ3 own1) (wpT Γ (fun _ _ => False) t1) (wpC Γ (fun _ _ => False) c1) (wpE Γ (fun _ _ => False) elt) (ys.drop k) acc S' Kin
      refine ⟨fun k m' H' => m' = ys.length - k ∧ k ≤ ys.length ∧ Wi k H', ⟨ys.length, by simp, Nat.zero_le _, S5, acc, h5, k5, Step.refl _ _, w5⟩, ?_⟩
      rintro k m' H6 ⟨rfl, hk2, S6, acc6, h6, k6, st6, c6⟩
      have hG1 : G1 S6 := by
        cases hx : ys.drop k with
        | nil => rw [hx] at c6; exact c6.1
        | cons d r => rw [hx] at c6; exact c6.1
      obtain ⟨v1, v2⟩ := wd1 S6 H6 st6 k6 hG1
      by_cases hlt1 : k < ys.length
      · have hd1 : ys.drop k = ys[k] :: ys.drop (k + 1) := List.drop_eq_getElem_cons hlt1
        rw [hd1] at c6
        obtain ⟨_, c6⟩ := c6
        obtain ⟨go1, yl1⟩ := v2 k ys[k] (by simp [hlt1])
        refine .inr ⟨go1, Wi (k + 1), fun H'' hw => ⟨ys.length - (k + 1), by omega, rfl, hlt1, hw⟩, fun x1 H7 hy1 => ?_⟩
        obtain ⟨s7, rx1, k7⟩ := yl1 x1 H7 hy1
        have en1 : EnvR X.K S6 H7 (L2.wipe σ3 own1) (XC.wipe ρ3 own1) := wipe_eq ((e5.step st6).step s7) hnd1
        refine ⟨XC.wipe ρ3 own1, S6, fun _ _ => False, _, ys[k], ⟨en1, k7, noX⟩, fun _ => noX, rx1, c6, fun ρ8 S8 σ8 H8 w8 s8 e8 k8 p8 => ⟨wipe_keep p8 hsl1, ρ8, S8, fun _ _ => False, _, ⟨e8, k8, noX⟩, w8, fun b1 S9 H9 w9 s9 k9 => ?_⟩⟩
        have st9 : Step S5 H5 S9 H9 := st6.trans (s7.trans (s8.trans s9))
        cases b1 with
        | true =>
          rw [if_pos rfl] at w9
          refine iteT ⟨ρ8, S9, fun _ _ => False, _, ⟨e8.step s9, k9, noX⟩, w9, fun y S10 v H10 ⟨w10, w11, w12⟩ s10 r10 k10 => ?_⟩
          cases hx : k10 D _ w10 with
          | @lst vs _ z rs =>
            have s11 : Step S10 H10 (put S10 D (.lst (acc6 ++ [y]))) (upd H10 D (.lst (vs ++ [v]))) := Step.write w10
            exact ⟨vs, z, by rw [← sizeL_eq, rs.length]; exact w11, put S10 D (.lst (acc6 ++ [y])), acc6 ++ [y], put_same, k10.write w10 (.lst upd_same ((rs.append (.cons r10 .nil)).step s11)), st9.trans (s10.trans s11), w12⟩
        | false =>
          rw [if_neg Bool.false_ne_true] at w9
          exact iteF ⟨S9, acc6, w9.1, k9, st9, w9.2⟩
      · have e : k = ys.length := by omega
        subst e
        refine .inl ⟨v1, ?_⟩
        rw [List.drop_length] at c6
        exact ⟨S6, acc6, h6, k6, st5.trans st6, c6.2⟩
  · have e : n = xs.length := by omega
    subst e
    refine .inl ⟨w1, ?_⟩
    rw [List.drop_length] at hc
    obtain ⟨_, hc⟩ := hc
    unfold compEnd at hc
    cases m with
    | true =>
      rw [if_pos rfl] at hc
      exact an _ S' _ H' hc (s1.trans st) (.loc D) hk
    | false =>
      rw [if_neg Bool.false_ne_true] at hc
      cases hx : hk D _ hSD with
      | @lst vs _ z rs =>
        have sb : Sub (rem S' D) S' := fun a o e => by
          unfold rem at e
          split at e
          · cases e
          · exact e
        exact an _ (rem S' D) _ H' hc ((s1.trans st).sub sb) (.vls ⟨by unfold rem; rw [if_pos rfl], z⟩ (rs.sub sb)) (hk.sub sb)
/-- the parts of a clause -/
theorem s_clause {X : Cx} {W : WX} (g : Good X T Γ cl xc W) {t : CT} {c : CO} {tg : Expr} {ifs : List Expr} {scope : Scope} (it' : ST T Γ cl xc t) (ic : SO T Γ cl xc c)
    (h4 : chkT T (relS scope X.env.scope) (ownCell scope) t tg = true) (h6 : (match ifs with | [] => noneO c | [q] => !noneO c && chkO T (relS scope X.env.scope) c (some q) | _ => false) = true) :
    (∀ (s : Shared) (H : Hp) (C : Addr) (cs : List (Str × Addr)) (fp : List Addr), PG (X.blk s H scope (compEnvC scope cs C X.env) fp) tg (rdG X.K cl xc (fun _ _ _ _ => False) Γ t)) ∧
    (∀ (s : Shared) (H : Hp) (C : Addr) (cs : List (Str × Addr)) (fp : List Addr), PTs (X.blk s H scope (compEnvC scope cs C X.env) fp) ifs (rdC X.K cl xc (fun _ _ _ _ => False) Γ c)) := by
  refine ⟨fun s H C cs fp => it' _ _ (ownCell scope) tg (g.blk s H scope C cs fp) (fun x z => z) h4, fun s H C cs fp => ?_⟩
  split at h6
  · cases c with
    | none => exact pts_nil.weak fun σ H Q ⟨ρ, S, E, R, i, w, an⟩ => an true S H w (Step.refl _ _) i.st
    | some _ => simp [noneO] at h6
  · rename_i q
    rw [Bool.and_eq_true] at h6
    exact pts_one ((ic _ _ (some q) (g.blk s H scope C cs fp) h6.2).2 q rfl)
  · cases h6
structure C2 (X : Cx) (T : Tab) (own own1 : List Nat) (t t1 : CT) (it it1 : CI) (c c1 : CO) (elt : CE) (tg iter tg1 iter1 el : Expr) (ifs ifs1 : List Expr) (scope : Scope) : Prop where
  blk : blkC T.N X.env.scope scope (ownP T.N own) = true
  nd : own.Nodup
  nd1 : own1.Nodup
  sub : ∀ j, j ∈ own1 → j ∈ own
  sl : ∀ j, j ∈ slotsT t → j ∈ own
  sl1 : ∀ j, j ∈ slotsT t1 → j ∈ own1
  i : chkI T X.env.scope tg it iter = true
  ns : notSet iter = true
  t : chkT T (relS scope X.env.scope) (ownCell scope) t tg = true
  i1 : chkI T (relS scope X.env.scope) tg1 it1 iter1 = true
  ns1 : notSet iter1 = true
  t1 : chkT T (relS scope X.env.scope) (ownCell scope) t1 tg1 = true
  e : chkE T (relS scope X.env.scope) elt el = true
  c : (match ifs with | [] => noneO c | [q] => !noneO c && chkO T (relS scope X.env.scope) c (some q) | _ => false) = true
  c1 : (match ifs1 with | [] => noneO c1 | [q] => !noneO c1 && chkO T (relS scope X.env.scope) c1 (some q) | _ => false) = true
theorem c2_of {X : Cx} {T : Tab} {m : Bool} {own own1 : List Nat} {t t1 : CT} {it it1 : CI} {c c1 : CO} {elt : CE} {e : Expr} (h : chkE T X.env.scope (.comp2 m own t it c own1 t1 it1 c1 elt) e = true) :
    ∃ el tg iter ifs tg1 iter1 ifs1 scope p, e = .ListComp el [⟨tg, iter, ifs, 0⟩, ⟨tg1, iter1, ifs1, 0⟩] scope p ∧ C2 X T own own1 t t1 it it1 c c1 elt tg iter tg1 iter1 el ifs ifs1 scope := by
  unfold chkE at h
  split at h
  · rename_i el tg iter ifs a tg1 iter1 ifs1 a1 scope p
    simp only [Bool.and_eq_true, decide_eq_true_eq] at h
    obtain ⟨⟨⟨⟨⟨⟨⟨⟨⟨⟨⟨⟨⟨⟨⟨⟨h1, h2⟩, h3⟩, h4⟩, h5⟩, h6⟩, h7⟩, h8⟩, h9⟩, h10⟩, h11⟩, h12⟩, h13⟩, h14⟩, h15⟩, h16⟩, h17⟩ := h
    subst h1 h2
    have al : ∀ {l l' : List Nat}, (l.all fun j => l'.contains j) = true → ∀ j, j ∈ l → j ∈ l' := fun {l l'} h j hj => by
      have := List.all_eq_true.mp h j hj
      simpa using this
    exact ⟨el, tg, iter, ifs, tg1, iter1, ifs1, scope, p, rfl, h3, h4, h5, al h6, al h7, al h8, h9, h10, h11, h12, h13, h14, h15, h16, h17⟩
  · cases h
theorem s_comp2 (m : Bool) (own : List Nat) (t : CT) (it : CI) (c : CO) (own1 : List Nat) (t1 : CT) (it1 : CI) (c1 : CO) (elt : CE) (it' : ST T Γ cl xc t) (ii : SI T Γ cl xc it) (ic : SO T Γ cl xc c) (it1' : ST T Γ cl xc t1) (ii1 : SI T Γ cl xc it1) (ic1 : SO T Γ cl xc c1) (ie : SE T Γ cl xc elt) :
    SE T Γ cl xc (.comp2 m own t it c own1 t1 it1 c1 elt) := fun X W e g h => by
  obtain ⟨el, tg, iter, ifs, tg1, iter1, ifs1, scope, p, rfl, q⟩ := c2_of h
  obtain ⟨a1, a2⟩ := s_clause g it' ic q.t q.c
  obtain ⟨b1, b2⟩ := s_clause g it1' ic1 q.t1 q.c1
  have hpe : PE X (.ListComp el [⟨tg, iter, ifs, 0⟩, ⟨tg1, iter1, ifs1, 0⟩] scope p) (rdE X.K cl xc W Γ (.comp2 m own t it c own1 t1 it1 c1 elt)) :=
    (pe_lc2 (vs1 := own1) g.calm g.nd (ii X W tg iter g q.i) (by rw [g.N]; exact blkOk_by q.blk) (by rw [own_map]; exact q.sub) a1 a2 (fun s H C cs fp => ii1 _ _ tg1 iter1 (g.blk s H scope C cs fp) q.i1) b1 b2
      (fun s H C cs fp => (ie _ _ el (g.blk s H scope C cs fp) q.e).1) (set_plain q.ns) (fun _ => set_plain q.ns1)).weak fun σ H Q z => by
        rw [own_map]
        exact s_comp2_core g q.sl q.sl1 q.nd q.nd1 z
  exact ⟨hpe, pt_of hpe fun _ => rfl⟩
mutual
theorem soE : ∀ c : CE, SE T Γ cl xc c
  | .con d => s_con d
  | .var i => s_var i
  | .glob i => s_glob i
  | .bin op a b => s_bin op a b (soE a) (soE b)
  | .catM a b => s_catM a b (soE a) (soE b)
  | .neg a => s_neg a (soE a)
  | .nt a => s_nt a (soE a)
  | .and a b => s_and a b (soE a) (soE b)
  | .or a b => s_or a b (soE a) (soE b)
  | .cmp op a b => s_cmp op a b (soE a) (soE b)
  | .chain op op' a b c => s_chain op op' a b c (soE a) (soE b) (soE c)
  | .ite c a b => s_ite c a b (soE c) (soE a) (soE b)
  | .tup es => s_tup es (soEs es)
  | .lst m es => s_lst m es (soEs es)
  | .idx a i => s_idx a i (soE a) (soE i)
  | .sli a lo hi => s_sli a lo hi (soE a) (soO lo) (soO hi)
  | .call f es => s_call f es (soEs es)
  | .callk f n m perm es kes => s_callk f n m perm es kes (soEs es) (soEs kes)
  | .blt b es => s_blt b es (soEs es)
  | .isi a ts => s_isi a ts (soE a)
  | .comp m own t it c elt => s_comp m own t it c elt (soT t) (soI it) (soO c) (soE elt)
  | .meth m o es => s_meth m o es (soE o) (soEs es)
  | .comp2 m own t it c own1 t1 it1 c1 elt => s_comp2 m own t it c own1 t1 it1 c1 elt (soT t) (soI it) (soO c) (soT t1) (soI it1) (soO c1) (soE elt)
  | .rpr a => s_rpr a (soE a)
  | .dnew => s_dnew
  | .dnewT => s_dnewT
  | .tupK es => s_tupK es (soEs es)
  | .join a b => s_join a b (soE a) (soE b)
  | .find a b => s_find a b (soE a) (soE b)
  | .lrng m a => s_lrng m a (soE a)
  | .dget o k d => s_dget o k d (soE o) (soE k) (soE d)
theorem soEs : ∀ c : CEs, SEs T Γ cl xc c
  | .nil => s_nil
  | .cons c cs => s_cons c cs (soE c) (soEs cs)
theorem soO : ∀ c : CO, SO T Γ cl xc c
  | .none => s_onone
  | .some c => s_osome c (soE c)
theorem soT : ∀ c : CT, ST T Γ cl xc c
  | .nm i => s_tnm i
  | .tp ts => s_ttp ts (soTs ts)
  | .ix o i => s_tix o i (soE o) (soE i)
theorem soTs : ∀ c : CTs, STs T Γ cl xc c
  | .nil => s_tsnil
  | .cons t ts => s_tscons t ts (soT t) (soTs ts)
theorem soI : ∀ c : CI, SI T Γ cl xc c
  | .ev e => s_iev e (soE e)
  | .range1 a => s_irange1 a (soE a)
  | .range2 a b => s_irange2 a b (soE a) (soE b)
  | .enum e => s_ienum e (soE e)
  | .zip a b => s_izip a b (soE a) (soE b)
end
end
end XC
end

section
set_option Elab.async false
set_option linter.all false
set_option maxRecDepth 100000
set_option maxHeartbeats 8000000
namespace XC
open PySem PySem.Spec PyProof.Rows L2
/-- what is wanted behind a statement, both ways -/
structure PostR (K : PySem.W.Frag) (cl : Nat → Addr) (xc : Nat → Value × Option Str) (W : WX) (D : Ends) (P : Post) (S0 : Store) (H0 : Hp) : Prop where
  nx : ∀ ρ S σ H, P.nx ρ S → Step S0 H0 S H → EnvR K S H σ ρ → RepS K H cl S → D.nx σ H
  rt : ∀ d S v H, P.rt d S → Step S0 H0 S H → Rep K S H v d → RepS K H cl S → D.rt v H
  bk : ∀ ρ S σ H, P.bk ρ S → Step S0 H0 S H → EnvR K S H σ ρ → RepS K H cl S → D.bk σ H
  ct : ∀ ρ S σ H, P.ct ρ S → Step S0 H0 S H → EnvR K S H σ ρ → RepS K H cl S → D.ct σ H
  ex : ∀ x ρ S σ cls dx H, P.ex x ρ S → Step S0 H0 S H → EnvR K S H σ ρ → XR K S H xc x cls dx → RepS K H cl S → W cls dx σ H
section
variable {K : PySem.W.Frag} {cl : Nat → Addr} {xc : Nat → Value × Option Str} {W : WX} {D : Ends} {P : Post} {S0 S1 : Store} {H0 H1 : Hp}
theorem PostR.step (p : PostR K cl xc W D P S0 H0) (s : Step S0 H0 S1 H1) : PostR K cl xc W D P S1 H1 :=
  ⟨fun ρ S σ H a b c d => p.nx ρ S σ H a (s.trans b) c d, fun d S v H a b c e => p.rt d S v H a (s.trans b) c e, fun ρ S σ H a b c d => p.bk ρ S σ H a (s.trans b) c d, fun ρ S σ H a b c d => p.ct ρ S σ H a (s.trans b) c d,
    fun x ρ S σ cls dx H a b c d e => p.ex x ρ S σ cls dx H a (s.trans b) c d e⟩
theorem PostR.inn {σ : L2.St} {ρ : Env} (p : PostR K cl xc W D P S0 H0) (e : EnvR K S0 H0 σ ρ) (k : RepS K H0 cl S0) : In K cl xc W σ H0 ρ S0 (P.at ρ) :=
  ⟨e, k, fun x S' cls dx H' a b c d => p.ex x ρ S' σ cls dx H' a b (e.step b) c d⟩
end
def rdS (K : PySem.W.Frag) (cl : Nat → Addr) (xc : Nat → Value × Option Str) (W : WX) (Γ : Ctx) (c : CS) : TS := fun D σ H => ∃ ρ S P, EnvR K S H σ ρ ∧ RepS K H cl S ∧ PostR K cl xc W D P S H ∧ wpS Γ c P ρ S
def rdSs (K : PySem.W.Frag) (cl : Nat → Addr) (xc : Nat → Value × Option Str) (W : WX) (Γ : Ctx) (c : CSs) : TS := fun D σ H => ∃ ρ S P, EnvR K S H σ ρ ∧ RepS K H cl S ∧ PostR K cl xc W D P S H ∧ wpSs Γ c P ρ S
/-- where statements run -/
structure GoodS (X : Cx) (T : Tab) (Γ : Ctx) (cl : Nat → Addr) (xc : Nat → Value × Option Str) (W : WX) : Prop where
  g : Good X T Γ cl xc W
  po : PassesOwn (model X.prog X.w) X.A X.env X.xe
  top : ∀ x, X.fn x = true
  kind : X.env.scope.kind = .function
  stk : X.stack = X.env :: X.outer
  frm : X.env.frame = some X.env.locals
section
variable {T : Tab} {Γ : Ctx} {cl : Nat → Addr} {xc : Nat → Value × Option Str}
abbrev SS (T : Tab) (Γ : Ctx) (cl : Nat → Addr) (xc : Nat → Value × Option Str) (c : CS) : Prop := ∀ (X : Cx) (W : WX) (s : Stmt), GoodS X T Γ cl xc W → chkS T X.env.scope c s = true → PS X s (rdS X.K cl xc W Γ c)
abbrev SSs (T : Tab) (Γ : Ctx) (cl : Nat → Addr) (xc : Nat → Value × Option Str) (c : CSs) : Prop := ∀ (X : Cx) (W : WX) (s : List Stmt), GoodS X T Γ cl xc W → chkSs T X.env.scope c s = true → PSs X s (rdSs X.K cl xc W Γ c)
theorem blockK {X : Cx} (h : X.env.scope.kind = .function) : X.env.blockKind = .function := by unfold Env.blockKind; rw [h]; rfl
theorem no_swap {X : Cx} {tg e : Expr} (h : noSwap X.env.scope tg e = true) (hk : X.env.scope.kind = .function) : swappedStores [tg] e X.env = pure none := by
  unfold noSwap at h
  split at h
  · rename_i vs k p
    split at h
    · rename_i ts k2 p2
      have e : swappedStores [.Tuple ts k2 p2] (.Tuple vs k p) X.env = (if (!(ts.length == 2 || ts.length == 3) || vs.length != ts.length || X.env.blockKind != .function) = true then pure none else if (vs.any fun | .Starred .. => true | _ => false) = true then pure none else
          if ((swapN X.env.scope ts).length != ts.length || (swapN X.env.scope ts).eraseDups.length != (swapN X.env.scope ts).length) = true then pure none else if vs.all (foldedForSure 8) = true then pure none else
          if vs.all (constantsAlone 8) = true then (do unsupported "assign.tuple-of-constant-expressions:order-of-the-stores"; pure (some (swapN X.env.scope ts))) else pure (some (swapN X.env.scope ts))) := by
        unfold swappedStores swapN
        rfl
      rw [e]
      by_cases c1 : (!(ts.length == 2 || ts.length == 3) || vs.length != ts.length || X.env.blockKind != .function) = true
      · rw [if_pos c1]
      · rw [if_neg c1]
        by_cases c2 : (vs.any fun | .Starred .. => true | _ => false) = true
        · rw [if_pos c2]
        · rw [if_neg c2]
          by_cases c3 : ((swapN X.env.scope ts).length != ts.length || (swapN X.env.scope ts).eraseDups.length != (swapN X.env.scope ts).length) = true
          · rw [if_pos c3]
          · rw [if_neg c3]
            by_cases c4 : vs.all (foldedForSure 8) = true
            · rw [if_pos c4]
            · exfalso
              simp only [Bool.or_eq_true, decide_eq_true_eq] at h c1 c3
              rcases h with (h | h) | h
              · exact c1 (.inl (.inl h))
              · exact c3 (.inl (by simpa using h))
              · exact c4 h
    · cases h
    · rename_i h1 h2
      unfold swappedStores
      cases tg <;> first | rfl | (exact absurd rfl (h1 _ _ _)) | (exact absurd rfl (h2 _ _))
  · rename_i h1
    unfold swappedStores
    cases e <;> first | (cases tg <;> rfl) | (exact absurd rfl (h1 _ _ _))
theorem yes_swap {X : Cx} {x y : Str} {px py pt p : Pos} {k k2 : Nat} {e f : Expr} (hk : X.env.scope.kind = .function) (h1 : locS X.env.scope x = true) (h2 : locS X.env.scope y = true) (hxy : x ≠ y) (hl : py.line = px.line) (hy : yesSwap e f = true) :
    swappedStores [.Tuple [.Name x px, .Name y py] k pt] (.Tuple [e, f] k2 p) X.env = pure (some [x, y]) := by
  have n : swapN X.env.scope [.Name x px, .Name y py] = [x, y] := by
    unfold swapN
    unfold locS at h1 h2
    rw [List.filterMap_cons, List.filterMap_cons, List.filterMap_nil]
    simp [eq_of_beq h1, eq_of_beq h2, hl, Expr.pos]
  have ee : swappedStores [.Tuple [.Name x px, .Name y py] k pt] (.Tuple [e, f] k2 p) X.env = (if (!(([.Name x px, .Name y py] : List Expr).length == 2 || ([.Name x px, .Name y py] : List Expr).length == 3) || ([e, f] : List Expr).length != ([.Name x px, .Name y py] : List Expr).length || X.env.blockKind != .function) = true then pure none else if ([e, f].any fun | .Starred .. => true | _ => false) = true then pure none else
      if ((swapN X.env.scope [.Name x px, .Name y py]).length != ([.Name x px, .Name y py] : List Expr).length || (swapN X.env.scope [.Name x px, .Name y py]).eraseDups.length != (swapN X.env.scope [.Name x px, .Name y py]).length) = true then pure none else if [e, f].all (foldedForSure 8) = true then pure none else
      if [e, f].all (constantsAlone 8) = true then (do unsupported "assign.tuple-of-constant-expressions:order-of-the-stores"; pure (some (swapN X.env.scope [.Name x px, .Name y py]))) else pure (some (swapN X.env.scope [.Name x px, .Name y py]))) := by
    unfold swappedStores swapN
    rfl
  rw [ee, n, blockK hk]
  unfold yesSwap at hy
  simp only [Bool.and_eq_true, Bool.not_eq_true'] at hy
  obtain ⟨⟨⟨a, b⟩, c⟩, d⟩ := hy
  have s1 : ([e, f].any fun | .Starred .. => true | _ => false) = false := by
    simp only [List.any_cons, List.any_nil, Bool.or_false]
    unfold notStar at a b
    cases e <;> first | (simp at a; done) | (cases f <;> first | rfl | (simp at b; done))
  have f1 : [e, f].all (foldedForSure 8) = false := by simpa [List.all_cons] using c
  have f2 : [e, f].all (constantsAlone 8) = false := by simpa [List.all_cons] using d
  have g1 : ([x, y] : List Str).eraseDups = [x, y] := by
    have : (y == x) = false := by simpa using fun z => hxy z.symm
    simp [List.eraseDups_cons, this]
  rw [s1, f1, f2, g1]
  rfl
theorem yes_swap3 {X : Cx} {x y z : Str} {px py pz pt p : Pos} {k k2 : Nat} {e f h : Expr} (hk : X.env.scope.kind = .function) (h1 : locS X.env.scope x = true) (h2 : locS X.env.scope y = true) (h3 : locS X.env.scope z = true) (hxy : x ≠ y) (hxz : x ≠ z) (hyz : y ≠ z) (hl : py.line = px.line) (hl2 : pz.line = px.line) (hy : yesSwap3 e f h = true) :
    swappedStores [.Tuple [.Name x px, .Name y py, .Name z pz] k pt] (.Tuple [e, f, h] k2 p) X.env = pure (some [x, y, z]) := by
  have n : swapN X.env.scope [.Name x px, .Name y py, .Name z pz] = [x, y, z] := by
    unfold swapN
    unfold locS at h1 h2 h3
    rw [List.filterMap_cons, List.filterMap_cons, List.filterMap_cons, List.filterMap_nil]
    simp [eq_of_beq h1, eq_of_beq h2, eq_of_beq h3, hl, hl2, Expr.pos]
  have ee : swappedStores [.Tuple [.Name x px, .Name y py, .Name z pz] k pt] (.Tuple [e, f, h] k2 p) X.env = (if (!(([.Name x px, .Name y py, .Name z pz] : List Expr).length == 2 || ([.Name x px, .Name y py, .Name z pz] : List Expr).length == 3) || ([e, f, h] : List Expr).length != ([.Name x px, .Name y py, .Name z pz] : List Expr).length || X.env.blockKind != .function) = true then pure none else if ([e, f, h].any fun | .Starred .. => true | _ => false) = true then pure none else
      if ((swapN X.env.scope [.Name x px, .Name y py, .Name z pz]).length != ([.Name x px, .Name y py, .Name z pz] : List Expr).length || (swapN X.env.scope [.Name x px, .Name y py, .Name z pz]).eraseDups.length != (swapN X.env.scope [.Name x px, .Name y py, .Name z pz]).length) = true then pure none else if [e, f, h].all (foldedForSure 8) = true then pure none else
      if [e, f, h].all (constantsAlone 8) = true then (do unsupported "assign.tuple-of-constant-expressions:order-of-the-stores"; pure (some (swapN X.env.scope [.Name x px, .Name y py, .Name z pz]))) else pure (some (swapN X.env.scope [.Name x px, .Name y py, .Name z pz]))) := by
    unfold swappedStores swapN
    rfl
  rw [ee, n, blockK hk]
  unfold yesSwap3 at hy
  simp only [Bool.and_eq_true, Bool.not_eq_true'] at hy
  obtain ⟨⟨⟨⟨a, b⟩, b2⟩, c⟩, d⟩ := hy
  have st : ∀ e : Expr, notStar e = true → (match e with | .Starred .. => true | _ => false) = false := fun e h => by
    unfold notStar at h
    cases e <;> first | rfl | (simp at h; done)
  have s1 : ([e, f, h].any fun | .Starred .. => true | _ => false) = false := by
    simp only [List.any_cons, List.any_nil, Bool.or_false]
    rw [st e a, st f b, st h b2]; rfl
  have f1 : [e, f, h].all (foldedForSure 8) = false := by simpa [List.all_cons] using c
  have f2 : [e, f, h].all (constantsAlone 8) = false := by simpa [List.all_cons] using d
  have g1 : ([x, y, z] : List Str).eraseDups = [x, y, z] := by
    have q1 : (y == x) = false := by simpa using fun z => hxy z.symm
    have q2 : (z == x) = false := by simpa using fun z => hxz z.symm
    have q3 : (z == y) = false := by simpa using fun z => hyz z.symm
    simp [List.eraseDups_cons, q1, q2, q3]
  rw [s1, f1, f2, g1]
  rfl
theorem sw_cell {el : Expr} {gs : List Comprehension} {scope : Scope} {p py : Pos} {x : Str} {n : Nat} {env : PySem.Env} (h : env.scope.names.lookup x = some .cell) : swapsWithSole [.Name x py] (.ListComp el gs scope p) n env = pure false := by
  show swapsWith (.ListComp el gs scope p) (some (.Name x py)) n env = pure false
  unfold swapsWith
  have e : env.kindOf x = some .cell := h
  simp only [e]
  have e2 : (some NameKind.cell == some NameKind.local) = false := rfl
  rw [e2]
  simp
theorem ss_asg (t : CT) (c : CE) : SS T Γ cl xc (.asg t c) := fun X W s G h => by
  unfold chkS at h
  split at h
  · rename_i tg e pos
    simp only [Bool.and_eq_true] at h
    obtain ⟨⟨h0, h1⟩, h2⟩ := h
    have noX : ∀ {σ : L2.St} {S : Store} {H : Hp}, ExOk X.K cl xc W σ (fun _ _ => False) S H := fun _ _ _ _ _ z => z.elim
    have hw := no_swap h1 G.kind
    have h3 : (assignEach [tg] X.env).map (·.2) = [assign tg X.env] := by rw [assign_cons h0]; rfl
    -- the plain way
    have plain : swapsWithSole [tg] e pos.line X.env = pure false → chkE T X.env.scope c e = true → chkT T X.env.scope (fun _ => true) t tg = true → PS X (.Assign [tg] e pos) (rdS X.K cl xc W Γ (.asg t c)) := fun hs hc ht =>
      (ps_asg (soE c X W e G.g hc).1 (soT t X W (fun _ => true) tg G.g (fun x _ => G.top x) ht) hs hw h3).weak fun D σ H ⟨ρ, S, P, i, k, p, w⟩ =>
        ⟨ρ, S, _, _, p.inn i k, w, fun d S1 v H1 w1 s1 r1 k1 => ⟨ρ, S1, fun _ _ => False, _, d, ⟨i.step s1, k1, noX⟩, fun _ => noX, r1, w1, fun ρ2 S2 σ2 H2 w2 s2 e2 k2 _ => p.nx ρ2 S2 σ2 H2 w2 (s1.trans s2) e2 k2⟩⟩
    split at h2
    · rename_i el gs scope pc
      split at h2
      · rename_i x py
        simp only [Bool.or_eq_true, Bool.and_eq_true, decide_eq_true_eq, Bool.not_eq_true'] at h2
        rcases h2 with ⟨⟨⟨⟨h4, h5⟩, h6⟩, h7⟩, h8⟩ | ⟨⟨g1, g2⟩, g3⟩
        case inr => exact plain (sw_cell g1) g2 g3
        split at h4
        · rename_i i
          have h4 : T.N[i]? = some x := of_decide_eq_true h4
          have hx : X.env.scope.names.lookup x = some .local := eq_of_beq h5
          -- the comprehension itself
          cases c with
          | comp m own t it co elt =>
            unfold chkE at h8
            split at h8
            · rename_i el' tg' iter ifs a sc' p' hh
              cases hh
              simp only [Bool.and_eq_true, decide_eq_true_eq] at h8
              obtain ⟨⟨⟨⟨⟨⟨⟨⟨c1, c2⟩, c3⟩, c3b⟩, c4⟩, c5⟩, c6⟩, c7⟩, c8⟩ := h8
              subst c1
              obtain ⟨a1, a2, a3⟩ := s_comp_parts G.g (own := own) (it := it) (iter := iter) (soT t) (soO co) (soE elt) c6 c7 c8
              have hsl : ∀ j, j ∈ slotsT t → j ∈ own := fun j hj => by
                have := List.all_eq_true.mp c3b j hj
                simpa using this
              refine (ps_setLc (i := i) G.g.calm G.g.nd (by rw [G.g.N]; exact h4) hx (sw_true G.kind hx (by rw [h6]; exact beq_self_eq_true _) h7) (soI it X W tg' iter G.g c4) (by rw [G.g.N]; exact blkOk_by c2) a1 a2 a3 (set_plain c5)).weak fun D σ H ⟨ρ, S, P, en, k, p, w⟩ => ?_
              rw [own_map]
              refine s_comp_core G.g hsl c3 ⟨ρ, S, _, _, p.inn en k, w, fun d S1 v H1 w1 s1 r1 k1 => ?_⟩
              exact p.nx (ρ.set i (some d)) S1 _ H1 w1 s1 ((en.step s1).set i r1) k1
            · cases h8
          | comp2 m own t it co own1 t1 it1 c1 elt =>
            obtain ⟨el', tg', iter, ifs, tg1, iter1, ifs1, sc', p', hh, q⟩ := c2_of h8
            cases hh
            obtain ⟨a1, a2⟩ := s_clause G.g (soT t) (soO co) q.t q.c
            obtain ⟨b1, b2⟩ := s_clause G.g (soT t1) (soO c1) q.t1 q.c1
            refine (ps_setLc2 (i := i) (vs1 := own1) (te := rdE X.K cl xc (fun _ _ _ _ => False) Γ elt) (wi1 := rdI X.K cl xc (fun _ _ _ _ => False) Γ it1) G.g.calm G.g.nd (by rw [G.g.N]; exact h4) hx (sw_true G.kind hx (by rw [h6]; exact beq_self_eq_true _) h7) (soI it X W tg' iter G.g q.i) (by rw [G.g.N]; exact blkOk_by q.blk) (by rw [own_map]; exact q.sub) a1 a2
              (fun s H C cs fp => soI it1 _ _ tg1 iter1 (G.g.blk s H scope C cs fp) q.i1) b1 b2 (fun s H C cs fp => (soE elt _ _ el (G.g.blk s H scope C cs fp) q.e).1) (set_plain q.ns) (fun _ => set_plain q.ns1)).weak fun D σ H ⟨ρ, S, P, en, k, p, w⟩ => ?_
            rw [own_map]
            refine s_comp2_core G.g q.sl q.sl1 q.nd q.nd1 ⟨ρ, S, _, _, p.inn en k, w, fun d S1 v H1 w1 s1 r1 k1 => ?_⟩
            exact p.nx (ρ.set i (some d)) S1 _ H1 w1 s1 ((en.step s1).set i r1) k1
          | _ => unfold chkE at h8; simp at h8
        · cases h4
      · cases h2
    · simp only [Bool.and_eq_true] at h2
      exact plain (swap_plain h2.1.1) h2.1.2 h2.2
  · cases h
theorem ss_par (i j : Nat) (a b : CE) : SS T Γ cl xc (.par i j a b) := fun X W s G h => by
  unfold chkS at h
  split at h
  · rename_i x px y py k pt e f k2 p2 p
    simp only [Bool.and_eq_true, decide_eq_true_eq] at h
    obtain ⟨⟨⟨⟨⟨⟨⟨⟨⟨h1, h2⟩, h3⟩, h4⟩, h5⟩, h6⟩, h7⟩, h8⟩, h9⟩, h10⟩ := h
    have hst : notStar e = true ∧ notStar f = true := by
      unfold yesSwap at h10
      simp only [Bool.and_eq_true] at h10
      exact ⟨h10.1.1.1, h10.1.1.2⟩
    have pa : PA X [e, f] (tCons (rdE X.K cl xc W Γ a) (tCons (rdE X.K cl xc W Γ b) tNil)) := pa_cons (soE a X W e G.g h8).1 (pa_cons (soE b X W f G.g h9).1 pa_nil (star_cons hst.2)) (star_cons hst.1)
    refine (ps_par (i := i) (j := j) G.g.calm G.g.nd (by rw [G.g.N]; exact h1) (by rw [G.g.N]; exact h2) h3 (eq_of_beq h4) (eq_of_beq h5) pa (yes_swap G.kind h4 h5 h6 h7 h10) rfl).weak fun D σ H ⟨ρ, S, P, en, k, p, w⟩ =>
      ⟨ρ, S, _, _, p.inn en k, w, fun d S1 v H1 w1 s1 r1 k1 => ⟨ρ, S1, _, _, (p.step s1).inn (en.step s1) k1, w1, fun d2 S2 v2 H2 w2 s2 r2 k2 => ⟨v, v2, rfl, ?_⟩⟩⟩
    exact p.nx _ S2 _ H2 w2 (s1.trans s2) (((en.step (s1.trans s2)).set i (r1.step s2)).set j r2) k2
  · cases h
theorem ss_par3 (i j l : Nat) (a b c : CE) : SS T Γ cl xc (.par3 i j l a b c) := fun X W s G h => by
  unfold chkS at h
  split at h
  · rename_i x px y py z pz k pt e f q k2 p2 p
    simp only [Bool.and_eq_true, decide_eq_true_eq] at h
    obtain ⟨⟨⟨⟨⟨⟨⟨⟨⟨⟨⟨⟨⟨⟨⟨⟨⟨a1, a2⟩, a3⟩, a4⟩, a5⟩, a6⟩, a7⟩, a8⟩, a9⟩, b1⟩, b2⟩, b3⟩, b4⟩, b5⟩, b6⟩, b7⟩, b8⟩, b9⟩ := h
    have hst : notStar e = true ∧ notStar f = true ∧ notStar q = true := by
      unfold yesSwap3 at b9
      simp only [Bool.and_eq_true] at b9
      exact ⟨b9.1.1.1.1, b9.1.1.1.2, b9.1.1.2⟩
    have pa : PA X [e, f, q] (tCons (rdE X.K cl xc W Γ a) (tCons (rdE X.K cl xc W Γ b) (tCons (rdE X.K cl xc W Γ c) tNil))) := pa_cons (soE a X W e G.g b6).1 (pa_cons (soE b X W f G.g b7).1 (pa_cons (soE c X W q G.g b8).1 pa_nil (star_cons hst.2.2)) (star_cons hst.2.1)) (star_cons hst.1)
    refine (ps_par3 (i := i) (j := j) (l := l) G.g.calm G.g.nd (by rw [G.g.N]; exact a1) (by rw [G.g.N]; exact a2) (by rw [G.g.N]; exact a3) a4 a5 a6 (eq_of_beq a7) (eq_of_beq a8) (eq_of_beq a9) pa (yes_swap3 G.kind a7 a8 a9 b1 b2 b3 b4 b5 b9) rfl).weak fun D σ H ⟨ρ, S, P, en, k, p, w⟩ =>
      ⟨ρ, S, _, _, p.inn en k, w, fun d S1 v H1 w1 s1 r1 k1 => ⟨ρ, S1, _, _, (p.step s1).inn (en.step s1) k1, w1, fun d2 S2 v2 H2 w2 s2 r2 k2 => ⟨ρ, S2, _, _, (p.step (s1.trans s2)).inn (en.step (s1.trans s2)) k2, w2, fun d3 S3 v3 H3 w3 s3 r3 k3 => ⟨v, v2, v3, rfl, ?_⟩⟩⟩⟩
    exact p.nx _ S3 _ H3 w3 ((s1.trans s2).trans s3) ((((en.step ((s1.trans s2).trans s3)).set i ((r1.step s2).step s3)).set j (r2.step s3)).set l r3) k3
  · cases h
end
end XC
end

section
set_option Elab.async false
set_option linter.all false
set_option maxRecDepth 100000
set_option maxHeartbeats 8000000
namespace XC
open PySem PySem.Spec PyProof.Rows L2
section
variable {T : Tab} {Γ : Ctx} {cl : Nat → Addr} {xc : Nat → Value × Option Str}
theorem ss_aug (i : Nat) (op : Operator) (c : CE) : SS T Γ cl xc (.aug i op c) := fun X W s G h => by
  unfold chkS at h
  split at h
  · rename_i x p0 o e p
    simp only [Bool.and_eq_true, decide_eq_true_eq] at h
    obtain ⟨⟨⟨h1, h2⟩, h3⟩, h4⟩ := h
    subst h3
    obtain ⟨q1, q2⟩ := loc_of h2
    refine (ps_aug (i := i) G.g.nd (by rw [G.g.N]; exact h1) q1 (soE c X W e G.g h4).1 (ip_W (cl := cl) o) (.inl (G.top x))).weak fun D σ H ⟨ρ, S, P, en, k, p, w⟩ => ?_
    replace w : look ρ i (fun x => wpE Γ (P.at ρ) c ρ S fun y S1 => augW o x y fun z => P.nx (ρ.set i (some z)) S1) := w
    unfold look at w
    split at w
    · rename_i d hd
      obtain ⟨v, h5, h6⟩ := en.2 i d hd
      refine ⟨v, h5, ρ, S, _, _, p.inn en k, w, fun d2 S1 v2 H1 w1 s1 r1 k1 => ⟨S1, d, d2, fun z S' => P.nx (ρ.set i (some z)) S', k1, h6.step s1, r1, w1, fun d3 S3 v3 H3 w3 s3 r3 k3 => ?_⟩⟩
      exact p.nx _ S3 _ H3 w3 (s1.trans s3) ((en.step (s1.trans s3)).set i r3) k3
    · exact w.elim
  · cases h
theorem ss_ife (c : CE) (a b : CSs) (ia : SSs T Γ cl xc a) (ib : SSs T Γ cl xc b) : SS T Γ cl xc (.ife c a b) := fun X W s G h => by
  unfold chkS at h
  split at h
  · rename_i e p q pos
    simp only [Bool.and_eq_true] at h
    obtain ⟨⟨h1, h2⟩, h3⟩ := h
    refine (ps_if (soE c X W e G.g h1).2 (ia X W p G h2) (ib X W q G h3)).weak fun D σ H ⟨ρ, S, P, en, k, pr, w⟩ => ⟨ρ, S, _, _, pr.inn en k, w, fun d S1 H1 w1 s1 k1 => ?_⟩
    rcases br_cases w1 with ⟨e, q⟩ | ⟨e, q⟩
    · exact ⟨true, e, iteT ⟨ρ, S1, P, en.step s1, k1, pr.step s1, q⟩⟩
    · exact ⟨false, e, iteF ⟨ρ, S1, P, en.step s1, k1, pr.step s1, q⟩⟩
  · cases h
theorem ss_whl (c : CE) (b : CSs) (ib : SSs T Γ cl xc b) : SS T Γ cl xc (.whl c b) := fun X W s G h => by
  unfold chkS at h
  split at h
  · rename_i e body pos
    simp only [Bool.and_eq_true] at h
    refine (ps_while G.po (soE c X W e G.g h.1).2 (ib X W body G h.2)).weak fun D σ H ⟨ρ, S, P, en, k, pr, w⟩ => ?_
    obtain ⟨Wd, ⟨m0, w0⟩, turn⟩ := w
    refine ⟨fun m σ' H' => ∃ ρ' S', Wd m ρ' S' ∧ EnvR X.K S' H' σ' ρ' ∧ RepS X.K H' cl S' ∧ Step S H S' H', ⟨m0, ρ, S, w0, en, k, Step.refl _ _⟩, ?_⟩
    rintro m σ1 H1 ⟨ρ1, S1, w1, e1, k1, s1⟩
    refine ⟨ρ1, S1, _, _, (pr.step s1).inn e1 k1, turn m ρ1 S1 w1, fun d S2 H2 w2 s2 k2 => ?_⟩
    rcases br_cases w2 with ⟨e, q⟩ | ⟨e, q⟩
    · obtain ⟨N, hN, hb⟩ := q
      refine ⟨true, e, iteT ⟨fun σ' H' => ∃ ρ' S', N ρ' S' ∧ EnvR X.K S' H' σ' ρ' ∧ RepS X.K H' cl S' ∧ Step S H S' H', fun σ' H' ⟨ρ', S', n', e', k', s'⟩ => ?_, ρ1, S2, _, e1.step s2, k2, ⟨?_, ?_, ?_, ?_, ?_⟩, hb⟩⟩
      · obtain ⟨m', hm, w'⟩ := hN ρ' S' n'
        exact ⟨m', hm, ρ', S', w', e', k', s'⟩
      · exact fun ρ' S' σ' H' n' s' e' k' => ⟨ρ', S', n', e', k', (s1.trans s2).trans s'⟩
      · exact fun d S' v H' a b c e => pr.rt d S' v H' a ((s1.trans s2).trans b) c e
      · exact fun ρ' S' σ' H' n' s' e' k' => pr.nx ρ' S' σ' H' n' ((s1.trans s2).trans s') e' k'
      · exact fun ρ' S' σ' H' n' s' e' k' => ⟨ρ', S', n', e', k', (s1.trans s2).trans s'⟩
      · exact fun x ρ' S' σ' cls dx H' a b c d e => pr.ex x ρ' S' σ' cls dx H' a ((s1.trans s2).trans b) c d e
    · exact ⟨false, e, iteF (pr.nx ρ1 S2 σ1 H2 q (s1.trans s2) (e1.step s2) k2)⟩
  · cases h
theorem ss_for (t : CT) (it : CI) (b : CSs) (ib : SSs T Γ cl xc b) : SS T Γ cl xc (.for_ t it b) := fun X W s G h => by
  unfold chkS at h
  split at h
  · rename_i tg iter body pos
    simp only [Bool.and_eq_true] at h
    obtain ⟨⟨⟨h1, h2⟩, h3⟩, h4⟩ := h
    have noX : ∀ {σ : L2.St} {S : Store} {H : Hp}, ExOk X.K cl xc W σ (fun _ _ => False) S H := fun _ _ _ _ _ z => z.elim
    refine (ps_for G.po G.g.calm (soI it X W tg iter G.g h2) (soT t X W (fun _ => true) tg G.g (fun x _ => G.top x) h1) (ib X W body G h4) (set_plain h3)).weak fun D σ H ⟨ρ, S, P, en, k, pr, w⟩ =>
      ⟨ρ, S, _, _, pr.inn en k, w, fun xs Gd S1 J H1 q s1 k1 wd => ?_⟩
    let Wt : Nat → L2.St → Hp → Prop := fun n σ' H' => ∃ ρ' S', EnvR X.K S' H' σ' ρ' ∧ RepS X.K H' cl S' ∧ Step S1 H1 S' H' ∧ forW Gd (wpT Γ (fun _ _ => False) t) (wpSs Γ b) P (xs.drop n) ρ' S'
    refine ⟨fun n m σ' H' => m = xs.length - n ∧ n ≤ xs.length ∧ Wt n σ' H', ⟨xs.length, by simp, Nat.zero_le _, ρ, S1, en.step s1, k1, Step.refl _ _, q⟩, ?_⟩
    rintro n m σ1 H2 ⟨rfl, hn, ρ1, S2, e2, k2, s2, w2⟩
    have hG : Gd S2 := by
      cases hx : xs.drop n with
      | nil => rw [hx] at w2; exact w2.1
      | cons d r => rw [hx] at w2; exact w2.1
    obtain ⟨a1, a2⟩ := wd S2 H2 s2 k2 hG
    by_cases hlt : n < xs.length
    · have hd : xs.drop n = xs[n] :: xs.drop (n + 1) := List.drop_eq_getElem_cons hlt
      rw [hd] at w2
      obtain ⟨_, w2⟩ := w2
      obtain ⟨go, yl⟩ := a2 n xs[n] (by simp [hlt])
      refine .inr ⟨go, Wt (n + 1), fun σ' H' hw => ⟨xs.length - (n + 1), by omega, rfl, hlt, hw⟩, fun x H3 hy => ?_⟩
      obtain ⟨s3, r3, k3⟩ := yl x H3 hy
      refine ⟨ρ1, S2, fun _ _ => False, _, xs[n], ⟨e2.step s3, k3, noX⟩, fun _ => noX, r3, w2, fun ρ4 S4 σ4 H4 w4 s4 e4 k4 _ => ⟨ρ4, S4, _, e4, k4, ⟨?_, ?_, ?_, ?_, ?_⟩, w4⟩⟩
      · exact fun ρ' S' σ' H' n' s' e' k' => ⟨ρ', S', e', k', s2.trans (s3.trans (s4.trans s')), n'⟩
      · exact fun d S' v H' a b c e => pr.rt d S' v H' a (s1.trans (s2.trans (s3.trans (s4.trans b)))) c e
      · exact fun ρ' S' σ' H' n' s' e' k' => pr.nx ρ' S' σ' H' n' (s1.trans (s2.trans (s3.trans (s4.trans s')))) e' k'
      · exact fun ρ' S' σ' H' n' s' e' k' => ⟨ρ', S', e', k', s2.trans (s3.trans (s4.trans s')), n'⟩
      · exact fun x ρ' S' σ' cls dx H' a b c d e => pr.ex x ρ' S' σ' cls dx H' a (s1.trans (s2.trans (s3.trans (s4.trans b)))) c d e
    · have e : n = xs.length := by omega
      subst e
      rw [List.drop_length] at w2
      exact .inl ⟨a1, pr.nx ρ1 S2 σ1 H2 w2.2 (s1.trans s2) e2 k2⟩
  · cases h
theorem ss_ret (c : CE) : SS T Γ cl xc (.ret c) := fun X W s G h => by
  unfold chkS at h
  split at h
  · exact (ps_ret (soE c X W _ G.g h).1).weak fun D σ H ⟨ρ, S, P, en, k, pr, w⟩ => ⟨ρ, S, _, _, pr.inn en k, w, fun d S1 v H1 w1 s1 r1 k1 => pr.rt d S1 v H1 w1 s1 r1 k1⟩
  · cases h
theorem ss_retN : SS T Γ cl xc .retN := fun X W s G h => by
  unfold chkS at h
  split at h
  · exact ps_retN.weak fun D σ H ⟨ρ, S, P, en, k, pr, w⟩ => pr.rt .non S .non H w (Step.refl _ _) .non k
  · cases h
theorem ss_exp (c : CE) : SS T Γ cl xc (.exp c) := fun X W s G h => by
  unfold chkS at h
  split at h
  · simp only [Bool.and_eq_true] at h
    exact (ps_expr (soE c X W _ G.g h.2).1 (swap_plain h.1)).weak fun D σ H ⟨ρ, S, P, en, k, pr, w⟩ => ⟨ρ, S, _, _, pr.inn en k, w, fun d S1 v H1 w1 s1 r1 k1 => pr.nx ρ S1 σ H1 w1 s1 (en.step s1) k1⟩
  · cases h
theorem ss_pass : SS T Γ cl xc .pass := fun X W s G h => by
  unfold chkS at h
  split at h
  · exact ps_pass.weak fun D σ H ⟨ρ, S, P, en, k, pr, w⟩ => pr.nx ρ S σ H w (Step.refl _ _) en k
  · cases h
theorem ss_brk : SS T Γ cl xc .brk := fun X W s G h => by
  unfold chkS at h
  split at h
  · exact ps_break.weak fun D σ H ⟨ρ, S, P, en, k, pr, w⟩ => pr.bk ρ S σ H w (Step.refl _ _) en k
  · cases h
theorem ss_cnt : SS T Γ cl xc .cnt := fun X W s G h => by
  unfold chkS at h
  split at h
  · exact ps_continue.weak fun D σ H ⟨ρ, S, P, en, k, pr, w⟩ => pr.ct ρ S σ H w (Step.refl _ _) en k
  · cases h
theorem ss_rse (c : Nat) : SS T Γ cl xc (.rse c) := fun X W s G h => by
  unfold chkS at h
  split at h
  · rename_i x p0 m j p1 p2 p3
    simp only [Bool.and_eq_true, decide_eq_true_eq, Bool.not_eq_true'] at h
    obtain ⟨⟨h1, h2⟩, h3⟩ := h
    obtain ⟨_, _, C, e1, e2, e3, _⟩ := G.g.exc x (c, true) h1
    obtain ⟨e4, k1, k2, k3, bm, B, n, i, F, q⟩ := e3 rfl
    exact (ps_raise G.g.calm G.g.tk (pmk_own F q e2 k1 (raises_own k2 k3) (gl_of h2) h3)).weak fun D σ H ⟨ρ, S, P, en, k, pr, w⟩ =>
      pr.ex ⟨c, none⟩ ρ S σ (.ref C) none H w (Step.refl _ _) en ⟨e1.symm, by rw [e4]⟩ k
  · cases h
theorem ss_dput (o i c : CE) : SS T Γ cl xc (.dput o i c) := fun X W s G h => by
  unfold chkS at h
  split at h
  · rename_i x y p' e pos
    simp only [Bool.and_eq_true] at h
    obtain ⟨⟨⟨h1, h2⟩, h3⟩, h4⟩ := h
    refine (ps_dput (by have := G.g.un; omega) (soE o X W x G.g h1).1 (soE i X W y G.g h2).1 (soE c X W e G.g h3).1 (swap_plain h4)).weak fun D σ H ⟨ρ, S, P, en, k, pr, w⟩ =>
      ⟨ρ, S, _, _, pr.inn en k, w, fun dv S1 v H1 w1 s1 r1 k1 => ⟨ρ, S1, _, _, (pr.inn en k).step s1 k1, w1, fun dx S2 vx H2 w2 s2 r2 k2 => ⟨ρ, S2, _, _, ((pr.inn en k).step s1 k1).step s2 k2, w2, fun dy S3 vy H3 w3 s3 r3 k3 => ?_⟩⟩⟩
    have w3 : dputW S3 dx dy dv (fun S4 => P.nx ρ S4) := w3
    unfold dputW at w3
    split at w3
    · rename_i a _
      have r2' := r2.step s3
      cases r2'
      have rv := r1.step (s2.trans s3)
      have hl : ∀ {κ : Type} {kv : List (κ × V)} {ds : List (κ × XC.D)}, kv.map (·.1) = ds.map (·.1) → kv.length = ds.length := fun q => by
        have := congrArg List.length q
        simpa using this
      split at w3
      · rename_i kvs e3
        cases hx : keyD dy with
        | none => rw [hx] at w3; exact w3.elim
        | some k' =>
          rw [hx] at w3
          cases k3 _ _ e3 with
          | @dic kv3 _ z3 ek3 rs3 =>
            have hkv := key_rep r3 hx
            subst hkv
            have st : Step S3 H3 (put S3 a (.dic (putD kvs k' dv))) (upd H3 a (.dK (putK kv3 k' v))) := Step.write e3
            obtain ⟨q1, q2⟩ := put_rep k' rv ek3 rs3
            refine ⟨a, _, rfl, DPut.k z3 (by rw [hl ek3, ← sizeL_eq]; exact w3.1), ?_⟩
            refine pr.nx ρ _ σ _ w3.2 (s1.trans (s2.trans (s3.trans st))) (en.step (s1.trans (s2.trans (s3.trans st)))) ?_
            exact k3.write e3 (.dic upd_same q1 (q2.step st))
      · rename_i kvs e3
        cases hx : ktAt S3 dy with
        | none => rw [hx] at w3; exact w3.elim
        | some k' =>
          rw [hx] at w3
          cases k3 _ _ e3 with
          | @dct kv3 _ z3 ek3 rs3 =>
            obtain ⟨b, rfl, hb⟩ := kt_rep k3 r3 hx
            have st : Step S3 H3 (put S3 a (.dct (putD kvs k' dv))) (upd H3 a (.dT (putK kv3 k' v))) := Step.write e3
            obtain ⟨q1, q2⟩ := put_rep k' rv ek3 rs3
            refine ⟨a, _, rfl, DPut.t z3 hb (by rw [hl ek3, ← sizeL_eq]; exact w3.1), ?_⟩
            refine pr.nx ρ _ σ _ w3.2 (s1.trans (s2.trans (s3.trans st))) (en.step (s1.trans (s2.trans (s3.trans st)))) ?_
            exact k3.write e3 (.dct upd_same q1 (q2.step st))
      · exact w3.elim
    · exact w3.elim
  · cases h
/-- the value of a constant -/
def cV : D → V
  | .bl b => .bl b
  | .int i => .int i
  | .str x => .str x
  | _ => .non
theorem conB_cases {d : D} {c : Const} (h : conB d c = true) : (d = .non ∧ c = .none) ∨ (∃ b, d = .bl b ∧ c = .bool b) ∨ (∃ i, d = .int i ∧ c = .int i) ∨ ∃ x, d = .str x ∧ c = .str x := by
  unfold conB at h
  split at h
  · exact .inl ⟨rfl, rfl⟩
  · exact .inr (.inl ⟨_, rfl, by rw [eq_of_beq h]⟩)
  · exact .inr (.inr (.inl ⟨_, rfl, by rw [eq_of_beq h]⟩))
  · exact .inr (.inr (.inr ⟨_, rfl, by rw [of_decide_eq_true h]⟩))
  · cases h
/-- the clauses -/
theorem hds_ok {X : Cx} {W : WX} (G : GoodS X T Γ cl xc W) : ∀ (hs : List CH) (es : List ExceptHandler), chkHs T X.env.scope hs es = true →
    ∃ l, HdsOk X es l ∧ ∀ (D : Ends) (P : Post) (S0 : Store) (H0 : Hp), PostR X.K cl xc W D P S0 H0 → ∀ x ρ S σ cls dx H, hdW Γ P hs x ρ S → Step S0 H0 S H → EnvR X.K S H σ ρ → XR X.K S H xc x cls dx → RepS X.K H cl S → wMany X.K W D l cls dx σ H
  | [], es, h => by
    cases es with
    | cons _ _ => simp [chkHs] at h
    | nil => exact ⟨[], .nil, fun D P S0 H0 pr x ρ S σ cls dx H w s en xr k => pr.ex x ρ S σ cls dx H w s en xr k⟩
  | hd :: hs, es, h => by
    unfold chkHs at h
    split at h
    · rename_i x np n p1 c k2 p2 p3 pos' r'
      simp only [Bool.and_eq_true, decide_eq_true_eq, Bool.not_eq_true'] at h
      obtain ⟨⟨⟨⟨⟨⟨h1, h2⟩, h3⟩, h4⟩, h5⟩, h6⟩, h7⟩ := h
      obtain ⟨l, hl, hw⟩ := hds_ok G hs r' h7
      obtain ⟨cb, h1, hcb⟩ : ∃ cb, T.excs.lookup x = some cb ∧ cb.1 = hd.c := by
        cases e : T.excs.lookup x with
        | none => rw [e] at h1; cases h1
        | some cb => rw [e] at h1; exact ⟨cb, rfl, Option.some.inj h1⟩
      obtain ⟨_, _, C, e1, e2, e3, _⟩ := G.g.exc x cb h1
      rw [hcb] at e1
      have hx : X.env.scope.names.lookup n = some .local := eq_of_beq h5
      refine ⟨((xc hd.c).1, fun _ _ _ => fun D σ H => D.nx (σ.set hd.i (some (cV hd.d))) H) :: l, .cons (ts := fun _ _ _ => fun D σ H => D.nx (σ.set hd.i (some (cV hd.d))) H) ?_ (fun a oe cls d pn hz hf => ?_) hl, ?_⟩
      · exact ⟨gl_of h2, h3, .inl (by rw [e1]; exact e2)⟩
      · have key : ∀ {v : V}, v = cV hd.d → PE (X.suite a ((a, oe) :: pn)) (.Constant c k2 p2) (tC v) → PSs (X.suite a ((a, oe) :: pn)) [.Assign [.Name n p1] (.Constant c k2 p2) p3] (fun D σ H => D.nx (σ.set hd.i (some (cV hd.d))) H) := fun {v} hv hp => by
          subst hv
          exact pss_one (ps_set (X := X.suite a ((a, oe) :: pn)) (i := hd.i) G.g.nd (by rw [G.g.N]; exact h4) (.inl hx) hp (by rfl) (.inr hx))
        rcases conB_cases h6 with ⟨e, rfl⟩ | ⟨b, e, rfl⟩ | ⟨b, e, rfl⟩ | ⟨b, e, rfl⟩
        · exact key (by rw [e]; rfl) pe_non
        · exact key (by rw [e]; rfl) pe_bl
        · exact key (by rw [e]; rfl) pe_int
        · exact key (by rw [e]; rfl) pe_str
      · intro D P S0 H0 pr x' ρ S σ cls dx H w s en xr k
        unfold hdW at w
        have hr : ∀ S H, Rep X.K S H (cV hd.d) hd.d := fun S H => by
          rcases conB_cases h6 with ⟨e, _⟩ | ⟨b, e, _⟩ | ⟨b, e, _⟩ | ⟨b, e, _⟩
          · rw [e]; exact .non
          · rw [e]; exact .bl _
          · rw [e]; exact .int _
          · rw [e]; exact .str _
        split at w
        · rename_i q
          refine ⟨true, ?_, fun _ a ha => ?_, fun z => nomatch z⟩
          · have := G.g.sub _ _ _ q
            rw [← xr.1] at this
            exact this
          · exact pr.nx _ S _ H w s (en.set _ (hr S H)) k
        · rename_i q
          refine ⟨false, ?_, (fun z => nomatch z), fun _ => hw D P S0 H0 pr x' ρ S σ cls dx H w s en xr k⟩
          have := G.g.sub _ _ _ q
          rw [← xr.1] at this
          exact this
        · exact w.elim
    · cases h
theorem ss_try (b : CSs) (hs : List CH) (ib : SSs T Γ cl xc b) : SS T Γ cl xc (.try_ b hs) := fun X W s G h => by
  unfold chkS at h
  split at h
  · rename_i body h₀ hds pos
    simp only [Bool.and_eq_true] at h
    obtain ⟨l, hl, hw⟩ := hds_ok G hs (h₀ :: hds) h.2
    refine (ps_try_many (tb := fun W' => rdSs X.K cl xc W' Γ b) G.stk G.frm G.g.tk (fun W' pn xe tk' po' => ?_) hl).weak fun D σ H ⟨ρ, S, P, en, k, pr, w⟩ =>
      ⟨ρ, S, P.exc (hdW Γ P hs), en, k, ⟨pr.nx, pr.rt, pr.bk, pr.ct, fun x ρ' S' σ' cls dx H' w' s' en' xr' k' => hw D P S H pr x ρ' S' σ' cls dx H' w' s' en' xr' k'⟩, w⟩
    exact ib (X.tr pn xe) W' body ⟨⟨G.g.N, G.g.nd, G.g.un, G.g.calm, tk', fun x i e => ⟨(G.g.fn x i e).ex⟩, G.g.con, G.g.blt, fun x c e => G.g.exc x c e, G.g.sub, G.g.gd, G.g.rp, G.g.fld⟩, po', G.top, G.kind, G.stk, G.frm⟩ h.1
  · cases h
theorem ss_rsf (c : Nat) (e : CE) : SS T Γ cl xc (.rsf c e) := fun X W s G h => by
  unfold chkS at h
  split at h
  · rename_i x p0 a p1 p2
    simp only [Bool.and_eq_true, decide_eq_true_eq, Bool.not_eq_true'] at h
    obtain ⟨⟨⟨⟨⟨h1, h0⟩, h2⟩, h3⟩, h4⟩, h5⟩ := h
    obtain ⟨k, hr, C, e1, e2, e3, e4⟩ := G.g.exc x (c, false) h1
    obtain ⟨f, hf0⟩ := Option.isSome_iff_exists.mp h0
    have hf := G.g.fld c f hf0
    obtain ⟨hk, fI, cc, cda, F⟩ := e4 f hf
    exact (ps_raise G.g.calm G.g.tk (pmk_fld (k := 0) F (hr.mono hk) (pa_cons (soE e X W a G.g h5).1 pa_nil (star_cons h4)) (gl_of h2) h3 (star_cons h4))).weak fun D σ H ⟨ρ, S, P, en, k, pr, w⟩ =>
      ⟨ρ, S, _, _, pr.inn en k, w, fun d S1 v H1 w1 s1 r1 k1 => ⟨v, rfl, fun p hp => by
        have f1 : S1 p = none := k1.free hp
        have st : Step S1 H1 S1 (upd H1 p (.xd [(f, v)])) := Step.new hp
        refine pr.ex ⟨c, some d⟩ ρ S1 σ (.ref C) (some p) _ w1 (s1.trans st) (en.step (s1.trans st)) ⟨e1.symm, ?_⟩ (k1.new hp)
        rw [hf]
        exact ⟨p, v, rfl, f1, upd_same, r1.step st⟩⟩⟩
  · cases h
theorem env_as {K : PySem.W.Frag} {S : Store} {H : Hp} {σ : L2.St} {ρ : Env} {i ie : Nat} {v u : V} {d : XC.D} (en : EnvR K S H σ ρ) (hne : i ≠ ie) (r : Rep K S H v d) :
    EnvR K S H (((σ.set ie (some u)).set i (some v)).set ie none) ((ρ.set i (some d)).set ie none) := by
  refine ⟨by simp only [List.length_set]; exact en.1, fun j e q => ?_⟩
  by_cases n : ie = j
  · subst n
    by_cases hl : ie < (ρ.set i (some d)).length
    · rw [List.getElem?_set_self hl] at q; cases q
    · rw [List.getElem?_eq_none (by rw [List.length_set]; omega)] at q; cases q
  · rw [List.getElem?_set_ne n] at q ⊢
    by_cases m : i = j
    · subst m
      by_cases hl : i < ρ.length
      · rw [List.getElem?_set_self hl] at q; cases q
        exact ⟨v, List.getElem?_set_self (by rw [List.length_set, en.1]; exact hl), r⟩
      · rw [List.getElem?_eq_none (by rw [List.length_set]; omega)] at q; cases q
    · rw [List.getElem?_set_ne m] at q ⊢
      rw [List.getElem?_set_ne n]
      exact en.2 j e q
theorem ss_tryf (b : CSs) (c i ie : Nat) (l : Bool) (ib : SSs T Γ cl xc b) : SS T Γ cl xc (.tryf b c i ie l) := fun X W s G h => by
  unfold chkS at h
  split at h
  · rename_i body x np n y p1 v p2 pos' more pos
    simp only [Bool.and_eq_true, decide_eq_true_eq, Bool.not_eq_true'] at h
    obtain ⟨⟨⟨⟨⟨⟨⟨⟨⟨⟨h1, h2⟩, h3⟩, h4⟩, h5⟩, h6⟩, h7⟩, h8⟩, h9⟩, h10⟩, h11⟩ := h
    obtain ⟨_, _, C, e1, e2, e3, e4⟩ := G.g.exc x (c, false) h2
    have hy : X.env.scope.names.lookup y = some .local := eq_of_beq h8
    have hn : X.env.scope.names.lookup n = some .local := eq_of_beq h9
    have hi : X.N[i]? = some y := by rw [G.g.N]; exact h5
    have hie : X.N[ie]? = some n := by rw [G.g.N]; exact h6
    obtain ⟨pn1, pn2, _⟩ := pn h10
    -- what the clause does with the field
    let get : TE → TE := fun t => if l = true then tLst (tCons t tNil) else t
    have key : ∃ f, T.flds.lookup c = some f ∧ ∀ fI cc cda, Own.FldTxt X.prog X.K X.mg x f C fI cc cda → ∀ (a : Addr) (oe : Obj) (cls : Value) (d : Option Addr) (pn : List (Addr × Obj)), Zc cls d oe → (∃ vs, oe.data = .fields vs) →
        PSs (X.suite a ((a, oe) :: pn)) [.Assign [.Name y p1] v p2] (tAsg (get (tByFld C f a cls d (tVar ie))) (gName i)) := by
      split at h11
      · rename_i n' p3 f p4
        simp only [Bool.and_eq_true, decide_eq_true_eq, Bool.not_eq_true'] at h11
        obtain ⟨⟨hl, rfl⟩, hf⟩ := h11
        refine ⟨f, hf, fun fI cc cda F a oe cls d pn hz hv => ?_⟩
        have hget : get = fun t => t := by funext t; show (if l = true then _ else _) = t; rw [hl]; rfl
        rw [hget]
        have hp : PE (X.suite a ((a, oe) :: pn)) (.Name n' p3) (tVar ie) := pe_var (X := X.suite a ((a, oe) :: pn)) hie (.inl hn) pn1 pn2
        exact pss_one (ps_set (X := X.suite a ((a, oe) :: pn)) G.g.nd hi (.inl hy) (pe_byFld F hz hv hp (base_plain (by rfl))) (swap_plain (by rfl)) (.inr hy))
      · rename_i n' p3 f p4 p5
        simp only [Bool.and_eq_true, decide_eq_true_eq] at h11
        obtain ⟨⟨hl, rfl⟩, hf⟩ := h11
        refine ⟨f, hf, fun fI cc cda F a oe cls d pn hz hv => ?_⟩
        have hget : get = fun t => tLst (tCons t tNil) := by funext t; show (if l = true then _ else _) = _; rw [hl]; rfl
        rw [hget]
        have hp : PE (X.suite a ((a, oe) :: pn)) (.Name n' p3) (tVar ie) := pe_var (X := X.suite a ((a, oe) :: pn)) hie (.inl hn) pn1 pn2
        exact pss_one (ps_set (X := X.suite a ((a, oe) :: pn)) G.g.nd hi (.inl hy) (pe_lst (pa_cons (pe_byFld F hz hv hp (base_plain (by rfl))) pa_nil (by rfl))) (swap_plain (by rfl)) (.inr hy))
      · cases h11
    obtain ⟨f, hf0, key⟩ := key
    have hf := G.g.fld c f hf0
    obtain ⟨hk, fI, cc, cda, F⟩ := e4 f hf
    refine (ps_try_as1 (X := X) (i := ie) (tb := fun W' => rdSs X.K cl xc W' Γ b) (c := .ref C) G.stk G.frm G.g.nd hie hn ⟨gl_of h3, h4, .inl e2⟩ (fun W' pn xe tk' po' => ?_) (key fI cc cda F)).weak fun D σ H ⟨ρ, S, P, en, k, pr, w⟩ =>
      ⟨ρ, S, P.exc (fun x ρ1 S1 => (x.cls = c ∧ Γ.sub c c = some true ∧ ie < ρ1.length) ∧ ∃ d, x.arg = some d ∧ P.nx ((ρ1.set i (some (if l = true then .vls [d] else d))).set ie none) S1), en, k, ⟨pr.nx, pr.rt, pr.bk, pr.ct, ?_⟩, w⟩
    · exact ib (X.tr pn xe) W' body ⟨⟨G.g.N, G.g.nd, G.g.un, G.g.calm, tk', fun x i e => ⟨(G.g.fn x i e).ex⟩, G.g.con, G.g.blt, fun x c e => G.g.exc x c e, G.g.sub, G.g.gd, G.g.rp, G.g.fld⟩, po', G.top, G.kind, G.stk, G.frm⟩ h1
    · rintro ⟨xcls, xarg⟩ ρ' S' σ' cls dx H' ⟨⟨q1, q2, q5⟩, d, q3, q4⟩ st en' xr k'
      dsimp only at q1 q3
      subst q1 q3
      have hcls : cls = .ref C := xr.1.trans e1
      have xr2 := xr.2
      dsimp only at xr2
      rw [hf] at xr2
      obtain ⟨p, v', z1, z2, z3, z4⟩ := xr2
      subst z1 hcls
      refine ⟨?_, fun a ha => ?_⟩
      · have := G.g.sub _ _ _ q2
        rw [e1] at this
        exact this
      · have hlt : ie < σ'.length := by rw [en'.1]; exact q5
        have hget : (σ'.set ie (some (V.ref a)))[ie]? = some (some (V.ref a)) := List.getElem?_set_self hlt
        cases hl : l with
        | false =>
          rw [hl] at q4
          have hg : get = fun t => t := by funext t; show (if l = true then _ else _) = t; rw [hl]; rfl
          rw [hg]
          exact ⟨.ref a, hget, rfl, rfl, p, v', rfl, z3, pr.nx _ S' _ H' q4 st (env_as en' h7 z4) k'⟩
        | true =>
          rw [hl] at q4
          have hg : get = fun t => tLst (tCons t tNil) := by funext t; show (if l = true then _ else _) = _; rw [hl]; rfl
          rw [hg]
          refine ⟨.ref a, hget, rfl, rfl, p, v', rfl, z3, by show 1 ≤ sizeLine; rw [sizeLine_eq]; omega, fun pl hpl => ?_⟩
          have st2 : Step S' H' S' (upd H' pl (.lst [v'])) := Step.new hpl
          have r2 : Rep X.K S' (upd H' pl (.lst [v'])) (.ref pl) (.vls [d]) := .vls (vs := [v']) ⟨k'.free hpl, upd_same⟩ (.cons (z4.step st2) .nil)
          exact pr.nx _ S' _ _ q4 (st.trans st2) (env_as (en'.step st2) h7 r2) (k'.new hpl)
  · cases h
mutual
theorem soS : ∀ c : CS, SS T Γ cl xc c
  | .asg t c => ss_asg t c
  | .par i j a b => ss_par i j a b
  | .par3 i j l a b c => ss_par3 i j l a b c
  | .aug i op e => ss_aug i op e
  | .ife c a b => ss_ife c a b (soSs a) (soSs b)
  | .whl c b => ss_whl c b (soSs b)
  | .for_ t it b => ss_for t it b (soSs b)
  | .ret e => ss_ret e
  | .retN => ss_retN
  | .exp e => ss_exp e
  | .pass => ss_pass
  | .brk => ss_brk
  | .cnt => ss_cnt
  | .rse c => ss_rse c
  | .rsf c e => ss_rsf c e
  | .tryf b c i ie l => ss_tryf b c i ie l (soSs b)
  | .dput o i e => ss_dput o i e
  | .try_ b hs => ss_try b hs (soSs b)
  | .never => fun X W s G h => ps_never.weak fun D σ H ⟨ρ, S, P, en, k, pr, w⟩ => (show False from w).elim
theorem soSs : ∀ c : CSs, SSs T Γ cl xc c
  | .nil => fun X W ss G h => by
    cases ss with
    | cons _ _ => simp [chkSs] at h
    | nil => exact pss_nil.weak fun D σ H ⟨ρ, S, P, en, k, pr, w⟩ => pr.nx ρ S σ H w (Step.refl _ _) en k
  | .cons c cs => fun X W ss G h => by
    cases ss with
    | nil => simp [chkSs] at h
    | cons s r =>
      simp only [chkSs, Bool.and_eq_true] at h
      exact (pss_cons (soS c X W s G h.1) (soSs cs X W r G h.2)).weak fun D σ H ⟨ρ, S, P, en, k, pr, w⟩ =>
        ⟨ρ, S, P.nxt fun ρ1 S1 => wpSs Γ cs P ρ1 S1, en, k, ⟨fun ρ' S' σ' H' n' s' e' k' => ⟨ρ', S', P, e', k', pr.step s', n'⟩, pr.rt, pr.bk, pr.ct, pr.ex⟩, w⟩
end
/-- the module of a def -/
structure ModG (P : Program) (w : World) (K : PySem.W.Frag) (mg : Str → Option Value) (base : Heap) (k : Nat) (T : Tab) (Γ : Ctx) (cl : Nat → Addr) (xc : Nat → Value × Option Str) : Prop where
  fn : ∀ x i, T.fns.lookup x = some i → ∃ (f : Addr) (fd : FuncData) (ps : List Str), FnOk P w K mg base (L2.CX P w) k f fd ps (lift K cl xc (Γ.fn i) ps.length) ∧ mg x = some (.ref f) ∧ PySem.W.keepIn K (.ref f) = true ∧ ps.length = Γ.ar i ∧
    L2.Binds K fd ps [] ∧ ∀ n ks perm, (i, n, ks, perm) ∈ T.kws → perm.length = ps.length ∧ ∀ (s : Shared) (us ws vs : List Value), us.length = n → ws.length = ks.length → (perm.mapM fun j => (us ++ ws)[j]?) = some vs → BindsTo s fd ⟨us, ks.zip ws⟩ (ps.zip vs)
  con : ∀ x g d, T.cons.lookup x = some g → Γ.con g = some d → ∃ v u, mg x = some u ∧ RelV v u ∧ ∀ S H, Rep K S H v d
  blt : ∀ x : Str, x ∈ bltNames → mg x = none
  exc : ∀ x c, T.excs.lookup x = some c → ExcAt k P K mg (xc c.1) x c.2
  sub : ∀ a b v, Γ.sub a b = some v → PySem.W.exmOne K (xc a).1 (xc b).1 = some v
  rp : Γ.rp = rpD
  fld : ∀ c f, T.flds.lookup c = some f → (xc c).2 = some f
/-- a def called where no text is being made (guards: none) -/
def RunG (P : Program) (w : World) (K : PySem.W.Frag) (mg : Str → Option Value) (base : Heap) (k : Nat) (f : Addr) (fd : FuncData) (ps : List Str) (sp : L2.Sp) : Prop :=
  ∀ (A : Around) (outer : List PySem.Env) (s : Shared) (H : Hp) (args : Args) (us : List Value) (vs : List V) (Q : VK) (E : XK), A.guards = some [] → Room k A → Env0 P w K mg base A outer s H → BindsTo s fd args (ps.zip us) → Vals vs us → sp vs H Q E →
    codeAny (model P w) A (.call (.ref f) args) (CR (L2.CX P w) outer P w H s Q E) s
section
variable {P : Program} {w : World} {K : PySem.W.Frag} {mg : Str → Option Value} {base : Heap} {k : Nat} {x qual : Str} {st : Stmt} {f : Addr} {fd : FuncData} {ps : List Str} {c : CFn} {sp : Spec}
/-- the body, from a promise's premises -/
theorem body_ok (S : FnScope T.N ps (defScope st)) (M : ModG P w K mg base k T Γ cl xc) (hc : chkSs T (defScope st) c.body (defBody st) = true) (hn : c.slots = T.N.length) (h : ∀ ds S Q E, ds.length = ps.length → sp ds S Q E → wpFn Γ c ds S Q E)
    {cdv : Value} {A : Around} {outer : List PySem.Env} {s : Shared} {H : Hp} {vs : List V} {Q : VK} {E : XK} (hr : Room k (A.deeper (envOfC qual (defScope st) s.heap.objs.size f cdv))) (hsp : lift K cl xc sp ps.length vs H Q E)
    (hg : T.rp = true → (A.deeper (envOfC qual (defScope st) s.heap.objs.size f cdv)).guards = some []) :
    ∃ t, PSs (cxOf (L2.CX P w) P w K mg base T.N qual (defScope st) f cdv A outer s H E) (defBody st) t ∧ t { nx := fun _ H' => Q .non H', rt := Q } (L2.start T.N vs) H := by
  obtain ⟨hl, ds, Sz, Q0, E0, hS, rs, hsp, an, ex⟩ := hsp
  have hw := h ds Sz Q0 E0 (rs.length.symm.trans hl) hsp
  have tk : Takes (cxOf (L2.CX P w) P w K mg base T.N qual (defScope st) f cdv A outer s H E) (fun cls d _ H' => E cls d H') := takes_of rfl rfl rfl rfl
  have G : GoodS (cxOf (L2.CX P w) P w K mg base T.N qual (defScope st) f cdv A outer s H E) T Γ cl xc (fun cls d _ H' => E cls d H') :=
    ⟨⟨rfl, S.nd, hr.units, rfl, tk, fun y i e => ⟨by
      obtain ⟨f', fd', ps', a, b, c, d, e1, e2⟩ := M.fn y i e
      exact ⟨k, f', fd', ps', a, hr, b, c, d, e1, e2⟩⟩, M.con, M.blt, fun y c e => ⟨k, hr, M.exc y c e⟩, M.sub, hg, M.rp, M.fld⟩, passes_of rfl, fun _ => rfl, S.kind, rfl, rfl⟩
  refine ⟨_, soSs c.body _ _ _ G hc, startD c.slots ds, Sz, _, ?_, hS, ?_, hw⟩
  · rw [hn]
    refine EnvR.start rs ?_
    have := congrArg List.length S.pre
    rw [List.length_take] at this
    omega
  · refine ⟨?_, ?_, ?_, ?_, ?_⟩
    · rintro ρ S1 σ H1 ⟨S', sb, q⟩ s1 _ k1
      exact an .non S' .non H1 q (s1.sub sb) .non (k1.sub sb)
    · rintro d S1 v H1 ⟨S', sb, q⟩ s1 r1 k1
      exact an d S' v H1 q (s1.sub sb) (r1.sub sb) (k1.sub sb)
    · exact fun _ _ _ _ z => z.elim
    · exact fun _ _ _ _ z => z.elim
    · rintro x ρ S1 σ cls dx H1 ⟨S', sb, q⟩ s1 _ xr k1
      refine ex x S' cls dx H1 q (s1.sub sb) ?_ (k1.sub sb)
      obtain ⟨h1, h2⟩ := xr
      refine ⟨h1, ?_⟩
      split at h2
      · exact h2
      · obtain ⟨p, v, z1, z2, z3, z4⟩ := h2
        exact ⟨p, v, z1, sb.free z2, z3, z4.sub sb⟩
      · exact h2.elim
/-- THE RULE: a def of the text keeps a promise, if its piece wants no more than that -/
theorem fn_ok (F : Fun K x qual st f fd) (S : FnScope T.N ps (defScope st)) (hrp : T.rp = false)
    (M : ModG P w K mg base k T Γ cl xc) (hc : chkSs T (defScope st) c.body (defBody st) = true) (hn : c.slots = T.N.length) (h : ∀ ds S Q E, ds.length = ps.length → sp ds S Q E → wpFn Γ c ds S Q E) :
    FnOk P w K mg base (L2.CX P w) (k + 1) f fd ps (lift K cl xc sp ps.length) :=
  F.okX S (fun vs H Q E h => h.1) fun cdv A outer s H vs Q E hr hsp => body_ok S M hc hn h hr hsp fun z => by rw [hrp] at z; cases z
/-- the same for a def that asks repr, called where no text is being made -/
theorem fn_okG (F : Fun K x qual st f fd) (S : FnScope T.N ps (defScope st))
    (M : ModG P w K mg base k T Γ cl xc) (hc : chkSs T (defScope st) c.body (defBody st) = true) (hn : c.slots = T.N.length) (h : ∀ ds S Q E, ds.length = ps.length → sp ds S Q E → wpFn Γ c ds S Q E) :
    RunG P w K mg base (k + 1) f fd ps (lift K cl xc sp ps.length) := by
  obtain ⟨oc, od, kV, doc, pm, an, cdv, ct, osl, rfl, lk, hcd⟩ := F.ex
  intro A outer s H args us vs Q E gd hr e0 hb rv hsp
  have hin : K.In s.heap := e0.mod.kin.keeps fun b o e => (e0.bs b o e).1
  have hlim : s.heap.NoLimit := e0.mod.nolimit.keeps fun b o e => (e0.bs b o e).1
  refine codeAny_call_function hr.depth (hin _ _ lk) rfl S.co S.gen rfl (PySem.W.codeRec_of hin hcd) (hb _ _ _ _ (wpAny_newFunctionEnv_cells S.kind (fun ⟨n, v⟩ hy => ?_) fun env he s1 z => ?_))
  · exact (S.par n (List.of_mem_zip hy).1).imp id fun q => ⟨q, PySem.W.cellsFrom_some _ _ _ (.inl q)⟩
  · subst he
    refine ⟨hlim.keeps z.toInCall.keep, codeAny_func ?_⟩
    obtain ⟨t, ht, hq⟩ := body_ok (outer := outer) (s := s) (f := f) (qual := qual) (cdv := cdv) S M hc hn h (hr.deeper _) hsp fun _ => gd
    refine wpAny_mono (ht.run [] s1 (L2.start T.N vs) H _ (inv_start S hr.hd e0 hsp.1 rv z) hq) (fun fl s' hs => ?_) fun e s' hs => hs
    cases fl with
    | ret u =>
      obtain ⟨v, σ', H', J, rv, q⟩ := hs
      exact ⟨v, H', J.os, J.bare, J.base, J.hok, rv, q⟩
    | next =>
      obtain ⟨σ', H', J, q⟩ := hs
      exact ⟨.non, H', J.os, J.bare, J.base, J.hok, rfl, q⟩
    | brk => exact (show False from by obtain ⟨_, _, _, z⟩ := hs; exact z).elim
    | cont => exact (show False from by obtain ⟨_, _, _, z⟩ := hs; exact z).elim
end
end
end XC
end

section
set_option Elab.async false
set_option linter.all false
set_option maxRecDepth 100000
set_option maxHeartbeats 4000000
namespace XC
open PySem PySem.Spec PyProof.Rows L2
/-- a def of the module, as the top left it -/
def DK (K : PySem.W.Frag) (x : Str) (st : Stmt) : Prop :=
  ∃ (f : Addr) (oc : Value) (od an : Option Addr) (osl : Array (Option Value)) (kV doc pm cd ct : Value), PySem.W.nsIn K mainGlobals x = some (some (.ref f)) ∧
    K.lookup f = some ⟨oc, od, .func (PySem.W.fnOf x x (defArgs st) (defBody st) (defScope st) .none kV doc pm an cd ct), osl⟩ ∧ PySem.W.codeIn K cd x = true ∧ PySem.W.keepIn K (.ref f) = true
theorem dk_of {K : PySem.W.Frag} {x : Str} {st : Stmt} {f : Addr} {oc : Value} {od an : Option Addr} {osl : Array (Option Value)} {kV doc pm cd ct : Value} (a : PySem.W.nsIn K mainGlobals x = some (some (.ref f)))
    (l : K.lookup f = some ⟨oc, od, .func (PySem.W.fnOf x x (defArgs st) (defBody st) (defScope st) .none kV doc pm an cd ct), osl⟩) (c : PySem.W.codeIn K cd x = true) (k : PySem.W.keepIn K (.ref f) = true) : DK K x st := ⟨f, oc, od, an, osl, kV, doc, pm, cd, ct, a, l, c, k⟩
/-- how arguments by names bind -/
def KwS (x : Str) (st : Stmt) (ps : List Str) (n : Nat) (ks : List Str) (perm : List Nat) : Prop := perm.length = ps.length ∧
  ∀ (kV doc pm : Value) (an : Option Addr) (cdv ct : Value) (s : Shared) (us ws vs : List Value), us.length = n → ws.length = ks.length → (perm.mapM fun j => (us ++ ws)[j]?) = some vs →
    BindsTo s (PySem.W.fnOf x x (defArgs st) (defBody st) (defScope st) .none kV doc pm an cdv ct) ⟨us, ks.zip ws⟩ (ps.zip vs)
/-- how arguments by places bind -/
def PoS (x : Str) (st : Stmt) (ps : List Str) : Prop := ∀ (kV doc pm : Value) (an : Option Addr) (cdv ct : Value) (us : List Value), us.length = ps.length →
  bindArgs (PySem.W.fnOf x x (defArgs st) (defBody st) (defScope st) .none kV doc pm an cdv ct) ⟨us, []⟩ = pure (ps.zip us)
section
variable {P : Program} {w : World} {K : PySem.W.Frag} {mg : Str → Option Value} {base : Heap} {cl : Nat → Addr} {xc : Nat → Value × Option Str} {k j : Nat} {x : Str} {st : Stmt} {ps : List Str} {sp : Spec} {T : Tab} {Γ : Ctx} {c : CFn}
/-- a def that keeps its promise -/
def Kp (P : Program) (w : World) (K : PySem.W.Frag) (mg : Str → Option Value) (base : Heap) (cl : Nat → Addr) (xc : Nat → Value × Option Str) (k : Nat) (x : Str) (st : Stmt) (ps : List Str) (sp : Spec) : Prop :=
  ∃ (f : Addr) (fd : FuncData), Fun K x x st f fd ∧ mg x = some (.ref f) ∧ Binds K fd ps [] ∧ FnOk P w K mg base (L2.CX P w) k f fd ps (lift K cl xc sp ps.length)
theorem Kp.mono (h : Kp P w K mg base cl xc j x st ps sp) (e : j ≤ k) : Kp P w K mg base cl xc k x st ps sp := by
  obtain ⟨f, fd, a, b, d, g⟩ := h
  exact ⟨f, fd, a, b, d, g.mono e⟩
theorem DK.kp {h : Heap} (D : DK K x st) (X : K.In h) (G : h.Ns mainGlobals mg) (po : PoS x st ps) (g : ∀ f fd, Fun K x x st f fd → FnOk P w K mg base (L2.CX P w) k f fd ps (lift K cl xc sp ps.length)) : Kp P w K mg base cl xc k x st ps sp := by
  obtain ⟨f, oc, od, an, osl, kV, doc, pm, cd, ct, e1, e2, e3, e4⟩ := D
  have F := fun_mk (st := st) e2 e3 e4
  exact ⟨f, _, F, PySem.W.mg_of X G e1, F.binds po, g f _ F⟩
/-- THE RULE -/
theorem kp_ok {h : Heap} (hrp : T.rp = false) (D : DK K x st) (X : K.In h) (G : h.Ns mainGlobals mg) (po : PoS x st ps) (S : FnScope T.N ps (defScope st)) (M : ModG P w K mg base k T Γ cl xc) (hc : chkSs T (defScope st) c.body (defBody st) = true) (hn : c.slots = T.N.length)
    (hw : ∀ ds S Q E, sp ds S Q E → wpFn Γ c ds S Q E) : Kp P w K mg base cl xc (k + 1) x st ps sp :=
  D.kp X G po fun _ _ F => fn_ok F S hrp M hc hn fun ds S Q E _ => hw ds S Q E
/-- a promise never asked for -/
theorem kp_zero {h : Heap} {N : List Str} (D : DK K x st) (X : K.In h) (G : h.Ns mainGlobals mg) (po : PoS x st ps) (S : FnScope N ps (defScope st)) (hw : ∀ ds S Q E, sp ds S Q E → False) : Kp P w K mg base cl xc (k + 1) x st ps sp :=
  D.kp X G po fun _ _ F => F.okX S (fun vs H Q E h => h.1) fun cdv A outer s H vs Q E hr ⟨hl, ds, Sz, Q0, E0, hS, rs, hsp, an, ex⟩ => (hw _ _ _ _ hsp).elim
def mkG (l : List (Nat × Nat × Spec)) (cs : List (Nat × D)) (sb : List ((Nat × Nat) × Bool)) : Ctx :=
  ⟨fun i => match l.lookup i with | some p => p.2 | none => fun _ _ _ _ => False, fun i => match l.lookup i with | some p => p.1 | none => 0, fun i => cs.lookup i, fun a b => sb.lookup (a, b), rpD⟩
/-- one callee -/
def Cle (P : Program) (w : World) (K : PySem.W.Frag) (mg : Str → Option Value) (base : Heap) (cl : Nat → Addr) (xc : Nat → Value × Option Str) (k : Nat) (T : Tab) (Γ : Ctx) (p : Str × Nat) : Prop :=
  ∃ st ps, Kp P w K mg base cl xc k p.1 st ps (Γ.fn p.2) ∧ ps.length = Γ.ar p.2 ∧ ∀ n ks perm, (p.2, n, ks, perm) ∈ T.kws → KwS p.1 st ps n ks perm
theorem lookup_all {α : Type} {C : Str × α → Prop} : ∀ (l : List (Str × α)), (∀ p ∈ l, C p) → ∀ x i, l.lookup x = some i → C (x, i)
  | [], _, x, i, h => by cases h
  | (y, j) :: r, hc, x, i, h => by
    rw [List.lookup_cons] at h
    split at h
    · rename_i e
      cases h
      rw [beq_iff_eq.mp e]
      exact hc _ (by simp)
    · exact lookup_all r (fun p hp => hc p (by simp [hp])) x i h
theorem modG_mk (hf : ∀ p ∈ T.fns, Cle P w K mg base cl xc k T Γ p) (hc : ∀ p ∈ T.cons, ∀ d, Γ.con p.2 = some d → ∃ v u, mg p.1 = some u ∧ RelV v u ∧ ∀ S H, Rep K S H v d) (hb : ∀ x : Str, x ∈ bltNames → mg x = none)
    (he : ∀ p ∈ T.excs, ExcAt k P K mg (xc p.2.1) p.1 p.2.2) (hs : ∀ a b v, Γ.sub a b = some v → PySem.W.exmOne K (xc a).1 (xc b).1 = some v) (hfl : ∀ c f, T.flds.lookup c = some f → (xc c).2 = some f) (hrp : Γ.rp = rpD := by rfl) : ModG P w K mg base k T Γ cl xc := by
  refine ⟨fun x i e => ?_, fun x g d e1 e2 => ?_, hb, fun x c e => lookup_all (C := fun p => ExcAt k P K mg (xc p.2.1) p.1 p.2.2) _ he x c e, hs, hrp, hfl⟩
  · obtain ⟨st, ps, ⟨f, fd, F, m, b, g⟩, hl, kw⟩ := lookup_all _ hf x i e
    refine ⟨f, fd, ps, g, m, F.kp, hl, b, fun n ks perm hm => ?_⟩
    obtain ⟨h1, h2⟩ := kw n ks perm hm
    refine ⟨h1, fun s us ws vs a1 a2 a3 => ?_⟩
    obtain ⟨oc, od, kV, doc, pm, an, cdv, ct, osl, rfl, lk, hcd⟩ := F.ex
    exact h2 kV doc pm an cdv ct s us ws vs a1 a2 a3
  · exact lookup_all (C := fun p => ∀ d, Γ.con p.2 = some d → ∃ v u, mg p.1 = some u ∧ RelV v u ∧ ∀ S H, Rep K S H v d) _ hc x g e1 d e2
theorem kws_none {i : Nat} {x : Str} {kws : List (Nat × Nat × List Str × List Nat)} (h : (kws.all fun p => p.1 != i) = true) : ∀ n ks perm, (i, n, ks, perm) ∈ kws → KwS x st ps n ks perm := fun n ks perm hm => by
  have := List.all_eq_true.mp h _ hm
  simp at this
theorem kws_all {i : Nat} {x : Str} {kws : List (Nat × Nat × List Str × List Nat)} (h : ∀ p ∈ kws, p.1 = i → KwS x st ps p.2.1 p.2.2.1 p.2.2.2) : ∀ n ks perm, (i, n, ks, perm) ∈ kws → KwS x st ps n ks perm := fun n ks perm hm => h _ hm rfl
/-- a constant of the module: a pair of integers -/
theorem con_two {h : Heap} {x : Str} {a : Addr} {od : Option Addr} {sl : Array (Option Value)} {i j : Int} {t u : Tok} {n : Nat} (X : K.In h) (G : h.Ns mainGlobals mg) (e1 : PySem.W.nsIn K mainGlobals x = some (some (.ref a)))
    (e2 : K.lookup a = some ⟨.type "tuple", od, .seq #[.int i t, .int j u] n, sl⟩) : ∃ v w, mg x = some w ∧ RelV v w ∧ ∀ S H, Rep K S H v (.tup [.int i, .int j]) :=
  ⟨.ref a, .ref a, PySem.W.mg_of X G e1, rfl, fun S H => .tup (vs := [.int i, .int j]) (.inr ⟨_, _, _, e2, rfl, rfl, (by show 2 ≤ sizeLine; rw [sizeLine_eq]; decide), .cons ⟨t, rfl⟩ (.cons ⟨u, rfl⟩ .nil)⟩) (.cons (.int i) (.cons (.int j) .nil))⟩
/-- a constant pair, as the top left it -/
def CK2 (K : PySem.W.Frag) (x : Str) (i j : Int) : Prop := ∃ (a : Addr) (od : Option Addr) (sl : Array (Option Value)) (t u : Tok) (n : Nat), PySem.W.nsIn K mainGlobals x = some (some (.ref a)) ∧ K.lookup a = some ⟨.type "tuple", od, .seq #[.int i t, .int j u] n, sl⟩
theorem ck2_of {K : PySem.W.Frag} {x : Str} {i j : Int} {a : Addr} {od : Option Addr} {sl : Array (Option Value)} {t u : Tok} {n : Nat} (e1 : PySem.W.nsIn K mainGlobals x = some (some (.ref a)))
    (e2 : K.lookup a = some ⟨.type "tuple", od, .seq #[.int i t, .int j u] n, sl⟩) : CK2 K x i j := ⟨a, od, sl, t, u, n, e1, e2⟩
theorem CK2.con {h : Heap} {x : Str} {i j : Int} (C : CK2 K x i j) (X : K.In h) (G : h.Ns mainGlobals mg) {Γ : Ctx} {g : Nat} {d0 : D} (e0 : Γ.con g = some d0) (ed : d0 = .tup [.int i, .int j]) : ∀ d, Γ.con g = some d → ∃ v w, mg x = some w ∧ RelV v w ∧ ∀ S H, Rep K S H v d := by
  intro d e
  obtain ⟨a, od, sl, t, u, n, e1, e2⟩ := C
  rw [e0] at e
  cases e
  subst ed
  exact con_two X G e1 e2
/-- a constant integer -/
def CKI (K : PySem.W.Frag) (x : Str) (i : Int) : Prop := ∃ t : Tok, PySem.W.nsIn K mainGlobals x = some (some (.int i t))
theorem cki_of {K : PySem.W.Frag} {x : Str} {i : Int} {t : Tok} (e1 : PySem.W.nsIn K mainGlobals x = some (some (.int i t))) : CKI K x i := ⟨t, e1⟩
theorem CKI.con {h : Heap} {x : Str} {i : Int} (C : CKI K x i) (X : K.In h) (G : h.Ns mainGlobals mg) {Γ : Ctx} {g : Nat} {d0 : D} (e0 : Γ.con g = some d0) (ed : d0 = .int i) : ∀ d, Γ.con g = some d → ∃ v w, mg x = some w ∧ RelV v w ∧ ∀ S H, Rep K S H v d := by
  intro d e
  obtain ⟨t, e1⟩ := C
  rw [e0] at e
  cases e
  subst ed
  exact ⟨.int i, .int i t, PySem.W.mg_of X G e1, ⟨t, rfl⟩, fun S H => .int i⟩
/-- a constant text -/
def CKS (K : PySem.W.Frag) (x : Str) (i : Str) : Prop := ∃ t : Tok, PySem.W.nsIn K mainGlobals x = some (some (.str i t))
theorem cks_of {K : PySem.W.Frag} {x : Str} {i : Str} {t : Tok} (e1 : PySem.W.nsIn K mainGlobals x = some (some (.str i t))) : CKS K x i := ⟨t, e1⟩
theorem CKS.con {h : Heap} {x : Str} {i : Str} (C : CKS K x i) (X : K.In h) (G : h.Ns mainGlobals mg) {Γ : Ctx} {g : Nat} {d0 : D} (e0 : Γ.con g = some d0) (ed : d0 = .str i) : ∀ d, Γ.con g = some d → ∃ v w, mg x = some w ∧ RelV v w ∧ ∀ S H, Rep K S H v d := by
  intro d e
  obtain ⟨t, e1⟩ := C
  rw [e0] at e
  cases e
  subst ed
  exact ⟨.str i, .str i t, PySem.W.mg_of X G e1, ⟨t, rfl⟩, fun S H => .str i⟩
/-- where a name of the module leads -/
def adr (K : PySem.W.Frag) (x : Str) : Addr := match PySem.W.nsIn K mainGlobals x with
  | some (some (.ref a)) => a
  | _ => 0
theorem adr_of {x : Str} {C : Addr} (a : PySem.W.nsIn K mainGlobals x = some (some (.ref C))) : adr K x = C := by unfold adr; rw [a]
/-- the classes by their numbers: name, field -/
def xcOf (K : PySem.W.Frag) (xl : List (Nat × Str × Option Str)) : Nat → Value × Option Str := fun i => match xl.lookup i with
  | some (x, f) => (.ref (adr K x), f)
  | none => (.none, none)
/-- the fields of classes, by their numbers -/
theorem fld_of {K : PySem.W.Frag} {xl : List (Nat × Str × Option Str)} : ∀ (l : List (Nat × Str)), (l.all fun p => match xl.lookup p.1 with | some (_, some f) => f == p.2 | _ => false) = true → ∀ c f, l.lookup c = some f → (xcOf K xl c).2 = some f
  | [], _, c, f, h => by cases h
  | (d, g) :: r, ha, c, f, h => by
    rw [List.all_cons, Bool.and_eq_true] at ha
    rw [List.lookup_cons] at h
    split at h
    · rename_i e
      cases h
      have e := beq_iff_eq.mp e
      subst e
      have h1 := ha.1
      unfold xcOf
      split at h1
      · rename_i y f' e
        dsimp only at e
        rw [e]
        rw [eq_of_beq h1]
      · cases h1
    · exact fld_of r ha.2 c f h
/-- a class of exceptions, as the top left it -/
structure EB (K : PySem.W.Frag) (x : Str) (C : Addr) : Prop where
  a : PySem.W.nsIn K mainGlobals x = some (some (.ref C))
  k : PySem.W.keepIn K (.ref C) = true
  b : PySem.W.subIn K (.ref C) (.type "BaseException") = some true
  t : PySem.W.typeIn K (.ref C) = some (.type "type")
  i : PySem.W.isClsIn K C = true
/-- .. without an own __init__ -/
structure EK (K : PySem.W.Frag) (x : Str) (C : Addr) : Prop where
  eb : EB K x C
  q : PySem.W.excIn K C [.type "ValueError", .type "Exception", .type "BaseException", .type "object"] "ValueError.__new__" = true
theorem EK.at {x : Str} {C : Addr} (E : EK K x C) {h : Heap} (X : K.In h) (G : h.Ns mainGlobals mg) {xl : List (Nat × Str × Option Str)} {c : Nat} (hl : xl.lookup c = some (x, none)) {P : Program} {k : Nat} : ExcAt k P K mg (xcOf K xl c) x true := by
  refine ⟨C, ?_, PySem.W.mg_of X G E.eb.a, fun _ => ⟨?_, E.eb.k, E.eb.b, E.eb.t, _, _, _, _, PySem.F.excBase_ValueError, E.q⟩, fun f hf => ?_⟩
  · unfold xcOf; rw [hl]; show Value.ref (adr K x) = _; rw [adr_of E.eb.a]
  · unfold xcOf; rw [hl]
  · exfalso
    have e : (xcOf K xl c).2 = none := by unfold xcOf; rw [hl]
    rw [e] at hf
    cases hf
/-- a class of exceptions whose __init__ says super().__init__('t'); self.f = f -/
structure FK (P : Program) (K : PySem.W.Frag) (x fld : Str) (C fI cc cda : Addr) : Prop where
  eb : EB K x C
  su : PySem.W.nsIn K mainGlobals "super" = some none
  tx : ∀ mg : Str → Option Value, mg x = some (.ref C) → mg "super" = none → Own.FldTxt P K mg x fld C fI cc cda
theorem FK.at {P : Program} {x fld : Str} {C fI cc cda : Addr} (E : FK P K x fld C fI cc cda) {h : Heap} (X : K.In h) (G : h.Ns mainGlobals mg) {xl : List (Nat × Str × Option Str)} {c k : Nat} (hl : xl.lookup c = some (x, some fld)) (hk : 1 ≤ k) : ExcAt k P K mg (xcOf K xl c) x false := by
  refine ⟨C, ?_, PySem.W.mg_of X G E.eb.a, (fun z => nomatch z), fun f hf => ?_⟩
  · unfold xcOf; rw [hl]; show Value.ref (adr K x) = _; rw [adr_of E.eb.a]
  · have e : (xcOf K xl c).2 = some fld := by unfold xcOf; rw [hl]
    rw [e] at hf
    cases hf
    exact ⟨hk, fI, cc, cda, E.tx mg (PySem.W.mg_of X G E.eb.a) (PySem.W.mg_none_of X G E.su)⟩
open PySem.W Own in
theorem fk_of {P : Program} {K : PySem.W.Frag} {x fld : Str} {C fI cc cda : Addr} {nm q : Str} {N : Addr} {bs bm : List Value} {sn : List Str} {sub : List Value} {ab : Bool} {col : Option Bool} {dd : Option Addr} {k0 k1 k2 k3 k5 : Option Value}
    {oc : Value} {od : Option Addr} {doc pm : Value} {an : Option Addr} {ct : Value} {osl : Array (Option Value)} {p1 p2 : Pos} {t qn : Str} {j : Nat} {q1 q2 q3 q4 q5 q6 q7 q8 q9 q10 : Pos}
    {cl : Value} {cld : Option Addr} {csl : Array (Option Value)} {ccl : Value} {cdd : Option Addr} {vs : Array Value} {ccs : Array (Option Value)} {file : Str} {tf : Tok}
    (eb : EB K x C) (su : nsIn K mainGlobals "super" = some none) (cls : K.lookup C = some (excClassObj nm q C N bs bm true sn sub ab col dd k0 k1 k2 k3 k5 "ValueError.__new__")) (hbm : PySem.HandSPX.refsVE bm = true)
    (sa : findIn K (.ref C) "__setattr__" = some (some (.builtin "object.__setattr__"))) (ga : findIn K (.ref C) "__getattribute__" = some (some (.builtin "BaseException.__getattribute__"))) (gg : findIn K (.ref C) "__getattr__" = some none)
    (noN : findIn K (.ref C) fld = some none) (iC : findIn K (.ref C) "__init__" = some (some (.ref fI))) (tC : typeIn K (.ref fI) = some (.type "function")) (hdC : hasDictIn K C = true)
    (fn : K.lookup fI = some ⟨oc, od, .func (ksFn "__init__" qn (oA fld p1 p2) (oB fld t j ⟨q1, q2, q3, q4, q5, q6, q7, q8, q9, q10⟩) (oS fld) .none .none doc pm an (.ref cda) ct cc), osl⟩) (cd : codeIn K (.ref cda) qn = true)
    (sv : ks_superIn K C C "__init__" = some (some (.builtin "ValueError.__init__"))) (subV : subIn K (.ref C) (.type "ValueError") = some true) (mro : mroIn K C (.ref C) = some true) (opq : nsIn K cStatics "thirdparty.any" = some none)
    (cell : K.lookup cc = some ⟨cl, cld, .cell (some (.ref C)), csl⟩) (code : K.lookup cda = some ⟨ccl, cdd, .fields vs, ccs⟩) (hvs : vs[2]? = some (.str file tf)) (hfile : ((P.main.file : Str) == file) = true)
    (top : (P.main.scope.names.lookup ("super" : Str)).isSome = false)
    (hbd : ∀ (s : Shared) (x v : Value), BindsTo s (ksFn "__init__" qn (oA fld p1 p2) (oB fld t j ⟨q1, q2, q3, q4, q5, q6, q7, q8, q9, q10⟩) (oS fld) .none .none doc pm an (.ref cda) ct cc) ⟨[x, v], []⟩ [("self", x), (fld, v)])
    (hsc : SupCall t j ⟨q1, q2, q3, q4, q5, q6, q7, q8, q9, q10⟩)
    (lf : (oS fld).names.lookup fld = some .local) (lk : (oS fld).names.lookup ("__class__" : Str) = some .free) (lu : (oS fld).names.lookup ("super" : Str) = some .globalImplicit) (nd : (fld == ("__debug__" : Str)) = false) (nse : (("self" : Str) == fld) = false) :
    FK P K x fld C fI cc cda :=
  ⟨eb, su, fun mg h1 h2 => { gC := h1, mgs := h2, cls := ⟨_, _, _, _, _, _, _, _, _, _, _, _, _, _, _, cls, hbm⟩, sa := sa, ga := ga, gg := gg, noN := noN, iC := iC, tC := tC, kC := eb.k, exC := eb.b, tyC := eb.t, hdC := hdC, sv := sv, subV := subV, mro := mro, opq := opq, cell := ⟨_, _, _, cell⟩, code := ⟨_, _, _, _, _, _, code, hvs, hfile⟩, top := top, fn := ⟨_, _, _, _, _, _, _, _, _, _, _, _, _, fn, cd, hbd, hsc⟩, lf := lf, lk := lk, lu := lu, nd := nd, nse := nse }⟩
theorem exm_of {x y : Str} {C D : Addr} {v : Bool} (E : EB K x C) (F : EB K y D) (s : PySem.W.subIn K (.ref C) (.ref D) = some v) {xl : List (Nat × Str × Option Str)} {c d : Nat} {f g : Option Str} (h1 : xl.lookup c = some (x, f)) (h2 : xl.lookup d = some (y, g)) :
    PySem.W.exmOne K (xcOf K xl c).1 (xcOf K xl d).1 = some v := by
  have e1 : (xcOf K xl c).1 = .ref C := by unfold xcOf; rw [h1]; show Value.ref (adr K x) = _; rw [adr_of E.a]
  have e2 : (xcOf K xl d).1 = .ref D := by unfold xcOf; rw [h2]; show Value.ref (adr K y) = _; rw [adr_of F.a]
  rw [e1, e2]
  have q1 : (PySem.W.subIn K (.ref D) (.type "BaseException") == some true) = true := by rw [F.b]; rfl
  have q2 : ((PySem.W.clsIn K D).isSome && PySem.W.typeIn K (.ref D) == some (.type "type")) = true := by
    have h2' : (PySem.W.clsIn K D).isSome = true := F.i
    rw [h2', F.t]; rfl
  show (if (PySem.W.subIn K (.ref D) (.type "BaseException") == some true) = true then (if ((PySem.W.clsIn K D).isSome && PySem.W.typeIn K (.ref D) == some (.type "type")) = true then PySem.W.subIn K (.ref C) (.ref D) else none) else none) = some v
  rw [if_pos q1, if_pos q2]
  exact s
theorem sub_none {xc : Nat → Value × Option Str} : ∀ (a b : Nat) (v : Bool), ([] : List ((Nat × Nat) × Bool)).lookup (a, b) = some v → PySem.W.exmOne K (xc a).1 (xc b).1 = some v := fun _ _ _ h => by cases h
theorem sub_all {xc : Nat → Value × Option Str} : ∀ (l : List ((Nat × Nat) × Bool)), (∀ p ∈ l, PySem.W.exmOne K (xc p.1.1).1 (xc p.1.2).1 = some p.2) → ∀ a b v, l.lookup (a, b) = some v → PySem.W.exmOne K (xc a).1 (xc b).1 = some v
  | [], _, a, b, v, h => by cases h
  | (p, u) :: r, hc, a, b, v, h => by
    rw [List.lookup_cons] at h
    split at h
    · rename_i e
      cases h
      have e' : (a, b) = p := beq_iff_eq.mp e
      subst e'
      exact hc ((a, b), _) List.mem_cons_self
    · exact sub_all r (fun p hp => hc p (by simp [hp])) a b v h
end
/-- a def that keeps its promise where no text is being made -/
def KpG (P : Program) (w : World) (K : PySem.W.Frag) (mg : Str → Option Value) (base : Heap) (cl : Nat → Addr) (xc : Nat → Value × Option Str) (k : Nat) (x : Str) (st : Stmt) (ps : List Str) (sp : Spec) : Prop :=
  ∃ (f : Addr) (fd : FuncData), Fun K x x st f fd ∧ mg x = some (.ref f) ∧ RunG P w K mg base k f fd ps (lift K cl xc sp ps.length)
theorem kp_okG {P : Program} {w : World} {K : PySem.W.Frag} {mg : Str → Option Value} {base : Heap} {cl : Nat → Addr} {xc : Nat → Value × Option Str} {k : Nat} {x : Str} {st : Stmt} {ps : List Str} {sp : Spec} {T : Tab} {Γ : Ctx} {c : CFn} {h : Heap}
    (D : DK K x st) (X : K.In h) (G : h.Ns mainGlobals mg) (S : FnScope T.N ps (defScope st)) (M : ModG P w K mg base k T Γ cl xc) (hc : chkSs T (defScope st) c.body (defBody st) = true) (hn : c.slots = T.N.length)
    (hw : ∀ ds S Q E, sp ds S Q E → wpFn Γ c ds S Q E) : KpG P w K mg base cl xc (k + 1) x st ps sp := by
  obtain ⟨f, oc, od, an, osl, kV, doc, pm, cd, ct, e1, e2, e3, e4⟩ := D
  exact ⟨f, _, fun_mk (st := st) e2 e3 e4, PySem.W.mg_of X G e1, fn_okG (fun_mk (st := st) e2 e3 e4) S M hc hn fun ds S Q E _ => hw ds S Q E⟩
/-- the script -/
theorem law_sp {K : PySem.W.Frag} {cl : Nat → Addr} {xc : Nat → Value × Option Str} {sp : Spec} {H : Hp} {a : Addr} {ns : List Int} (hs : sp [.scr (ns.map D.int)] (fun _ => none) (fun d _ => d = .bl true) (fun _ _ => False)) (hS : SqL K H a (ns.map V.int)) :
    lift K cl xc sp 1 [.ref a] H (fun v _ => v = .bl true) fun _ _ _ => False := by
  refine ⟨rfl, [.scr (ns.map D.int)], fun _ => none, _, _, (fun _ _ h => by cases h), .cons (.scr (hS.elim (fun z => .inl ⟨rfl, z⟩) .inr) ?_) .nil, hs, ?_, fun x S' cls dx H' h => h.elim⟩
  · clear hS hs
    induction ns with
    | nil => exact .nil
    | cons n ns ih => exact .cons (.int n) ih
  · rintro d S' v H1 rfl s r k
    cases r
    rfl
/-- the script's call, no text being made: it lies in the written part, or is locked -/
theorem call_G {P : Program} {w : World} {K : PySem.W.Frag} {mg mb : Str → Option Value} {k : Nat} {fa a : Addr} {fd : FuncData} {x : Str} {sp : L2.Sp} {s : Shared} {vs : List Value} {ns : List Int}
    (KX : K.In s.heap) (hn : s.heap.Ns mainGlobals mg) (hb : s.heap.Ns builtinsNs mb) (hbb : ∀ x : Str, x ≠ "__name__" → mb x = bootBuiltins x) (hlim : s.heap.NoLimit) (hg : s.gens = #[])
    (ha : s.heap.get? a = some { cls := .type "list", data := .seq vs.toArray }) (hi : IntsAre vs ns) (hl : ns.length ≤ sizeLine) (hr : Room k callerA)
    (F : ∀ base : Heap, K.In base → base.Ns mainGlobals mg → RunG P w K mg base k fa fd [x] sp) (hbind : ∀ (s : Shared) (u : Value), BindsTo s fd ⟨[u], []⟩ [(x, u)])
    (hsp : ∀ H : Hp, Only H → SqL K H a (ns.map V.int) → sp [.ref a] H (fun v _ => v = .bl true) fun _ _ _ => False) :
    codeAny (model P w) callerA (.call (.ref fa) ⟨[.ref a], []⟩) (fun r s' => r = .ok (.ret (.bool true)) ∧ OldK s.heap s'.heap ∧ s'.os = s.os ∧ AllBare s'.gens) s := by
  have rv := vals_ints hi
  -- one way for both: H tracks at most the script
  have way : ∀ H : Hp, Only H → SqL K H a (ns.map V.int) → HOk P w H s.heap → (∀ b u, H b = some u → b = a ∧ K.lookup a = none) →
      codeAny (model P w) callerA (.call (.ref fa) ⟨[.ref a], []⟩) (fun r s' => r = .ok (.ret (.bool true)) ∧ OldK s.heap s'.heap ∧ s'.os = s.os ∧ AllBare s'.gens) s := by
    intro H hO hS hok hA
    have free : ∀ {b : Addr}, b ≠ a → H b = none := fun {b} z => by
      cases q : H b with
      | none => rfl
      | some u => exact absurd (hA b u q).1 z
    have ns_ : ∀ {b : Addr} {m : Str → Option Value}, s.heap.Ns b m → (hidT s.heap H).Ns b m := by
      rintro b m ⟨o, es, ep, e, d, r⟩
      refine ⟨o, es, ep, hidT_get e (free fun z => ?_), d, r⟩
      subst z
      rw [ha] at e; cases e; cases d
    have kin : K.In (hidT s.heap H) := fun b o e => hidT_get (KX b o e) (by
      cases q : H b with
      | none => rfl
      | some u =>
        obtain ⟨z, z2⟩ := hA b u q
        subst z
        rw [z2] at e; cases e)
    have e0 : Env0 P w K mg (hidT s.heap H) callerA [] s H :=
      ⟨rfl, ⟨kin, ns_ hn, ⟨mb, ns_ hb, hbb⟩, let ⟨mc, h1, h2⟩ := hlim; ⟨mc, ns_ h1, h2⟩⟩, fun b o e => of_hidT e, Nat.le_of_eq (hidT_size _ _), trivial, fun b z => (nomatch z), hok, .of_eq hg⟩
    refine codeAny_mono (F _ kin (ns_ hn) callerA [] s H ⟨[.ref a], []⟩ [.ref a] [.ref a] _ _ rfl hr e0 (hbind s (.ref a)) (.cons rfl .nil) (hsp H hO hS)) fun r s' z => ?_
    match r, z with
    | .error e, z => exact (by obtain ⟨_, _, _, _, _, _, _, _, _, _, _, _, q⟩ := z; exact q : False).elim
    | .ok .next, z => exact False.elim z
    | .ok .brk, z => exact False.elim z
    | .ok .cont, z => exact False.elim z
    | .ok (.ret u), ⟨v, H', os, bare, un, hok', r', q⟩ =>
      obtain rfl : v = .bl true := q
      obtain rfl : u = Value.bool true := r'
      refine ⟨rfl, OldK.of_keep fun b o e => ?_, os, bare⟩
      cases q : H b with
      | none => exact un.keep b o e q (fun z => nomatch z) (by simp)
      | some u =>
        rcases hO b with z | ⟨ob, xs, z⟩
        · rw [q] at z; cases z
        · have e1 := (hok b _ z).1
          have e2 := (hok' b _ (un.frzs b ob _ z)).1
          rw [e] at e1; cases e1
          exact e2
  cases hk : K.lookup a with
  | some o =>
    have e := KX a o hk
    rw [ha] at e; cases e
    exact way (fun _ => none) (fun _ => .inl rfl) (.inr ⟨_, vs.toArray, _, hk, rfl, rfl, rfl, by rw [List.size_toArray, hi.length]; exact hl, by simpa using rv⟩) (fun b u z => by cases (show (none : Option HO) = some u from z)) (fun b u z => by cases (show (none : Option HO) = some u from z))
  | none =>
    have own : ∀ b u, (if b = a then some (HO.frz { cls := .type "list", data := .seq vs.toArray } (.lst (ns.map V.int))) else none) = some u → b = a ∧ u = HO.frz { cls := .type "list", data := .seq vs.toArray } (.lst (ns.map V.int)) := by
      intro b u z
      split at z
      · cases z; exact ⟨by assumption, rfl⟩
      · cases z
    refine way (fun b => if b = a then some (.frz { cls := .type "list", data := .seq vs.toArray } (.lst (ns.map V.int))) else none) (fun b => ?_) (.inl (.inr ⟨{ cls := .type "list", data := .seq vs.toArray }, if_pos rfl⟩)) (fun b u z => ?_) fun b u z => ⟨(own b u z).1, hk⟩
    · by_cases h : b = a
      · exact .inr ⟨_, _, if_pos h⟩
      · exact .inl (if_neg h)
    · obtain ⟨rfl, rfl⟩ := own b u z
      exact ⟨ha, by rw [List.length_map]; exact hl, vs, _, rv, ha⟩
theorem law_walkG {l : PySem.W.OpenLaw} {q : Program} {loose : List Str} {XP : (Str → Option Value) → Heap → Prop} {YP : World → Heap → Prop} {d : DefRec} {K : Params → PySem.W.Frag} {sp : Spec} {k : Nat} {cl : World → Nat → Addr} {xl : List (Nat × Str × Option Str)} {st : Stmt} (hn : l.most = some 63) (hdf : d.params.defaults = []) (hr : Room k callerA)
    (hs : ∀ ns : List Int, ns.length ≤ 63 → sp [.scr (ns.map D.int)] (fun _ => none) (fun d _ => d = .bl true) (fun _ _ => False)) (po : PoS d.name st ["script"])
    (hY : ∀ (w : World) (h : Heap), YP w h → (K w.params).In h)
    (F : ∀ (w : World) (mg : Str → Option Value) (h : Heap), (K w.params).In h → h.Ns mainGlobals mg → ∀ base : Heap, KpG l.prog w (K w.params) mg base (cl w) (xcOf (K w.params) xl) k d.name st ["script"] sp) :
    PySem.W.WalkO q loose XP YP l.row.toRowW d [] (fun f vs => PySem.call f vs) := by
  refine Att.attach_call hn hdf fun w s₀ s₁ mg mb fa o pm cd doc a vs ns G Y ho hd hcd hmg hobj hints hlen hg => ?_
  have KX := hY w _ Y
  obtain ⟨f, fd, F1, m, g⟩ := F w mg _ KX G.T.g s₁.heap
  have e := m.symm.trans hmg
  cases e
  obtain ⟨oc, od, kV, doc', pm', an, cdv, ct, osl, rfl, lk, hcd'⟩ := F1.ex
  refine call_G (x := "script") (sp := lift (K w.params) (cl w) (xcOf (K w.params) xl) sp 1) KX G.T.g G.T.b G.T.builtins G.T.nolimit hg hobj hints (Nat.le_trans hlen (by decide)) hr (fun base _ _ => ?_) (fun s v => .of_eq (po kV doc' pm' an cdv ct [v] rfl)) fun H _ hS => law_sp (hs ns hlen) hS
  obtain ⟨f', fd', F2, m2, g2⟩ := F w mg _ KX G.T.g base
  have e := m2.symm.trans m
  cases e
  obtain ⟨oc', od', kV', doc'', pm'', an', cdv', ct', osl', rfl, lk', hcd''⟩ := F2.ex
  have e2 := lk.symm.trans lk'
  have e3 : (Data.func (PySem.W.fnOf d.name d.name (defArgs st) (defBody st) (defScope st) .none kV doc' pm' an cdv ct)) = _ := congrArg Obj.data (Option.some.inj e2)
  rw [Data.func.inj e3]
  exact g2
theorem law_walk {l : PySem.W.OpenLaw} {q : Program} {loose : List Str} {XP : (Str → Option Value) → Heap → Prop} {YP : World → Heap → Prop} {d : DefRec} {K : Params → PySem.W.Frag} {sp : Spec} {k : Nat} {cl : World → Nat → Addr} {xl : List (Nat × Str × Option Str)} {st : Stmt} (hn : l.most = some 63) (hdf : d.params.defaults = []) (hr : Room k callerA)
    (hs : ∀ ns : List Int, ns.length ≤ 63 → sp [.scr (ns.map D.int)] (fun _ => none) (fun d _ => d = .bl true) (fun _ _ => False)) (po : PoS d.name st ["script"])
    (hY : ∀ (w : World) (h : Heap), YP w h → (K w.params).In h)
    (F : ∀ (w : World) (mg : Str → Option Value) (h : Heap), (K w.params).In h → h.Ns mainGlobals mg → ∀ base : Heap, Kp l.prog w (K w.params) mg base (cl w) (xcOf (K w.params) xl) k d.name st ["script"] sp) :
    PySem.W.WalkO q loose XP YP l.row.toRowW d [] (fun f vs => PySem.call f vs) :=
  L2.walk_of (n := 63) (k := k) (x := "script") (CX := fun w => L2.CX l.prog w) (sp := fun w => lift (K w.params) (cl w) (xcOf (K w.params) xl) sp 1) hn (by decide) hdf hr hY
    (fun w mg fa h X G hm => by
      obtain ⟨f, fd, F1, m, b, g⟩ := F w mg h X G h
      have e := m.symm.trans hm
      cases e
      obtain ⟨oc, od, kV, doc, pm, an, cdv, ct, osl, rfl, lk, hcd⟩ := F1.ex
      refine ⟨_, fun s v => .of_eq (po kV doc pm an cdv ct [v] rfl), fun base _ _ => ?_⟩
      obtain ⟨f', fd', F2, m2, b2, g2⟩ := F w mg h X G base
      have e := m2.symm.trans m
      cases e
      obtain ⟨oc', od', kV', doc', pm', an', cdv', ct', osl', rfl, lk', hcd'⟩ := F2.ex
      have e2 := lk.symm.trans lk'
      have e3 : (Data.func (PySem.W.fnOf d.name d.name (defArgs st) (defBody st) (defScope st) .none kV doc pm an cdv ct)) = _ := congrArg Obj.data (Option.some.inj e2)
      injection e3 with e4
      rw [e4]
      exact g2)
    (fun w H a ns hl _ hS => law_sp (hs ns hl) hS) fun w H s e s' h => by
      obtain ⟨_, _, _, _, _, _, _, _, _, _, _, _, z⟩ := h
      exact z
end XC
end

section
set_option Elab.async false
set_option linter.all false
set_option maxRecDepth 100000
namespace XC
open PySem
theorem at0 {α : Type} {x : α} {r : List α} : atI (x :: r) 0 = some x := by
  unfold atI ixN
  rw [if_pos (Int.le_refl 0), if_pos (by simp)]; rfl
theorem atk {α : Type} {xs : List α} {k : Nat} {x : α} (h : xs[k]? = some x) : atI xs (k : Int) = some x := by
  have hl := (List.getElem?_eq_some_iff.mp h).1
  unfold atI ixN
  rw [if_pos (by omega), if_pos (by omega)]
  simpa using h
theorem at1 {α : Type} {x y : α} {r : List α} : atI (x :: y :: r) 1 = some y := atk (k := 1) rfl
theorem at2 {α : Type} {x y z : α} {r : List α} : atI (x :: y :: z :: r) 2 = some z := atk (k := 2) rfl
theorem at3 {α : Type} {x y z u : α} {r : List α} : atI (x :: y :: z :: u :: r) 3 = some u := atk (k := 3) rfl
theorem at4 {α : Type} {x y z u v : α} {r : List α} : atI (x :: y :: z :: u :: v :: r) 4 = some v := atk (k := 4) rfl
theorem at5 {α : Type} {x y z u v w : α} {r : List α} : atI (x :: y :: z :: u :: v :: w :: r) 5 = some w := atk (k := 5) rfl
theorem atI_of {α : Type} {xs : List α} {i : Int} {k : Nat} {x : α} (hi : i = (k : Int)) (h : xs[k]? = some x) : atI xs i = some x := by
  rw [hi]; exact atk h
/-- behind a def's body: what stands there is enough -/
theorem fin_ok {S : Store} {Q : QE} {d : D} (h : Q d S) : ∃ S', XC.Sub S' S ∧ Q d S' := ⟨S, XC.Sub.refl S, h⟩
theorem fin_sub {S S1 : Store} {Q : QE} {d : D} (hs : XC.Sub S S1) (h : Q d S) : ∃ S', XC.Sub S' S1 ∧ Q d S' := ⟨S, hs, h⟩
/-- bounds for products -/
theorem MulOk.bits {i j : Int} {a b : Nat} (ha : i.natAbs < 2 ^ a) (hb : j.natAbs < 2 ^ b) (h : a + b ≤ 900000) : MulOk i j := by
  refine .inl ?_
  have key : ∀ {x : Nat} {c : Nat}, x < 2 ^ c → x.log2 ≤ c := fun {x c} h => by
    by_cases h0 : x = 0
    · subst h0; simp
    · exact Nat.le_of_lt ((Nat.log2_lt h0).mpr h)
  have h1 := key ha
  have h2 := key hb
  omega
theorem MulOk.left {i j : Int} (h1 : -(2 ^ 64) < i) (h2 : i < 2 ^ 64) : MulOk i j := .inr (.inl ⟨h1, h2⟩)
theorem MulOk.right {i j : Int} (h1 : -(2 ^ 64) < j) (h2 : j < 2 ^ 64) : MulOk i j := .inr (.inr ⟨h1, h2⟩)
theorem log_of {x : Nat} {c : Nat} (h : x < 2 ^ c) (hc : 0 < c) : x.log2 < c := by
  by_cases h0 : x = 0
  · subst h0; simpa using hc
  · exact (Nat.log2_lt h0).mpr h
theorem at_eq {P : Post} {ρ : Env} : P.at ρ = fun x S => P.ex x ρ S := rfl
theorem v_add_int {S : Store} {Q : D → Prop} {i j : Int} : binW S .Add (.int i) (.int j) Q = Q (.int (i + j)) := rfl
theorem v_add_str {S : Store} {Q : D → Prop} {i j : Str} : binW S .Add (.str i) (.str j) Q = (i.length + j.length ≤ sizeL ∧ Q (.str (i ++ j))) := rfl
theorem v_add_tup {S : Store} {Q : D → Prop} {i j : List D} : binW S .Add (.tup i) (.tup j) Q = (i.length + j.length ≤ sizeL ∧ Q (.tup (i ++ j))) := rfl
theorem v_add_vls {S : Store} {Q : D → Prop} {i j : List D} : binW S .Add (.vls i) (.vls j) Q = (i.length + j.length ≤ sizeL ∧ Q (.vls (i ++ j))) := rfl
theorem v_sub {S : Store} {Q : D → Prop} {i j : Int} : binW S .Sub (.int i) (.int j) Q = Q (.int (i - j)) := rfl
theorem v_mul {S : Store} {Q : D → Prop} {i j : Int} : binW S .Mult (.int i) (.int j) Q = (MulOk i j ∧ Q (.int (i * j))) := rfl
theorem v_div {S : Store} {Q : D → Prop} {i j : Int} : binW S .FloorDiv (.int i) (.int j) Q = ((j ≠ 0 ∧ j.natAbs.log2 < 9000) ∧ Q (.int (i.fdiv j))) := rfl
theorem v_mod {S : Store} {Q : D → Prop} {i j : Int} : binW S .Mod (.int i) (.int j) Q = (j ≠ 0 ∧ Q (.int (i.fmod j))) := rfl
theorem v_pow {S : Store} {Q : D → Prop} {i j : Int} : binW S .Pow (.int i) (.int j) Q = ((0 ≤ j ∧ j ≤ 1000000 ∧ i.natAbs < 2 ^ 64) ∧ Q (.int (i ^ j.toNat))) := rfl
theorem v_aadd {Q : D → Prop} {i j : Int} : augW .Add (.int i) (.int j) Q = Q (.int (i + j)) := rfl
theorem v_asub {Q : D → Prop} {i j : Int} : augW .Sub (.int i) (.int j) Q = Q (.int (i - j)) := rfl
theorem v_aadds {Q : D → Prop} {i j : Str} : augW .Add (.str i) (.str j) Q = (i.length + j.length ≤ sizeL ∧ Q (.str (i ++ j))) := rfl
theorem v_cLt {S : Store} {i j : Int} : cmpD S .Lt (.int i) (.int j) = some (decide (i < j)) := rfl
theorem v_cLtE {S : Store} {i j : Int} : cmpD S .LtE (.int i) (.int j) = some (decide (i ≤ j)) := rfl
theorem v_cGt {S : Store} {i j : Int} : cmpD S .Gt (.int i) (.int j) = some (decide (j < i)) := rfl
theorem v_cGtE {S : Store} {i j : Int} : cmpD S .GtE (.int i) (.int j) = some (decide (j ≤ i)) := rfl
theorem v_cEq {S : Store} {i j : Int} : cmpD S .Eq (.int i) (.int j) = some (decide (i = j)) := rfl
theorem v_cNe {S : Store} {i j : Int} : cmpD S .NotEq (.int i) (.int j) = some (!decide (i = j)) := rfl
theorem v_cEqS {S : Store} {i j : Str} : cmpD S .Eq (.str i) (.str j) = some (decide (i = j)) := rfl
theorem v_cNeS {S : Store} {i j : Str} : cmpD S .NotEq (.str i) (.str j) = some (!decide (i = j)) := rfl
theorem v_cEqB {S : Store} {i j : Bool} : cmpD S .Eq (.bl i) (.bl j) = some (decide (i = j)) := rfl
theorem v_cNeB {S : Store} {i j : Bool} : cmpD S .NotEq (.bl i) (.bl j) = some (!decide (i = j)) := rfl
theorem v_is {S : Store} {x : D} : cmpD S .Is x .non = some (isNon x) := rfl
theorem v_isnt {S : Store} {x : D} : cmpD S .IsNot x .non = some (!isNon x) := rfl
theorem v_isN_non : isNon (.non) = true := rfl
theorem v_isN_bl {b : Bool} : isNon (.bl b) = false := rfl
theorem v_isN_int {b : Int} : isNon (.int b) = false := rfl
theorem v_isN_str {b : Str} : isNon (.str b) = false := rfl
theorem v_isN_tup {b : List D} : isNon (.tup b) = false := rfl
theorem v_isN_vls {b : List D} : isNon (.vls b) = false := rfl
theorem v_isN_scr {b : List D} : isNon (.scr b) = false := rfl
theorem v_isN_loc {b : Nat} : isNon (.loc b) = false := rfl
theorem v_t_non {S : Store} : truth S .non = some false := rfl
theorem v_t_bl {S : Store} {b : Bool} : truth S (.bl b) = some b := rfl
theorem v_t_int {S : Store} {b : Int} : truth S (.int b) = some (b != 0) := rfl
theorem v_t_tup {S : Store} {b : List D} : truth S (.tup b) = some (!b.isEmpty) := rfl
theorem v_t_vls {S : Store} {b : List D} : truth S (.vls b) = some (!b.isEmpty) := rfl
theorem v_len_tup {S : Store} {Q : QE} {b : List D} : bltW .len [.tup b] S Q = Q (.int b.length) S := rfl
theorem v_list_tup {S : Store} {Q : QE} {b : List D} : bltW .list [.tup b] S Q = Q (.vls b) S := rfl
theorem v_listM_tup {S : Store} {Q : QE} {b : List D} : bltW .listM [.tup b] S Q = newL true b S Q := rfl
theorem v_tuple_tup {S : Store} {Q : QE} {b : List D} : bltW .tuple [.tup b] S Q = Q (.tup b) S := rfl
theorem v_idx_tup {S : Store} {b : List D} {i : Int} : idxD S (.tup b) (.int i) = atI b i := rfl
theorem v_src_tup {S : Store} {b : List D} {K : List D → (Store → Prop) → Prop} : srcW S (.tup b) K = K b fun _ => True := rfl
theorem v_len_vls {S : Store} {Q : QE} {b : List D} : bltW .len [.vls b] S Q = Q (.int b.length) S := rfl
theorem v_list_vls {S : Store} {Q : QE} {b : List D} : bltW .list [.vls b] S Q = Q (.vls b) S := rfl
theorem v_listM_vls {S : Store} {Q : QE} {b : List D} : bltW .listM [.vls b] S Q = newL true b S Q := rfl
theorem v_tuple_vls {S : Store} {Q : QE} {b : List D} : bltW .tuple [.vls b] S Q = Q (.tup b) S := rfl
theorem v_idx_vls {S : Store} {b : List D} {i : Int} : idxD S (.vls b) (.int i) = atI b i := rfl
theorem v_src_vls {S : Store} {b : List D} {K : List D → (Store → Prop) → Prop} : srcW S (.vls b) K = K b fun _ => True := rfl
theorem v_len_scr {S : Store} {Q : QE} {b : List D} : bltW .len [.scr b] S Q = Q (.int b.length) S := rfl
theorem v_list_scr {S : Store} {Q : QE} {b : List D} : bltW .list [.scr b] S Q = Q (.vls b) S := rfl
theorem v_listM_scr {S : Store} {Q : QE} {b : List D} : bltW .listM [.scr b] S Q = newL true b S Q := rfl
theorem v_tuple_scr {S : Store} {Q : QE} {b : List D} : bltW .tuple [.scr b] S Q = Q (.tup b) S := rfl
theorem v_idx_scr {S : Store} {b : List D} {i : Int} : idxD S (.scr b) (.int i) = atI b i := rfl
theorem v_src_scr {S : Store} {b : List D} {K : List D → (Store → Prop) → Prop} : srcW S (.scr b) K = K b fun _ => True := rfl
theorem v_sli_tup {S : Store} {b : List D} {l h : Option Int} : sliD S (.tup b) l h = some (.tup (cut b l h)) := rfl
theorem v_sli_vls {S : Store} {b : List D} {l h : Option Int} : sliD S (.vls b) l h = some (.vls (cut b l h)) := rfl
theorem v_sli_scr {S : Store} {b : List D} {l h : Option Int} : sliD S (.scr b) l h = some (.vls (cut b l h)) := rfl
theorem v_abs {S : Store} {Q : QE} {i : Int} : bltW .abs [.int i] S Q = Q (.int (if i < 0 then -i else i)) S := rfl
theorem v_int {S : Store} {Q : QE} {i : Int} : bltW .int [.int i] S Q = Q (.int i) S := rfl
theorem v_intb {S : Store} {Q : QE} {i : Bool} : bltW .int [.bl i] S Q = Q (.int (if i then 1 else 0)) S := rfl
theorem v_max {S : Store} {Q : QE} {i j : Int} : bltW .max [.int i, .int j] S Q = Q (.int (if j > i then j else i)) S := rfl
theorem v_min {S : Store} {Q : QE} {i j : Int} : bltW .min [.int i, .int j] S Q = Q (.int (if j < i then j else i)) S := rfl
theorem v_i_non_int {S : Store} : isiD S (.non) [.int] = some false := rfl
theorem v_i_non_bool {S : Store} : isiD S (.non) [.bool] = some false := rfl
theorem v_i_non_str {S : Store} : isiD S (.non) [.str] = some false := rfl
theorem v_i_non_tuple {S : Store} : isiD S (.non) [.tuple] = some false := rfl
theorem v_i_non_list {S : Store} : isiD S (.non) [.list] = some false := rfl
theorem v_i_non_tl {S : Store} : isiD S (.non) [.tuple, .list] = some false := rfl
theorem v_i_bl_int {S : Store} {b : Bool} : isiD S (.bl b) [.int] = some true := rfl
theorem v_i_bl_bool {S : Store} {b : Bool} : isiD S (.bl b) [.bool] = some true := rfl
theorem v_i_bl_str {S : Store} {b : Bool} : isiD S (.bl b) [.str] = some false := rfl
theorem v_i_bl_tuple {S : Store} {b : Bool} : isiD S (.bl b) [.tuple] = some false := rfl
theorem v_i_bl_list {S : Store} {b : Bool} : isiD S (.bl b) [.list] = some false := rfl
theorem v_i_bl_tl {S : Store} {b : Bool} : isiD S (.bl b) [.tuple, .list] = some false := rfl
theorem v_i_int_int {S : Store} {b : Int} : isiD S (.int b) [.int] = some true := rfl
theorem v_i_int_bool {S : Store} {b : Int} : isiD S (.int b) [.bool] = some false := rfl
theorem v_i_int_str {S : Store} {b : Int} : isiD S (.int b) [.str] = some false := rfl
theorem v_i_int_tuple {S : Store} {b : Int} : isiD S (.int b) [.tuple] = some false := rfl
theorem v_i_int_list {S : Store} {b : Int} : isiD S (.int b) [.list] = some false := rfl
theorem v_i_int_tl {S : Store} {b : Int} : isiD S (.int b) [.tuple, .list] = some false := rfl
theorem v_i_str_int {S : Store} {b : Str} : isiD S (.str b) [.int] = some false := rfl
theorem v_i_str_bool {S : Store} {b : Str} : isiD S (.str b) [.bool] = some false := rfl
theorem v_i_str_str {S : Store} {b : Str} : isiD S (.str b) [.str] = some true := rfl
theorem v_i_str_tuple {S : Store} {b : Str} : isiD S (.str b) [.tuple] = some false := rfl
theorem v_i_str_list {S : Store} {b : Str} : isiD S (.str b) [.list] = some false := rfl
theorem v_i_str_tl {S : Store} {b : Str} : isiD S (.str b) [.tuple, .list] = some false := rfl
theorem v_i_tup_int {S : Store} {b : List D} : isiD S (.tup b) [.int] = some false := rfl
theorem v_i_tup_bool {S : Store} {b : List D} : isiD S (.tup b) [.bool] = some false := rfl
theorem v_i_tup_str {S : Store} {b : List D} : isiD S (.tup b) [.str] = some false := rfl
theorem v_i_tup_tuple {S : Store} {b : List D} : isiD S (.tup b) [.tuple] = some true := rfl
theorem v_i_tup_list {S : Store} {b : List D} : isiD S (.tup b) [.list] = some false := rfl
theorem v_i_tup_tl {S : Store} {b : List D} : isiD S (.tup b) [.tuple, .list] = some true := rfl
theorem v_i_vls_int {S : Store} {b : List D} : isiD S (.vls b) [.int] = some false := rfl
theorem v_i_vls_bool {S : Store} {b : List D} : isiD S (.vls b) [.bool] = some false := rfl
theorem v_i_vls_str {S : Store} {b : List D} : isiD S (.vls b) [.str] = some false := rfl
theorem v_i_vls_tuple {S : Store} {b : List D} : isiD S (.vls b) [.tuple] = some false := rfl
theorem v_i_vls_list {S : Store} {b : List D} : isiD S (.vls b) [.list] = some true := rfl
theorem v_i_vls_tl {S : Store} {b : List D} : isiD S (.vls b) [.tuple, .list] = some true := rfl
theorem v_i_scr_int {S : Store} {b : List D} : isiD S (.scr b) [.int] = some false := rfl
theorem v_i_scr_bool {S : Store} {b : List D} : isiD S (.scr b) [.bool] = some false := rfl
theorem v_i_scr_str {S : Store} {b : List D} : isiD S (.scr b) [.str] = some false := rfl
theorem v_i_scr_tuple {S : Store} {b : List D} : isiD S (.scr b) [.tuple] = some false := rfl
theorem v_i_scr_list {S : Store} {b : List D} : isiD S (.scr b) [.list] = some true := rfl
theorem v_i_scr_tl {S : Store} {b : List D} : isiD S (.scr b) [.tuple, .list] = some true := rfl
theorem v_range1 {j : Int} {K : List D → (Store → Prop) → Prop} : range1W (.int j) K = (-(2 ^ 62) ≤ j ∧ j < 2 ^ 62 ∧ K (rngD 0 j.toNat) fun _ => True) := rfl
theorem v_range2 {i j : Int} {K : List D → (Store → Prop) → Prop} : range2W (.int i) (.int j) K = ((-(2 ^ 62) ≤ i ∧ i < 2 ^ 62 ∧ -(2 ^ 62) ≤ j ∧ j < 2 ^ 62) ∧ K (rngD i (j - i).toNat) fun _ => True) := rfl
theorem v_newF {xs : List D} {S : Store} {Q : QE} : newL false xs S Q = Q (.vls xs) S := rfl
theorem v_newT {xs : List D} {S : Store} {Q : QE} : newL true xs S Q = ∀ p, S p = none → Q (.loc p) (put S p (.lst xs)) := rfl
theorem v_all {S : Store} {Q : QE} {xs : List D} {bs : List Bool} (h : boolsOf xs = some bs) : bltW .all [.vls xs] S Q = Q (.bl (bs.all id)) S := by
  show (match boolsOf xs with | some bs => Q (.bl (bs.all id)) S | none => False) = _
  rw [h]
theorem v_any {S : Store} {Q : QE} {xs : List D} {bs : List Bool} (h : boolsOf xs = some bs) : bltW .any [.vls xs] S Q = Q (.bl (bs.any id)) S := by
  show (match boolsOf xs with | some bs => Q (.bl (bs.any id)) S | none => False) = _
  rw [h]
theorem bools_map : ∀ bs : List Bool, boolsOf (bs.map D.bl) = some bs
  | [] => rfl
  | b :: r => by
    show (boolsOf (r.map D.bl)).map (b :: ·) = _
    rw [bools_map r]; rfl
theorem v_count {S : Store} {Q : QE} {bs : List Bool} {b : Bool} : methW .count (.vls (bs.map D.bl)) [.bl b] S Q = Q (.int (bs.count b : Nat)) S := by
  unfold methW
  simp only [bools_map]
theorem v_sorted {S : Store} {Q : QE} {xs : List D} : bltW .sorted [.vls xs] S Q = (xs.all isPairD = true ∧ ∀ ys : List D, ys.Perm xs → Q (.vls ys) S) := rfl
theorem v_append {S : Store} {Q : QE} {a : Nat} {xs : List D} {y : D} (h : S a = some (.lst xs)) : methW .append (.loc a) [y] S Q = (xs.length < sizeL ∧ Q .non (put S a (.lst (xs ++ [y])))) := by
  unfold methW; simp only [h]
theorem v_popAt {S : Store} {Q : QE} {a : Nat} {xs : List D} {i : Int} {k : Nat} {y : D} (h : S a = some (.lst xs)) (h1 : ixN xs.length i = some k) (h2 : xs[k]? = some y) : methW .popAt (.loc a) [.int i] S Q = (-(2 ^ 63) ≤ i ∧ i < 2 ^ 63 ∧ Q y (put S a (.lst (xs.eraseIdx k)))) := by
  unfold methW; simp only [h, h1, h2]
theorem v_pop {S : Store} {Q : QE} {a : Nat} {xs : List D} {y : D} (h : S a = some (.lst xs)) (h2 : xs[xs.length - 1]? = some y) : methW .pop (.loc a) [] S Q = Q y (put S a (.lst xs.dropLast)) := by
  unfold methW; simp only [h, h2]
theorem v_lstAt {S : Store} {a : Nat} {xs : List D} (h : S a = some (.lst xs)) : lstAt S (.loc a) := by
  unfold lstAt; simp only [h]
theorem v_idx_loc {S : Store} {a : Nat} {xs : List D} {i : Int} (h : S a = some (.lst xs)) : idxD S (.loc a) (.int i) = atI xs i := by
  unfold idxD; simp only [h]
theorem v_setIx {S : Store} {a : Nat} {xs : List D} {i : Int} {k : Nat} {v : D} {K : Store → Prop} (h : S a = some (.lst xs)) (h1 : ixN xs.length i = some k) : setIx S (.loc a) (.int i) v K = K (put S a (.lst (xs.set k v))) := by
  unfold setIx; simp only [h, h1]
theorem v_len_loc {S : Store} {Q : QE} {a : Nat} {xs : List D} (h : S a = some (.lst xs)) : bltW .len [.loc a] S Q = Q (.int xs.length) S := by
  show (match (match S a with | some (.lst xs) => some xs | _ => none).map List.length with | some n => Q (.int n) S | none => False) = _
  simp only [h]; rfl
theorem v_t_loc {S : Store} {a : Nat} {xs : List D} (h : S a = some (.lst xs)) : truth S (.loc a) = some (!xs.isEmpty) := by
  unfold truth; simp only [h]
theorem v_eq_ok {S : Store} {x y : D} (hs : scalD x y = none) (h1 : (fz S x).ok 40 = true) (h2 : (fz S y).ok 40 = true) : cmpD S .Eq x y = some ((fz S x).eqv (fz S y)) := by
  show eqD S x y = _
  unfold eqD; rw [hs, h1, h2]; rfl
theorem v_ne_ok {S : Store} {x y : D} (hs : scalD x y = none) (h1 : (fz S x).ok 40 = true) (h2 : (fz S y).ok 40 = true) : cmpD S .NotEq x y = some (!(fz S x).eqv (fz S y)) := by
  show (eqD S x y).map not = _
  unfold eqD; rw [hs, h1, h2]; rfl
theorem ixk {n k : Nat} (h : k < n) : ixN n (k : Int) = some k := by
  unfold ixN
  rw [if_pos (by omega), if_pos (by omega)]; simp
theorem fz_loc {S : Store} {a : Nat} {xs : List D} (h : S a = some (.lst xs)) : fz S (.loc a) = .vls xs := by
  unfold fz; simp only [h]
theorem comp_ind {G : Store → Prop} {p : Nat} {bare : Env} {tgt : D → Env → Store → (Env → Store → Prop) → Prop} {cond : Env → Store → (Bool → Store → Prop) → Prop} {elt : Env → Store → QE → Prop} {K : List D → Store → Prop} (I : List D → List D → Store → Prop)
    (hn : ∀ acc S, I [] acc S → G S ∧ K acc S)
    (h : ∀ x r acc S, I (x :: r) acc S → (∀ acc' S', I r acc' S' → compW G p bare tgt cond elt r acc' S' K) → G S ∧ tgt x bare S fun ρ S1 => cond ρ S1 fun b S2 =>
      if b = true then elt ρ S2 fun y S3 => S3 p = some (.lst acc) ∧ acc.length < sizeL ∧ compW G p bare tgt cond elt r (acc ++ [y]) (put S3 p (.lst (acc ++ [y]))) K
      else S2 p = some (.lst acc) ∧ compW G p bare tgt cond elt r acc S2 K) :
    ∀ xs acc S, I xs acc S → compW G p bare tgt cond elt xs acc S K
  | [], acc, S, hi => hn acc S hi
  | x :: r, acc, S, hi => h x r acc S hi fun acc' S' hi' => comp_ind I hn h r acc' S' hi'
theorem for_ind {G : Store → Prop} {tgt : D → Env → Store → (Env → Store → Prop) → Prop} {body : WS} {P : Post} (I : List D → Env → Store → Prop)
    (hn : ∀ ρ S, I [] ρ S → G S ∧ P.nx ρ S)
    (h : ∀ x r ρ S, I (x :: r) ρ S → (∀ ρ' S', I r ρ' S' → forW G tgt body P r ρ' S') → G S ∧ tgt x ρ S fun ρ1 S1 =>
      body (P.loop (fun ρ2 S2 => forW G tgt body P r ρ2 S2) P.nx) ρ1 S1) :
    ∀ xs ρ S, I xs ρ S → forW G tgt body P xs ρ S
  | [], ρ, S, hi => hn ρ S hi
  | x :: r, ρ, S, hi => h x r ρ S hi fun ρ' S' hi' => for_ind I hn h r ρ' S' hi'
/-- for_ind, the rest hidden -/
theorem for_ind' {G : Store → Prop} {tgt : D → Env → Store → (Env → Store → Prop) → Prop} {body : WS} {P : Post} (I : List D → Env → Store → Prop)
    (hn : ∀ ρ S, I [] ρ S → G S ∧ P.nx ρ S)
    (h : ∀ x r ρ S (K : Env → Store → Prop), I (x :: r) ρ S → (∀ ρ' S', I r ρ' S' → K ρ' S') → G S ∧ tgt x ρ S fun ρ1 S1 => body (P.loop K P.nx) ρ1 S1) :
    ∀ xs ρ S, I xs ρ S → forW G tgt body P xs ρ S := for_ind I hn fun x r ρ S hi k => h x r ρ S _ hi k
theorem comp_ind' {G : Store → Prop} {p : Nat} {bare : Env} {tgt : D → Env → Store → (Env → Store → Prop) → Prop} {cond : Env → Store → (Bool → Store → Prop) → Prop} {elt : Env → Store → QE → Prop} {K : List D → Store → Prop} (I : List D → List D → Store → Prop)
    (hn : ∀ acc S, I [] acc S → G S ∧ K acc S)
    (h : ∀ x r acc S (K' : List D → Store → Prop), I (x :: r) acc S → (∀ acc' S', I r acc' S' → K' acc' S') → G S ∧ tgt x bare S fun ρ S1 => cond ρ S1 fun b S2 =>
      if b = true then elt ρ S2 fun y S3 => S3 p = some (.lst acc) ∧ acc.length < sizeL ∧ K' (acc ++ [y]) (put S3 p (.lst (acc ++ [y])))
      else S2 p = some (.lst acc) ∧ K' acc S2) :
    ∀ xs acc S, I xs acc S → compW G p bare tgt cond elt xs acc S K := comp_ind I hn fun x r acc S hi k => h x r acc S (fun a b => compW G p bare tgt cond elt r a b K) hi k
theorem compEnd_T {p : Nat} {Q : QE} {ys : List D} {S : Store} : compEnd true p Q ys S = Q (.loc p) S := rfl
theorem compEnd_F {p : Nat} {Q : QE} {ys : List D} {S : Store} : compEnd false p Q ys S = Q (.vls ys) (rem S p) := rfl
/-- [e for x in xs]: each e one value, the store left as it was -/
theorem comp_pure {G : Store → Prop} {p : Nat} {bare : Env} {i : Nat} {elt : Env → Store → QE → Prop} {xs : List D} {S : Store} {K : List D → Store → Prop} (f : D → D) (hG : ∀ acc, G (put S p (.lst acc))) (hl : xs.length ≤ 1000000)
    (h : ∀ x ∈ xs, ∀ (acc : List D) (Q : QE), Q (f x) (put S p (.lst acc)) → elt (bare.set i (some x)) (put S p (.lst acc)) Q)
    (hK : K (xs.map f) (put S p (.lst (xs.map f)))) :
    compW G p bare (fun x ρ S K => K (ρ.set i (some x)) S) (fun _ S K => K true S) elt xs [] (put S p (.lst [])) K := by
  refine comp_ind' (fun r acc S1 => ∃ l1 : List D, xs = l1 ++ r ∧ acc = l1.map f ∧ S1 = put S p (.lst acc)) ?_ ?_ _ _ _ ⟨[], rfl, rfl, rfl⟩
  · rintro acc S1 ⟨l1, e, rfl, rfl⟩
    rw [List.append_nil] at e
    subst e
    exact ⟨hG _, hK⟩
  · rintro x r acc S1 K' ⟨l1, e, rfl, rfl⟩ ih
    refine ⟨hG _, ?_⟩
    show elt (bare.set i (some x)) (put S p (.lst (l1.map f))) _
    refine h x (by rw [e]; simp) (l1.map f) _ ⟨put_same, ?_, ?_⟩
    · rw [List.length_map]
      have : l1.length ≤ xs.length := by rw [e]; simp
      unfold sizeL; omega
    · rw [put_put]
      exact ih _ _ ⟨l1 ++ [x], by rw [e]; simp, by rw [List.map_append]; rfl, rfl⟩
theorem comp_over {α : Type} {G : Store → Prop} {p : Nat} {bare : Env} {i : Nat} {elt : Env → Store → QE → Prop} (g : α → D) (f : α → D) {l : List α} {S : Store} {K : List D → Store → Prop} (hG : ∀ acc, G (put S p (.lst acc))) (hl : l.length ≤ 1000000)
    (h : ∀ x ∈ l, ∀ (acc : List D) (Q : QE), Q (f x) (put S p (.lst acc)) → elt (bare.set i (some (g x))) (put S p (.lst acc)) Q)
    (hK : K (l.map f) (put S p (.lst (l.map f)))) :
    compW G p bare (fun x ρ S K => K (ρ.set i (some x)) S) (fun _ S K => K true S) elt (l.map g) [] (put S p (.lst [])) K := by
  refine comp_ind' (fun r acc S1 => ∃ l1 l2 : List α, l = l1 ++ l2 ∧ r = l2.map g ∧ acc = l1.map f ∧ S1 = put S p (.lst acc)) ?_ ?_ _ _ _ ⟨[], l, rfl, rfl, rfl, rfl⟩
  · rintro acc S1 ⟨l1, l2, e, e2, rfl, rfl⟩
    cases l2 with
    | cons _ _ => cases e2
    | nil =>
    rw [List.append_nil] at e
    subst e
    exact ⟨hG _, hK⟩
  · rintro x r acc S1 K' ⟨l1, l2, e, e2, rfl, rfl⟩ ih
    cases l2 with
    | nil => cases e2
    | cons y l2 =>
    rw [List.map_cons] at e2
    injection e2 with e3 e4
    subst e3 e4
    refine ⟨hG _, ?_⟩
    show elt (bare.set i (some (g y))) (put S p (.lst (l1.map f))) _
    refine h y (by rw [e]; simp) (l1.map f) _ ⟨put_same, ?_, ?_⟩
    · rw [List.length_map]
      have : l1.length ≤ l.length := by rw [e]; simp
      unfold sizeL; omega
    · rw [put_put]
      exact ih _ _ ⟨l1 ++ [y], l2, by rw [e]; simp, rfl, by rw [List.map_append]; rfl, rfl⟩
/-- a comprehension whose parts tell one value each, and leave the store -/
theorem comp_map {p : Nat} {bare : Env} {tgt : D → Env → Store → (Env → Store → Prop) → Prop} {cond : Env → Store → (Bool → Store → Prop) → Prop} {elt : Env → Store → QE → Prop} {S0 : Store} {Q : QE} (hp : S0 p = none) (f : D → D) (xs : List D) (hl : xs.length ≤ 1000000)
    (h : ∀ x ∈ xs, ∀ (S : Store) (K : QE), (∀ a o, S0 a = some o → S a = some o) → K (f x) S → tgt x bare S fun ρ S1 => cond ρ S1 fun b S2 => b = true ∧ elt ρ S2 K)
    (mono1 : ∀ (x : D) (S : Store) (K K' : Env → Store → Prop), (∀ ρ S, K ρ S → K' ρ S) → tgt x bare S K → tgt x bare S K')
    (mono2 : ∀ (ρ : Env) (S : Store) (K K' : Bool → Store → Prop), (∀ b S, K b S → K' b S) → cond ρ S K → cond ρ S K')
    (hq : Q (.vls (xs.map f)) S0) : compW (fun _ => True) p bare tgt cond elt xs [] (put S0 p (.lst [])) (compEnd false p Q) := by
  have key : ∀ (r acc : List D), acc.length + r.length ≤ 1000000 → (∀ x ∈ r, x ∈ xs) → acc ++ r.map f = xs.map f → compW (fun _ => True) p bare tgt cond elt r acc (put S0 p (.lst acc)) (compEnd false p Q) := by
    intro r
    induction r with
    | nil =>
      intro acc _ _ e
      refine ⟨trivial, ?_⟩
      rw [compEnd_F, rem_put hp]
      rw [List.map_nil, List.append_nil] at e
      rw [e]; exact hq
    | cons x r ih =>
      intro acc hl hm e
      refine ⟨trivial, mono1 _ _ _ _ (fun ρ S1 h1 => mono2 _ _ _ _ (fun b S2 h2 => ?_) h1) (h x (hm x (by simp)) (put S0 p (.lst acc)) (fun y S3 => S3 p = some (.lst acc) ∧ acc.length < sizeL ∧ compW (fun _ => True) p bare tgt cond elt r (acc ++ [y]) (put S3 p (.lst (acc ++ [y]))) (compEnd false p Q)) (fun a o ha => ?_) ?_)⟩
      · obtain ⟨rfl, h3⟩ := h2
        rw [if_pos rfl]; exact h3
      · rw [put_ne (ne_put hp ha)]; exact ha
      · rw [List.length_cons] at hl
        refine ⟨put_same, by unfold sizeL; omega, ?_⟩
        rw [put_put]
        refine ih (acc ++ [f x]) (by rw [List.length_append, List.length_singleton]; omega) (fun y hy => hm y (by simp [hy])) ?_
        rw [← e, List.map_cons, List.append_assoc]; rfl
  exact key xs [] (by simpa using hl) (fun _ h => h) rfl
end XC
end

section
set_option Elab.async false
set_option linter.all false
set_option maxRecDepth 100000
namespace XC
open PySem
/-- the sign -/
def sg (b : Int) : Int := if 0 < b then 1 else -1
/-- the fraction of two integers -/
def lowF (t b : Int) : Int := (Int.gcd t b : Int) * sg b
def low (t b : Int) : Int × Int := (t.fdiv (lowF t b), b.fdiv (lowF t b))
/-- lowest terms -/
def Fr (p : Int × Int) : Prop := 0 < p.2 ∧ Int.gcd p.1 p.2 = 1
instance (p : Int × Int) : Decidable (Fr p) := inferInstanceAs (Decidable (_ ∧ _))
theorem gcd_pos {t b : Int} (h : b ≠ 0) : 0 < Int.gcd t b := by
  rcases Nat.eq_zero_or_pos (Int.gcd t b) with e | e
  · rw [Int.gcd_eq_zero_iff] at e; exact absurd e.2 h
  · exact e
theorem sg_mul (b : Int) : b * sg b = (b.natAbs : Int) := by
  unfold sg
  split <;> omega
theorem sg_cases (b : Int) : sg b = 1 ∨ sg b = -1 := by
  unfold sg
  split
  · exact .inl rfl
  · exact .inr rfl
theorem lowF_ne {t b : Int} (h : b ≠ 0) : lowF t b ≠ 0 := by
  have := gcd_pos (t := t) h
  unfold lowF
  rcases sg_cases b with e | e <;> rw [e] <;> omega
theorem lowF_dvd_l (t b : Int) : lowF t b ∣ t := by
  unfold lowF
  rcases sg_cases b with e | e <;> rw [e]
  · rw [Int.mul_one]; exact Int.gcd_dvd_left ..
  · rw [Int.mul_neg, Int.mul_one]; exact Int.neg_dvd.mpr (Int.gcd_dvd_left ..)
theorem lowF_dvd_r (t b : Int) : lowF t b ∣ b := by
  unfold lowF
  rcases sg_cases b with e | e <;> rw [e]
  · rw [Int.mul_one]; exact Int.gcd_dvd_right ..
  · rw [Int.mul_neg, Int.mul_one]; exact Int.neg_dvd.mpr (Int.gcd_dvd_right ..)
theorem fdiv_mul {a c : Int} (h : c ∣ a) (h0 : c ≠ 0) : a.fdiv c * c = a := by
  obtain ⟨k, rfl⟩ := h
  rw [Int.mul_fdiv_cancel_left _ h0, Int.mul_comm]
theorem low_1 (t b : Int) (h : b ≠ 0) : (low t b).1 * lowF t b = t := fdiv_mul (lowF_dvd_l t b) (lowF_ne h)
theorem low_2 (t b : Int) (h : b ≠ 0) : (low t b).2 * lowF t b = b := fdiv_mul (lowF_dvd_r t b) (lowF_ne h)
theorem low_cross (t b : Int) (h : b ≠ 0) : (low t b).1 * b = t * (low t b).2 := by
  have h1 := low_1 t b h
  have h2 := low_2 t b h
  have : ((low t b).1 * b) = (low t b).1 * ((low t b).2 * lowF t b) := by rw [h2]
  rw [this, ← Int.mul_assoc, Int.mul_right_comm, h1]
theorem low_pos (t b : Int) (h : b ≠ 0) : 0 < (low t b).2 := by
  have h2 := low_2 t b h
  have g := gcd_pos (t := t) h
  unfold lowF sg at h2
  by_cases hb : 0 < b
  · rw [if_pos hb, Int.mul_one] at h2
    apply Int.lt_of_not_ge
    intro hle
    have : (low t b).2 * (Int.gcd t b : Int) ≤ 0 := Int.mul_nonpos_of_nonpos_of_nonneg hle (by omega)
    omega
  · rw [if_neg hb] at h2
    apply Int.lt_of_not_ge
    intro hle
    have : 0 ≤ (low t b).2 * ((Int.gcd t b : Int) * -1) := Int.mul_nonneg_of_nonpos_of_nonpos hle (by omega)
    omega
theorem low_gcd (t b : Int) (h : b ≠ 0) : Int.gcd (low t b).1 (low t b).2 = 1 := by
  have h1 := low_1 t b h
  have h2 := low_2 t b h
  have g := gcd_pos (t := t) h
  have e : Int.gcd ((low t b).1 * lowF t b) ((low t b).2 * lowF t b) = Int.gcd (low t b).1 (low t b).2 * (lowF t b).natAbs := Int.gcd_mul_right ..
  rw [h1, h2] at e
  have hn : (lowF t b).natAbs = Int.gcd t b := by
    unfold lowF
    rcases sg_cases b with q | q <;> rw [q] <;> simp
  rw [hn] at e
  have e' : 1 * Int.gcd t b = Int.gcd (low t b).1 (low t b).2 * Int.gcd t b := by omega
  exact (Nat.eq_of_mul_eq_mul_right g e').symm
theorem low_fr (t b : Int) (h : b ≠ 0) : Fr (low t b) := ⟨low_pos t b h, low_gcd t b h⟩
theorem dvd_gcd1 {b a d : Int} (h : b ∣ a * d) (g : Int.gcd a b = 1) : b ∣ d := by
  rw [← Int.natAbs_dvd_natAbs] at h ⊢
  rw [Int.natAbs_mul] at h
  have c : Nat.Coprime b.natAbs a.natAbs := by
    show Nat.gcd b.natAbs a.natAbs = 1
    rw [Nat.gcd_comm]; exact g
  exact c.dvd_of_dvd_mul_left h
/-- equal numbers are equal fractions -/
theorem fr_unique {p q : Int × Int} (hp : Fr p) (hq : Fr q) (h : p.1 * q.2 = q.1 * p.2) : p = q := by
  obtain ⟨a, b⟩ := p
  obtain ⟨c, d⟩ := q
  obtain ⟨h1, h2⟩ := hp
  obtain ⟨h3, h4⟩ := hq
  simp only at h h1 h2 h3 h4
  have e1 : b ∣ d := by
    have : b ∣ a * d := by rw [h]; exact Int.dvd_mul_left ..
    exact dvd_gcd1 this h2
  have e2 : d ∣ b := by
    have : d ∣ c * b := by rw [← h]; exact Int.dvd_mul_left ..
    exact dvd_gcd1 this h4
  have e : b = d := Int.dvd_antisymm (by omega) (by omega) e1 e2
  subst e
  have : a = c := Int.eq_of_mul_eq_mul_right (by omega) h
  rw [this]
theorem low_of_cross {t b : Int} {p : Int × Int} (hb : b ≠ 0) (hp : Fr p) (h : p.1 * b = t * p.2) : low t b = p := by
  refine fr_unique (low_fr t b hb) hp ?_
  have h1 := low_cross t b hb
  apply Int.eq_of_mul_eq_mul_right hb
  calc (low t b).1 * p.2 * b = (low t b).1 * b * p.2 := by rw [Int.mul_right_comm]
    _ = t * (low t b).2 * p.2 := by rw [h1]
    _ = t * p.2 * (low t b).2 := by rw [Int.mul_right_comm]
    _ = p.1 * b * (low t b).2 := by rw [h]
    _ = p.1 * (low t b).2 * b := by rw [Int.mul_right_comm]
theorem low_self {p : Int × Int} (hp : Fr p) : low p.1 p.2 = p := low_of_cross (by have := hp.1; omega) hp rfl
/-- sizes -/
theorem low_1_le (t b : Int) (h : b ≠ 0) : (low t b).1.natAbs ≤ t.natAbs := by
  have h1 := low_1 t b h
  have hn := lowF_ne (t := t) h
  have e : (low t b).1.natAbs * (lowF t b).natAbs = t.natAbs := by rw [← Int.natAbs_mul, h1]
  have : 0 < (lowF t b).natAbs := by omega
  calc (low t b).1.natAbs = (low t b).1.natAbs * 1 := by omega
    _ ≤ (low t b).1.natAbs * (lowF t b).natAbs := Nat.mul_le_mul_left _ this
    _ = _ := e
theorem low_2_le (t b : Int) (h : b ≠ 0) : (low t b).2.natAbs ≤ b.natAbs := by
  have h1 := low_2 t b h
  have hn := lowF_ne (t := t) h
  have e : (low t b).2.natAbs * (lowF t b).natAbs = b.natAbs := by rw [← Int.natAbs_mul, h1]
  have : 0 < (lowF t b).natAbs := by omega
  calc (low t b).2.natAbs = (low t b).2.natAbs * 1 := by omega
    _ ≤ (low t b).2.natAbs * (lowF t b).natAbs := Nat.mul_le_mul_left _ this
    _ = _ := e
theorem lowF_le (t b : Int) (h : b ≠ 0) : (lowF t b).natAbs ≤ b.natAbs := by
  have hd := Int.natAbs_dvd_natAbs.mpr (lowF_dvd_r t b)
  exact Nat.le_of_dvd (by omega) hd
/-- as data -/
def fD (p : Int × Int) : D := .tup [.int p.1, .int p.2]
end XC
end

section
set_option Elab.async false
set_option linter.all false
set_option maxRecDepth 100000
namespace XC
open PySem
/-- a rational number, as data -/
def rD (r : Rat) : D := .tup [.int r.num, .int r.den]
theorem den_ne (r : Rat) : (r.den : Int) ≠ 0 := by have := r.den_pos; omega
theorem den_ne' (r : Rat) : (r.den : Rat) ≠ 0 := by
  intro h
  have := r.den_nz
  exact this (Rat.natCast_eq_zero_iff.mp h)
theorem den_neI (r : Rat) : ((r.den : Int) : Rat) ≠ 0 := fun h => den_ne r (Rat.intCast_eq_zero_iff.mp h)
theorem num_div (r : Rat) : (r.num : Rat) / ((r.den : Int) : Rat) = r := by
  have h := Rat.num_divInt_den r
  rw [Rat.divInt_eq_div] at h
  exact h
theorem num_eq (r : Rat) : (r.num : Rat) = r * ((r.den : Int) : Rat) := by
  have h := num_div r
  have d := den_neI r
  grind
theorem rat_fr (r : Rat) : Fr (r.num, (r.den : Int)) := ⟨by have := r.den_pos; simp only; omega, r.reduced⟩
/-- the two of a fraction of two integers -/
theorem low_rat (t b : Int) (hb : b ≠ 0) : low t b = (((t : Rat) / (b : Rat)).num, (((t : Rat) / (b : Rat)).den : Int)) := by
  refine low_of_cross hb (rat_fr _) ?_
  simp only
  have h := num_eq ((t : Rat) / (b : Rat))
  generalize hr : (t : Rat) / (b : Rat) = r at h ⊢
  have hb' : (b : Rat) ≠ 0 := fun h => hb (Rat.intCast_eq_zero_iff.mp h)
  apply Rat.intCast_inj.mp
  rw [Rat.intCast_mul, Rat.intCast_mul, h]
  have : (t : Rat) = r * b := by grind
  rw [this]
  grind
theorem fD_low (t b : Int) (hb : b ≠ 0) : fD (low t b) = rD ((t : Rat) / (b : Rat)) := by rw [low_rat t b hb]; rfl
theorem fr_rat {p : Int × Int} (h : Fr p) : ∃ r : Rat, p.1 = r.num ∧ p.2 = (r.den : Int) ∧ r = (p.1 : Rat) / (p.2 : Rat) := by
  have hb : p.2 ≠ 0 := by have := h.1; omega
  have := low_rat p.1 p.2 hb
  rw [low_self h] at this
  exact ⟨_, congrArg Prod.fst this, congrArg Prod.snd this, rfl⟩
theorem rD_inj {a b : Rat} (h : rD a = rD b) : a = b := by
  unfold rD at h
  injection h with h
  injection h with h1 h2
  injection h1 with h1
  injection h2 with h2 _
  injection h2 with h2
  exact Rat.ext h1 (by omega)
/-- sizes -/
def Sz (c : Nat) (r : Rat) : Prop := r.num.natAbs < 2 ^ c ∧ r.den < 2 ^ c
theorem Sz.mono {c d : Nat} {r : Rat} (h : Sz c r) (e : c ≤ d) : Sz d r :=
  ⟨Nat.lt_of_lt_of_le h.1 (Nat.pow_le_pow_right (by decide) e), Nat.lt_of_lt_of_le h.2 (Nat.pow_le_pow_right (by decide) e)⟩
theorem sz_mul {a b : Int} {m n : Nat} (ha : a.natAbs < 2 ^ m) (hb : b.natAbs < 2 ^ n) : (a * b).natAbs < 2 ^ (m + n) := by
  rw [Int.natAbs_mul, Nat.pow_add]
  exact Nat.mul_lt_mul'' ha hb
theorem sz_add {a b : Int} {m : Nat} (ha : a.natAbs < 2 ^ m) (hb : b.natAbs < 2 ^ m) : (a + b).natAbs < 2 ^ (m + 1) := by
  rw [Nat.pow_succ]; omega
theorem sz_sub {a b : Int} {m : Nat} (ha : a.natAbs < 2 ^ m) (hb : b.natAbs < 2 ^ m) : (a - b).natAbs < 2 ^ (m + 1) := by
  rw [Nat.pow_succ]; omega
theorem sz_den {r : Rat} {c : Nat} (h : Sz c r) : (r.den : Int).natAbs < 2 ^ c := by rw [Int.natAbs_natCast]; exact h.2
theorem sz_divi {t b : Int} {c : Nat} (hb : b ≠ 0) (h1 : t.natAbs < 2 ^ c) (h2 : b.natAbs < 2 ^ c) : Sz c ((t : Rat) / (b : Rat)) := by
  have e := low_rat t b hb
  have e1 := congrArg Prod.fst e
  have e2 := congrArg Prod.snd e
  simp only at e1 e2
  have l1 := low_1_le t b hb
  have l2 := low_2_le t b hb
  refine ⟨?_, ?_⟩
  · rw [← e1]; omega
  · have : ((t : Rat) / (b : Rat)).den = (low t b).2.natAbs := by rw [e2]; rfl
    rw [this]; omega
/-- the four ways, by numerators and denominators -/
theorem add_q (a b : Rat) : (((a.num * b.den + b.num * a.den : Int)) : Rat) / ((a.den * b.den : Int) : Rat) = a + b := by
  have h1 := num_eq a
  have h2 := num_eq b
  have h3 := den_neI a
  have h4 := den_neI b
  rw [Rat.intCast_add, Rat.intCast_mul, Rat.intCast_mul, Rat.intCast_mul, h1, h2]
  grind
theorem sub_q (a b : Rat) : (((a.num * b.den - b.num * a.den : Int)) : Rat) / ((a.den * b.den : Int) : Rat) = a - b := by
  have h1 := num_eq a
  have h2 := num_eq b
  have h3 := den_neI a
  have h4 := den_neI b
  rw [Rat.intCast_sub, Rat.intCast_mul, Rat.intCast_mul, Rat.intCast_mul, h1, h2]
  grind
theorem mul_q (a b : Rat) : ((a.num * b.num : Int) : Rat) / ((a.den * b.den : Int) : Rat) = a * b := by
  have h1 := num_eq a
  have h2 := num_eq b
  have h3 := den_neI a
  have h4 := den_neI b
  rw [Rat.intCast_mul, Rat.intCast_mul, h1, h2]
  grind
theorem num_ne {a : Rat} (h : a ≠ 0) : a.num ≠ 0 := fun e => h (Rat.num_eq_zero.mp e)
theorem div_q (a b : Rat) (hb : b ≠ 0) : ((a.num * b.den : Int) : Rat) / ((a.den * b.num : Int) : Rat) = a / b := by
  have h1 := num_eq a
  have h2 := num_eq b
  have h3 := den_neI a
  have h4 := den_neI b
  rw [Rat.intCast_mul, Rat.intCast_mul, h1, h2]
  grind
theorem den_mul_ne (a b : Rat) : (a.den : Int) * b.den ≠ 0 := Int.mul_ne_zero (den_ne a) (den_ne b)
theorem Sz.add {a b : Rat} {c : Nat} (ha : Sz c a) (hb : Sz c b) : Sz (c + c + 1) (a + b) := by
  rw [← add_q]
  exact sz_divi (den_mul_ne a b) (sz_add (sz_mul ha.1 (sz_den hb)) (sz_mul hb.1 (sz_den ha))) (Nat.lt_trans (sz_mul (sz_den ha) (sz_den hb)) (Nat.pow_lt_pow_right (by decide) (by omega)))
theorem Sz.sub {a b : Rat} {c : Nat} (ha : Sz c a) (hb : Sz c b) : Sz (c + c + 1) (a - b) := by
  rw [← sub_q]
  exact sz_divi (den_mul_ne a b) (sz_sub (sz_mul ha.1 (sz_den hb)) (sz_mul hb.1 (sz_den ha))) (Nat.lt_trans (sz_mul (sz_den ha) (sz_den hb)) (Nat.pow_lt_pow_right (by decide) (by omega)))
theorem Sz.mul {a b : Rat} {c : Nat} (ha : Sz c a) (hb : Sz c b) : Sz (c + c) (a * b) := by
  rw [← mul_q]
  exact sz_divi (den_mul_ne a b) (sz_mul ha.1 hb.1) (sz_mul (sz_den ha) (sz_den hb))
theorem Sz.div {a b : Rat} {c : Nat} (ha : Sz c a) (hb : Sz c b) : Sz (c + c) (a / b) := by
  by_cases h : b = 0
  · subst h
    have : a / 0 = 0 := by rw [Rat.div_def, Rat.inv_zero, Rat.mul_zero]
    rw [this]
    exact ⟨Nat.two_pow_pos _, Nat.one_lt_two_pow (by
      intro e
      have : c = 0 := by omega
      subst this
      have := ha.2
      have := a.den_pos
      omega)⟩
  · rw [← div_q a b h]
    exact sz_divi (Int.mul_ne_zero (den_ne a) (num_ne h)) (sz_mul ha.1 (sz_den hb)) (sz_mul (sz_den ha) hb.1)
theorem Sz.neg {a : Rat} {c : Nat} (ha : Sz c a) : Sz c (-a) := ⟨by rw [Rat.neg_num, Int.natAbs_neg]; exact ha.1, by rw [Rat.neg_den]; exact ha.2⟩
/-- comparing -/
theorem lt_q (a b : Rat) : (a.num * b.den < b.num * a.den) ↔ a < b := (Rat.lt_iff a b).symm
theorem rD_int (n : Int) : rD (n : Rat) = .tup [.int n, .int 1] := rfl
theorem floor_q (a : Rat) : a.num.fdiv a.den = a.floor := by
  rw [Rat.floor_def, Int.fdiv_eq_ediv_of_nonneg _ (by omega)]
theorem rD_eqv (a b : Rat) : (rD a).eqv (rD b) = decide (a = b) := by
  unfold rD
  show (a.num == b.num && (((a.den : Int)) == ((b.den : Int)) && true)) = _
  by_cases h : a = b
  · subst h; simp
  · rw [decide_eq_false h]
    by_cases h1 : a.num = b.num
    · by_cases h2 : a.den = b.den
      · exact absurd (Rat.ext h1 h2) h
      · simp [h2]; intro _; omega
    · simp [h1]
theorem v_eq_rD {S : Store} {a b : Rat} : cmpD S .Eq (rD a) (rD b) = some (decide (a = b)) := by
  rw [v_eq_ok rfl (by rfl) (by rfl)]
  exact congrArg some (rD_eqv a b)
theorem v_ne_rD {S : Store} {a b : Rat} : cmpD S .NotEq (rD a) (rD b) = some (!decide (a = b)) := by
  rw [v_ne_ok rfl (by rfl) (by rfl)]
  exact congrArg (fun b => some (!b)) (rD_eqv a b)
theorem fD_rD (r : Rat) : fD (r.num, (r.den : Int)) = rD r := rfl
/-- the product over the crossed bottoms -/
theorem cross_of {r : Rat} {t b : Int} (hb : b ≠ 0) (h : r = (t : Rat) / (b : Rat)) : r.num * b = t * r.den := by
  have h1 := num_eq r
  have hb' : (b : Rat) ≠ 0 := fun h => hb (Rat.intCast_eq_zero_iff.mp h)
  apply Rat.intCast_inj.mp
  rw [Rat.intCast_mul, Rat.intCast_mul, h1]
  have : (t : Rat) = r * b := by rw [h]; grind
  rw [this]; grind
theorem Sz.add' {a b : Rat} {c d : Nat} (ha : Sz c a) (hb : Sz d b) : Sz (c + d + 1) (a + b) := by
  rw [← add_q]
  have h2 := sz_mul hb.1 (sz_den ha)
  rw [Nat.add_comm d c] at h2
  exact sz_divi (den_mul_ne a b) (sz_add (sz_mul ha.1 (sz_den hb)) h2) (Nat.lt_trans (sz_mul (sz_den ha) (sz_den hb)) (Nat.pow_lt_pow_right (by decide) (by omega)))
theorem Sz.int {n : Int} {c : Nat} (hc : 0 < c) (h : n.natAbs < 2 ^ c) : Sz c (n : Rat) := ⟨h, Nat.one_lt_two_pow (by omega)⟩
theorem sz_floor {a : Rat} {c : Nat} (h : Sz c a) : a.floor.natAbs < 2 ^ c := by
  rw [Rat.floor_def]
  exact Nat.lt_of_le_of_lt (Int.natAbs_ediv_le_natAbs _ _) h.1
/-- a sum -/
def sumR : List Rat → Rat
  | [] => 0
  | x :: r => x + sumR r
theorem sumR_perm {xs ys : List Rat} (p : xs.Perm ys) : sumR xs = sumR ys := by
  induction p with
  | nil => rfl
  | cons x _ ih => unfold sumR; rw [ih]
  | swap x y l => simp only [sumR]; grind
  | trans _ _ a b => exact a.trans b
theorem perm_map_inv {α β : Type} {f : α → β} {ys zs : List β} (p : ys.Perm zs) : ∀ rs : List α, zs = rs.map f → ∃ qs : List α, ys = qs.map f ∧ qs.Perm rs := by
  induction p with
  | nil => exact fun rs h => ⟨rs, h, .refl _⟩
  | cons x _ ih =>
    intro rs h
    cases rs with
    | nil => cases h
    | cons r rs =>
      rw [List.map_cons] at h
      injection h with h1 h2
      obtain ⟨qs, e, p⟩ := ih rs h2
      exact ⟨r :: qs, by rw [List.map_cons, h1, e], p.cons r⟩
  | swap x y l =>
    intro rs h
    match rs, h with
    | r :: q :: rs, h =>
      simp only [List.map_cons] at h
      injection h with h1 h2
      injection h2 with h2 h3
      exact ⟨q :: r :: rs, by simp only [List.map_cons, h1, h2, h3], .swap ..⟩
  | trans _ _ a b =>
    intro rs h
    obtain ⟨qs, e, p⟩ := b rs h
    obtain ⟨ps, e2, p2⟩ := a qs e
    exact ⟨ps, e2, p2.trans p⟩
theorem isPair_rD (rs : List Rat) : (rs.map rD).all isPairD = true := by
  rw [List.all_map]
  exact List.all_eq_true.mpr fun x _ => rfl
end XC
end

section
set_option Elab.async false
set_option linter.all false
set_option maxRecDepth 100000
namespace XC
open PySem
theorem str_len {i : Int} {k : Nat} (hk : 0 < k) (h : i.natAbs < 10 ^ k) : (Str.ofString (toString i)).length ≤ k + 1 := by
  have hp : ((10 : Int) ^ k) = ((10 ^ k : Nat) : Int) := (Int.natCast_pow 10 k).symm
  cases i with
  | ofNat n =>
    have h : n < 10 ^ k := h
    have := PyProof.Rows.toString_length_le (v := (n : Int)) (by omega) hk (by rw [hp]; exact Int.ofNat_lt.mpr h)
    exact Nat.le_succ_of_le this
  | negSucc m =>
    have h : m + 1 < 10 ^ k := h
    have := PyProof.Rows.toString_length_le (v := ((m + 1 : Nat) : Int)) (by omega) hk (by rw [hp]; exact Int.ofNat_lt.mpr h)
    have e1 : toString (Int.negSucc m) = "-" ++ toString ((m + 1 : Nat) : Int) := rfl
    rw [PyProof.Rows.ofString_length] at this
    rw [PyProof.Rows.ofString_length, e1, String.toList_append, List.length_append]
    have e2 : "-".toList.length = 1 := rfl
    omega
theorem v_strI {S : Store} {Q : QE} {i : Int} : bltW .str [.int i] S Q = (i.natAbs.log2 < 1920 ∧ Q (.str (Str.ofString (toString i))) S) := rfl
end XC
end

section
set_option Elab.async false
set_option linter.all false
set_option maxRecDepth 100000
namespace XC
open PySem
/-- the rationals of a list of pairs -/
def isR : List D → List Rat → Bool
  | [], [] => true
  | .tup [.int n, .int d] :: xs, r :: rs => decide (n = r.num) && decide (d = (r.den : Int)) && isR xs rs
  | _, _ => false
theorem isR_map : ∀ {xs : List D} {rs : List Rat}, isR xs rs = true → xs = rs.map rD
  | [], [], _ => rfl
  | .tup [.int n, .int d] :: xs, r :: rs, h => by
    unfold isR at h
    simp only [Bool.and_eq_true, decide_eq_true_eq] at h
    rw [List.map_cons, ← isR_map h.2, h.1.1, h.1.2]; rfl
theorem isR_one {x : D} {r : Rat} (h : isR [x] [r] = true) : x = rD r := by
  have := isR_map h
  injection this
/-- an item of a list, any of them -/
theorem pick {xs : List D} {d : Int} {K : D → Prop} (h0 : 0 ≤ d) (h1 : d < xs.length) (h : ∀ x ∈ xs, K x) : (match atI xs d with | some d => K d | none => False) := by
  have e : d = ((d.toNat : Nat) : Int) := by omega
  have hl : d.toNat < xs.length := by omega
  rw [e, atk (List.getElem?_eq_getElem hl)]
  exact h _ (List.getElem_mem hl)
theorem pickM {α : Type} (g : α → D) (l : List α) {xs : List D} {d : Int} {K : D → Prop} (e : xs = l.map g) (h0 : 0 ≤ d) (h1 : d < (l.length : Int)) (h : ∀ x ∈ l, K (g x)) : (match atI xs d with | some d => K d | none => False) := by
  subst e
  refine pick h0 (by rw [List.length_map]; exact h1) fun x hx => ?_
  obtain ⟨y, hy, rfl⟩ := List.mem_map.mp hx
  exact h y hy
theorem pickR (l : List Rat) {xs : List D} {d : Int} {K : D → Prop} (e : isR xs l = true) (h0 : 0 ≤ d) (h1 : d < (l.length : Int)) (h : ∀ x ∈ l, K (rD x)) : (match atI xs d with | some d => K d | none => False) := pickM rD l (isR_map e) h0 h1 h
/-- for over mapped items: done, left -/
theorem for_over {α : Type} {G : Store → Prop} {tgt : D → Env → Store → (Env → Store → Prop) → Prop} {body : WS} {P : Post} (g : α → D) (l : List α) (I : List α → List α → Env → Store → Prop) {ρ : Env} {S : Store} (h0 : I [] l ρ S)
    (hn : ∀ ρ S, I l [] ρ S → G S ∧ P.nx ρ S)
    (h : ∀ l1 x l2 ρ S (K : Env → Store → Prop), l = l1 ++ x :: l2 → I l1 (x :: l2) ρ S → (∀ ρ' S', I (l1 ++ [x]) l2 ρ' S' → K ρ' S') → G S ∧ tgt (g x) ρ S fun ρ1 S1 => body (P.loop K P.nx) ρ1 S1) :
    forW G tgt body P (l.map g) ρ S := by
  refine for_ind' (fun r ρ S => ∃ l1 l2, l = l1 ++ l2 ∧ r = l2.map g ∧ I l1 l2 ρ S) ?_ ?_ _ _ _ ⟨[], l, rfl, rfl, h0⟩
  · rintro ρ S ⟨l1, l2, e, e2, hi⟩
    cases l2 with
    | cons _ _ => cases e2
    | nil => rw [List.append_nil] at e; subst e; exact hn ρ S hi
  · rintro x r ρ S K ⟨l1, l2, e, e2, hi⟩ ih
    cases l2 with
    | nil => cases e2
    | cons y l2 =>
    rw [List.map_cons] at e2
    injection e2 with e3 e4
    subst e3 e4
    exact h l1 y l2 ρ S K e hi fun ρ' S' hi' => ih ρ' S' ⟨l1 ++ [y], l2, by rw [e]; simp, rfl, hi'⟩
/-- for with an early return at the first that is so; the store stays -/
theorem for_any {α : Type} {tgt : D → Env → Store → (Env → Store → Prop) → Prop} {body : WS} {P : Post} (g : α → D) (l : List α) (f : α → Bool) (I : Env → Prop) (R : Prop) {ρ : Env} {S : Store} (h0 : I ρ)
    (hR : l.any f = true → R) (hn : l.any f = false → ∀ ρ, I ρ → P.nx ρ S)
    (h : ∀ x ∈ l, ∀ ρ (K : Env → Store → Prop), I ρ → (f x = true → R) → (f x = false → ∀ ρ', I ρ' → K ρ' S) → tgt (g x) ρ S fun ρ1 S1 => body (P.loop K P.nx) ρ1 S1) :
    forW (fun _ => True) tgt body P (l.map g) ρ S := by
  refine for_over g l (fun l1 l2 ρ' S' => S' = S ∧ I ρ' ∧ l1.any f = false) ⟨rfl, h0, rfl⟩ ?_ ?_
  · rintro ρ' _ ⟨rfl, hi, e⟩
    exact ⟨trivial, hn e ρ' hi⟩
  · rintro l1 x l2 ρ' _ K e ⟨rfl, hi, ea⟩ ih
    refine ⟨trivial, h x (by rw [e]; simp) ρ' K hi (fun hx => hR ?_) fun hx ρ'' hi' => ih ρ'' _ ⟨rfl, hi', ?_⟩⟩
    · rw [e, List.any_append, List.any_cons, hx]; simp
    · rw [List.any_append, ea, List.any_cons, hx]; rfl
/-- for i in range(n) -/
theorem for_rng {G : Store → Prop} {tgt : D → Env → Store → (Env → Store → Prop) → Prop} {body : WS} {P : Post} {n : Nat} (I : Nat → Env → Store → Prop) {ρ : Env} {S : Store} (h0 : I 0 ρ S)
    (hn : ∀ ρ S, I n ρ S → G S ∧ P.nx ρ S)
    (h : ∀ i, i < n → ∀ ρ S (K : Env → Store → Prop), I i ρ S → (∀ ρ' S', I (i + 1) ρ' S' → K ρ' S') → G S ∧ tgt (.int i) ρ S fun ρ1 S1 => body (P.loop K P.nx) ρ1 S1) :
    forW G tgt body P (rngD 0 n) ρ S := by
  unfold rngD
  refine for_over (fun (i : Nat) => D.int (0 + (i : Int))) (List.range n) (fun l1 l2 ρ S => I l1.length ρ S) h0 (fun ρ S hi => hn ρ S (by rw [List.length_range] at hi; exact hi)) fun l1 x l2 ρ S K e hi ih => ?_
  have hx : x = l1.length ∧ l1.length < n := by
    have h1 : (List.range n)[l1.length]? = some x := by rw [e]; simp
    have h2 := List.getElem?_eq_some_iff.mp h1
    obtain ⟨h3, h4⟩ := h2
    rw [List.getElem_range] at h4
    rw [List.length_range] at h3
    exact ⟨h4.symm, h3⟩
  obtain ⟨rfl, hlt⟩ := hx
  rw [show (0 : Int) + ((l1.length : Nat) : Int) = (l1.length : Int) by omega]
  exact h _ hlt ρ S K hi fun ρ' S' hi' => ih ρ' S' (by rw [List.length_append]; exact hi')
theorem rng2 : rngD 0 2 = [D.int 0, .int 1] := rfl
theorem erase_map {α β : Type} (f : α → β) : ∀ (l : List α) (n : Nat), (l.map f).eraseIdx n = (l.eraseIdx n).map f
  | [], _ => rfl
  | x :: r, 0 => rfl
  | x :: r, n + 1 => by
    show f x :: (r.map f).eraseIdx n = f x :: (r.eraseIdx n).map f
    rw [erase_map f r n]
theorem erase_perm {α : Type} : ∀ (l : List α) (n : Nat) (h : n < l.length), (l[n] :: l.eraseIdx n).Perm l
  | x :: r, 0, h => .refl _
  | x :: r, n + 1, h => by
    show (r[n]'(Nat.lt_of_succ_lt_succ h) :: x :: r.eraseIdx n).Perm (x :: r)
    exact (List.Perm.swap ..).trans ((erase_perm r n (Nat.lt_of_succ_lt_succ h)).cons x)
theorem v_mul_tup {S : Store} {Q : D → Prop} {xs : List D} {k : Int} : binW S .Mult (.tup xs) (.int k) Q = (xs ≠ [] ∧ 0 ≤ k ∧ k ≤ 1000 ∧ xs.length ≤ 1000 ∧ Q (.tup (List.replicate k.toNat xs).flatten)) := rfl
theorem v_mul_str {S : Store} {Q : D → Prop} {z : Str} {k : Int} : binW S .Mult (.str z) (.int k) Q = (0 ≤ k ∧ k ≤ 1000 ∧ z.length = 1 ∧ Q (.str ⟨(List.replicate k.toNat z.cps).foldl (· ++ ·) #[]⟩)) := rfl
theorem v_int_str {S : Store} {Q : QE} {x : Str} {n : Int} (h : intD x = some n) : bltW .int [.str x] S Q = (x.length ≤ 640 ∧ Q (.int n) S) := by
  show (match intD x with | some n => x.length ≤ 640 ∧ Q (.int n) S | none => False) = _
  rw [h]
theorem v_dget {S : Store} {a : Nat} {kvs : List (Sum Int Str × D)} {x : Str} {z : D} {K : D → Prop} (h : S a = some (.dic kvs)) : dgetW S (.loc a) (.str x) z K = K ((valD kvs (.inr x)).getD z) := by
  unfold dgetW; simp only [keyD, h]
theorem v_dput {S : Store} {a : Nat} {kvs : List (Sum Int Str × D)} {x : Str} {v : D} {K : Store → Prop} (h : S a = some (.dic kvs)) : dputW S (.loc a) (.str x) v K = (kvs.length < sizeL ∧ K (put S a (.dic (putD kvs (.inr x) v)))) := by
  unfold dputW; simp only [keyD, h]
theorem v_dic {S : Store} {a : Nat} {kvs : List (Sum Int Str × D)} (h : S a = some (.dic kvs)) : dicAt S (.loc a) := by
  unfold dicAt; simp only [h]
/-- sizes that are there -/
theorem le_sl {n : Nat} (h : n ≤ 1000000) : n ≤ sizeL := by unfold sizeL; omega
theorem le_slT {n : Nat} (h : n ≤ 1000000) : (n ≤ sizeL) = True := eq_true (le_sl h)
theorem sl0 : (0 ≤ sizeL) = True := le_slT (by decide)
theorem sl1 : (1 ≤ sizeL) = True := le_slT (by decide)
theorem sl2 : (2 ≤ sizeL) = True := le_slT (by decide)
theorem sl3 : (3 ≤ sizeL) = True := le_slT (by decide)
theorem sl4 : (4 ≤ sizeL) = True := le_slT (by decide)
theorem sl5 : (5 ≤ sizeL) = True := le_slT (by decide)
theorem sl6 : (6 ≤ sizeL) = True := le_slT (by decide)
theorem sl7 : (7 ≤ sizeL) = True := le_slT (by decide)
theorem sl8 : (8 ≤ sizeL) = True := le_slT (by decide)
theorem br_T {P Q : Prop} : br (some true) P Q = P := rfl
theorem br_F {P Q : Prop} : br (some false) P Q = Q := rfl
/-- [e for k in range(n)]: each e one value, the store left as it was -/
theorem comp_rng {p : Nat} {bare : Env} {i : Nat} {elt : Env → Store → QE → Prop} {n : Nat} {S : Store} {K : List D → Store → Prop} (f : Nat → D) (hl : n ≤ 1000000)
    (h : ∀ k, k < n → ∀ (acc : List D) (Q : QE), Q (f k) (put S p (.lst acc)) → elt (bare.set i (some (.int k))) (put S p (.lst acc)) Q)
    (hK : K ((List.range n).map f) (put S p (.lst ((List.range n).map f)))) :
    compW (fun _ => True) p bare (fun x ρ S K => K (ρ.set i (some x)) S) (fun _ S K => K true S) elt (rngD 0 n) [] (put S p (.lst [])) K := by
  unfold rngD
  refine comp_over (fun (k : Nat) => D.int (0 + (k : Int))) f (fun _ => trivial) (by rw [List.length_range]; exact hl) (fun k hk acc Q hq => ?_) hK
  show elt (bare.set i (some (.int (0 + (k : Int))))) _ _
  rw [Int.zero_add]
  exact h k (List.mem_range.mp hk) acc Q hq
mutual
/-- depth below n, no places, lengths bounded -/
def nice : Nat → D → Bool
  | 0, _ => false
  | _ + 1, .non => true
  | _ + 1, .bl _ => true
  | _ + 1, .int _ => true
  | _ + 1, .str _ => true
  | n + 1, .tup xs => decide (xs.length ≤ 100000) && nices n xs
  | n + 1, .vls xs => decide (xs.length ≤ 100000) && nices n xs
  | _, _ => false
def nices : Nat → List D → Bool
  | _, [] => true
  | n, x :: xs => nice n x && nices n xs
end
theorem nices_mem : ∀ {n : Nat} {xs : List D}, nices n xs = true → ∀ x ∈ xs, nice n x = true
  | n, [], _, x, hx => by simp at hx
  | n, y :: xs, h, x, hx => by
    simp only [nices, Bool.and_eq_true] at h
    rcases List.mem_cons.mp hx with rfl | hx
    · exact h.1
    · exact nices_mem h.2 x hx
theorem nices_of : ∀ {n : Nat} {xs : List D}, (∀ x ∈ xs, nice n x = true) → nices n xs = true
  | n, [], _ => rfl
  | n, y :: xs, h => by
    simp only [nices, Bool.and_eq_true]
    exact ⟨h y (by simp), nices_of fun x hx => h x (by simp [hx])⟩
theorem nice_tup {n : Nat} {xs : List D} (h1 : xs.length ≤ 100000) (h : ∀ x ∈ xs, nice n x = true) : nice (n + 1) (.tup xs) = true := by
  simp only [nice, Bool.and_eq_true, decide_eq_true_eq]
  exact ⟨h1, nices_of h⟩
theorem nice_vls {n : Nat} {xs : List D} (h1 : xs.length ≤ 100000) (h : ∀ x ∈ xs, nice n x = true) : nice (n + 1) (.vls xs) = true := by
  simp only [nice, Bool.and_eq_true, decide_eq_true_eq]
  exact ⟨h1, nices_of h⟩
theorem nice_rD (n : Nat) (r : Rat) : nice (n + 2) (rD r) = true := rfl
theorem range_getElem {α : Type} (xs : List α) (k : Nat) (h : k < xs.length) : atI xs (k : Int) = some xs[k] := atk (List.getElem?_eq_getElem h)
theorem bools_true : ∀ n, boolsOf ((List.range n).map fun _ => D.bl true) = some ((List.range n).map fun _ => true) := fun n => by
  rw [show ((List.range n).map fun _ => D.bl true) = ((List.range n).map fun _ => true).map D.bl by rw [List.map_map]; rfl, bools_map]
theorem all_true' (n : Nat) : ((List.range n).map fun _ => true).all id = true := by
  rw [List.all_map]; exact List.all_eq_true.mpr fun _ _ => rfl
theorem cut25 {a b c d e : D} : cut [a, b, c, d, e] (some 2) none = [c, d, e] := rfl
theorem cut24 {a b c d e : D} : cut [a, b, c, d, e] (some 3) none = [d, e] := rfl
theorem cut02 {a b c d e : D} : cut [a, b, c, d, e] none (some 2) = [a, b] := rfl
theorem Sz.mul' {a b : Rat} {c d : Nat} (ha : Sz c a) (hb : Sz d b) : Sz (c + d) (a * b) := by
  rw [← mul_q]
  exact sz_divi (den_mul_ne a b) (sz_mul ha.1 hb.1) (sz_mul (sz_den ha) (sz_den hb))
theorem Sz.div' {a b : Rat} {c d : Nat} (ha : Sz c a) (hb : Sz d b) : Sz (c + d) (a / b) := by
  by_cases h : b = 0
  · subst h
    have : a / 0 = 0 := by rw [Rat.div_def, Rat.inv_zero, Rat.mul_zero]
    rw [this]
    have : 0 < c := by
      rcases Nat.eq_zero_or_pos c with e | e
      · subst e
        have := ha.2
        have := a.den_pos
        omega
      · exact e
    exact ⟨Nat.two_pow_pos _, Nat.one_lt_two_pow (by omega)⟩
  · rw [← div_q a b h]
    refine sz_divi (Int.mul_ne_zero (den_ne a) (num_ne h)) (sz_mul ha.1 (sz_den hb)) (sz_mul (sz_den ha) hb.1)
theorem cut_map {α β : Type} (f : α → β) (l : List α) (lo hi : Option Int) : cut (l.map f) lo hi = (cut l lo hi).map f := by
  unfold cut
  rw [List.length_map, List.map_take, List.map_drop]
theorem fin_non {Q : QE} {d : D} {S1 : Store} (h : Q d fun _ => none) : ∃ S', XC.Sub S' S1 ∧ Q d S' := ⟨fun _ => none, (fun _ _ e => by cases e), h⟩
theorem num_pos' {m : Rat} (h : 0 < m) : 0 < m.num := by
  have h1 := (lt_q 0 m).mpr h
  have e1 : (0 : Rat).num = 0 := rfl
  have e2 : (0 : Rat).den = 1 := rfl
  rw [e1, e2] at h1
  simpa using h1
/-- a fraction k / n, k at most c -/
def Gr (n c : Nat) (r : Rat) : Prop := ∃ k : Int, k.natAbs ≤ c ∧ r = (k : Rat) / ((n : Int) : Rat)
theorem Gr.sz {n c b : Nat} {r : Rat} (h : Gr n c r) (hn : n ≠ 0) (h1 : c < 2 ^ b) (h2 : n < 2 ^ b) : Sz b r := by
  obtain ⟨k, hk, rfl⟩ := h
  exact sz_divi (by omega) (by omega) (by omega)
theorem Gr.int {k : Int} {c : Nat} (h : k.natAbs ≤ c) : Gr 1 c (k : Rat) := ⟨k, h, by
  have : (((1 : Nat) : Int) : Rat) = 1 := rfl
  rw [this]; grind⟩
theorem Gr.mono {n c d : Nat} {r : Rat} (h : Gr n c r) (e : c ≤ d) : Gr n d r := by
  obtain ⟨k, hk, rfl⟩ := h
  exact ⟨k, Nat.le_trans hk e, rfl⟩
theorem Gr.up {n c : Nat} {r : Rat} (m : Nat) (h : Gr n c r) (hn : n ≠ 0) (hm : m ≠ 0) : Gr (n * m) (c * m) r := by
  obtain ⟨k, hk, rfl⟩ := h
  refine ⟨k * m, by rw [Int.natAbs_mul]; exact Nat.mul_le_mul hk (by simp), ?_⟩
  have h1 : ((n : Int) : Rat) ≠ 0 := fun e => by have := Rat.intCast_eq_zero_iff.mp e; omega
  have h2 : ((m : Int) : Rat) ≠ 0 := fun e => by have := Rat.intCast_eq_zero_iff.mp e; omega
  have e : (((n * m : Nat) : Int) : Rat) = ((n : Int) : Rat) * ((m : Int) : Rat) := by
    rw [← Rat.intCast_mul]; congr 1
  rw [e, Rat.intCast_mul]
  grind
theorem Gr.add {n c d : Nat} {a b : Rat} (h : Gr n c a) (g : Gr n d b) : Gr n (c + d) (a + b) := by
  obtain ⟨k, hk, rfl⟩ := h
  obtain ⟨l, hl, rfl⟩ := g
  refine ⟨k + l, by omega, ?_⟩
  rw [Rat.intCast_add]; grind
theorem Gr.sub {n c d : Nat} {a b : Rat} (h : Gr n c a) (g : Gr n d b) : Gr n (c + d) (a - b) := by
  obtain ⟨k, hk, rfl⟩ := h
  obtain ⟨l, hl, rfl⟩ := g
  refine ⟨k - l, by omega, ?_⟩
  rw [Rat.intCast_sub]; grind
theorem Gr.sz10 {c : Nat} {r : Rat} (h : Gr 6 c r) (hc : c < 2 ^ 10) : Sz 10 r := h.sz (by decide) hc (by decide)
theorem Gr.h6 {c : Nat} {r : Rat} (h : Gr 2 c r) : Gr 6 (c * 3) r := h.up 3 (by decide) (by decide)
/-- a check for Gr -/
def grB (n c : Nat) (r : Rat) : Bool := (r * ((n : Int) : Rat)).den == 1 && decide ((r * ((n : Int) : Rat)).num.natAbs ≤ c) && n != 0
theorem grB_ok {n c : Nat} {r : Rat} (h : grB n c r = true) : Gr n c r := by
  unfold grB at h
  simp only [Bool.and_eq_true, beq_iff_eq, decide_eq_true_eq, bne_iff_ne, ne_eq] at h
  obtain ⟨⟨h1, h2⟩, h3⟩ := h
  refine ⟨_, h2, ?_⟩
  have h4 := num_eq (r * ((n : Int) : Rat))
  rw [h1] at h4
  have h5 : (((1 : Nat) : Int) : Rat) = 1 := rfl
  have h6 : ((n : Int) : Rat) ≠ 0 := fun e => by have := Rat.intCast_eq_zero_iff.mp e; omega
  rw [h4, h5]
  grind
end XC
end

section
set_option maxRecDepth 100000
namespace XC.Kk05
open PySem
abbrev f_ClashError : Nat := 1
abbrev f_InvalidText : Nat := 2
abbrev f_common : Nat := 4
abbrev f_digits_from : Nat := 7
abbrev f_fraction_told : Nat := 8
abbrev f_L_spring : Nat := 10
abbrev f_L_drop : Nat := 11
abbrev f_L_kinds : Nat := 12
abbrev f_L_alike : Nat := 13
abbrev f_L_low : Nat := 14
abbrev f_L_plus : Nat := 15
abbrev f_L_minus : Nat := 16
abbrev f_L_times : Nat := 17
abbrev f_L_below : Nat := 18
abbrev f_L_number : Nat := 19
abbrev f_L_read : Nat := 20
abbrev f_L_told : Nat := 21
abbrev f_L_spoilt : Nat := 22
abbrev f_law : Nat := 23
abbrev g_DIGITS : Nat := 6
def n_common : List Str := [Str.ofString "one", Str.ofString "other"]
def p_common : List Str := [Str.ofString "one", Str.ofString "other"]
def u_common : List (Str × Nat) := []
def uc_common : List (Str × Nat) := []
def uk_common : List (Nat × Nat × List Str × List Nat) := []
def ux_common : List (Str × (Nat × Bool)) := []
def uf_common : List (Nat × Str) := []
def c_common : CFn := ⟨2, (.cons (.whl (.cmp .Gt (.var 1) (.con (.int 0))) (.cons (.par 0 1 (.var 1) (.bin .Mod (.var 0) (.var 1))) .nil)) (.cons (.ret (.var 0)) .nil))⟩
def n_digits_from : List Str := [Str.ofString "text", Str.ofString "at", Str.ofString "end"]
def p_digits_from : List Str := [Str.ofString "text", Str.ofString "at"]
def u_digits_from : List (Str × Nat) := []
def uc_digits_from : List (Str × Nat) := [(Str.ofString "DIGITS", g_DIGITS)]
def uk_digits_from : List (Nat × Nat × List Str × List Nat) := []
def ux_digits_from : List (Str × (Nat × Bool)) := [(Str.ofString "InvalidText", (f_InvalidText, false))]
def uf_digits_from : List (Nat × Str) := [(f_InvalidText, Str.ofString "index")]
def c_digits_from : CFn := ⟨3, (.cons (.asg (.nm 2) (.var 1)) (.cons (.whl (.and (.cmp .NotEq (.sli (.var 0) (.some (.var 2)) (.some (.bin .Add (.var 2) (.con (.int 1))))) (.con (.str (Str.ofString "")))) (.cmp .In (.idx (.var 0) (.var 2)) (.glob g_DIGITS))) (.cons (.aug 2 .Add (.con (.int 1))) .nil)) (.cons (.ife (.or (.cmp .Eq (.var 2) (.var 1)) (.and (.cmp .Eq (.idx (.var 0) (.var 1)) (.con (.str (Str.ofString "0")))) (.cmp .Gt (.var 2) (.bin .Add (.var 1) (.con (.int 1)))))) (.cons (.rsf f_InvalidText (.ite (.cmp .Gt (.var 2) (.var 1)) (.blt .min (.cons (.var 2) (.cons (.bin .Add (.var 1) (.con (.int 1))) .nil))) (.var 1))) .nil) .nil) (.cons (.ret (.var 2)) .nil))))⟩
def n_fraction_told : List Str := [Str.ofString "text", Str.ofString "at", Str.ofString "end", Str.ofString "last", Str.ofString "top", Str.ofString "bottom"]
def p_fraction_told : List Str := [Str.ofString "text"]
def u_fraction_told : List (Str × Nat) := [(Str.ofString "common", f_common), (Str.ofString "digits_from", f_digits_from)]
def uc_fraction_told : List (Str × Nat) := []
def uk_fraction_told : List (Nat × Nat × List Str × List Nat) := []
def ux_fraction_told : List (Str × (Nat × Bool)) := [(Str.ofString "InvalidText", (f_InvalidText, false))]
def uf_fraction_told : List (Nat × Str) := [(f_InvalidText, Str.ofString "index")]
def t_fraction_told_1 : CSs := (.cons (.ret (.tup (.cons (.var 4) (.cons (.var 5) .nil)))) .nil)
def t_fraction_told_2 : CSs := (.cons (.ife (.or (.cmp .Eq (.var 5) (.con (.int 1))) (.cmp .Gt (.call f_common (.cons (.blt .abs (.cons (.var 4) .nil)) (.cons (.var 5) .nil))) (.con (.int 1)))) (.cons (.rsf f_InvalidText (.var 3)) .nil) .nil) t_fraction_told_1)
def t_fraction_told_3 : CSs := (.cons (.par 4 5 (.blt .int (.cons (.sli (.var 0) .none (.some (.var 2))) .nil)) (.blt .int (.cons (.sli (.var 0) (.some (.bin .Add (.var 2) (.con (.int 1)))) .none) .nil))) t_fraction_told_2)
def t_fraction_told_4 : CSs := (.cons (.ife (.cmp .Lt (.var 3) (.blt .len (.cons (.var 0) .nil))) (.cons (.rsf f_InvalidText (.var 3)) .nil) .nil) t_fraction_told_3)
def t_fraction_told_5 : CSs := (.cons (.asg (.nm 3) (.call f_digits_from (.cons (.var 0) (.cons (.bin .Add (.var 2) (.con (.int 1))) .nil)))) t_fraction_told_4)
def t_fraction_told_6 : CSs := (.cons (.ife (.cmp .Eq (.sli (.var 0) (.some (.bin .Add (.var 2) (.con (.int 1)))) (.some (.bin .Add (.var 2) (.con (.int 2))))) (.con (.str (Str.ofString "0")))) (.cons (.rsf f_InvalidText (.bin .Add (.var 2) (.con (.int 1)))) .nil) .nil) t_fraction_told_5)
def t_fraction_told_7 : CSs := (.cons (.ife (.or (.cmp .NotEq (.idx (.var 0) (.var 2)) (.con (.str (Str.ofString "/")))) (.cmp .Eq (.idx (.var 0) (.var 1)) (.con (.str (Str.ofString "0"))))) (.cons (.rsf f_InvalidText (.var 2)) .nil) .nil) t_fraction_told_6)
def t_fraction_told_8 : CSs := (.cons (.ife (.cmp .Eq (.var 2) (.blt .len (.cons (.var 0) .nil))) (.cons (.ret (.tup (.cons (.blt .int (.cons (.var 0) .nil)) (.cons (.con (.int 1)) .nil)))) .nil) .nil) t_fraction_told_7)
def t_fraction_told_9 : CSs := (.cons (.asg (.nm 2) (.call f_digits_from (.cons (.var 0) (.cons (.var 1) .nil)))) t_fraction_told_8)
def t_fraction_told_10 : CSs := (.cons (.ife (.and (.cmp .Eq (.sli (.var 0) (.some (.var 1)) (.some (.bin .Add (.var 1) (.con (.int 1))))) (.con (.str (Str.ofString "0")))) (.cmp .Eq (.var 1) (.con (.int 1)))) (.cons (.rsf f_InvalidText (.var 1)) .nil) .nil) t_fraction_told_9)
def t_fraction_told_11 : CSs := (.cons (.asg (.nm 1) (.blt .int (.cons (.cmp .Eq (.sli (.var 0) .none (.some (.con (.int 1)))) (.con (.str (Str.ofString "-")))) .nil))) t_fraction_told_10)
def t_fraction_told_12 : CSs := (.cons (.ife (.nt (.isi (.var 0) [.str])) (.cons (.rsf f_InvalidText (.con (.int 0))) .nil) .nil) t_fraction_told_11)
def c_fraction_told : CFn := ⟨6, t_fraction_told_12⟩
def n_L_spring : List Str := [Str.ofString "script", Str.ofString "great", Str.ofString "mixed", Str.ofString "cell"]
def p_L_spring : List Str := [Str.ofString "script"]
def u_L_spring : List (Str × Nat) := []
def uc_L_spring : List (Str × Nat) := []
def uk_L_spring : List (Nat × Nat × List Str × List Nat) := []
def ux_L_spring : List (Str × (Nat × Bool)) := []
def uf_L_spring : List (Nat × Str) := []
def c_L_spring : CFn := ⟨4, (.cons (.asg (.nm 1) (.comp true [3] (.nm 3) (.ev (.var 0)) (.some (.cmp .GtE (.var 3) (.bin .Pow (.con (.int 10)) (.con (.int 18))))) (.bin .Sub (.var 3) (.bin .Pow (.con (.int 10)) (.con (.int 18)))))) (.cons (.asg (.nm 2) (.bin .Add (.con (.int 15485863)) (.bin .Mult (.con (.int 2)) (.blt .len (.cons (.var 0) .nil))))) (.cons (.for_ (.nm 3) (.ev (.var 0)) (.cons (.asg (.nm 2) (.bin .Mod (.blt .int (.cons (.bin .Add (.bin .Add (.bin .Mult (.var 2) (.con (.int 982451653))) (.bin .Mult (.var 3) (.con (.int 49979687)))) (.con (.int 32452843))) .nil)) (.con (.int 2305843009213693951)))) .nil)) (.cons (.ret (.lst true (.cons (.var 1) (.cons (.var 2) (.cons (.con (.int 0)) .nil))))) .nil))))⟩
def n_L_drop : List Str := [Str.ofString "spring", Str.ofString "many", Str.ofString "great", Str.ofString "found"]
def p_L_drop : List Str := [Str.ofString "spring", Str.ofString "many"]
def u_L_drop : List (Str × Nat) := []
def uc_L_drop : List (Str × Nat) := []
def uk_L_drop : List (Nat × Nat × List Str × List Nat) := []
def ux_L_drop : List (Str × (Nat × Bool)) := []
def uf_L_drop : List (Nat × Str) := []
def c_L_drop : CFn := ⟨4, (.cons (.asg (.nm 2) (.idx (.var 0) (.con (.int 0)))) (.cons (.whl (.and (.cmp .NotEq (.var 2) (.lst false .nil)) (.cmp .Eq (.idx (.var 2) (.con (.int 0))) (.con (.int 0)))) (.cons (.exp (.meth .popAt (.var 2) (.cons (.con (.int 0)) .nil))) .nil)) (.cons (.ife (.cmp .NotEq (.var 2) (.lst false .nil)) (.cons (.asg (.nm 3) (.bin .Mod (.blt .int (.cons (.idx (.var 2) (.con (.int 0))) .nil)) (.var 1))) (.cons (.asg (.ix (.var 2) (.con (.int 0))) (.bin .FloorDiv (.idx (.var 2) (.con (.int 0))) (.var 1))) (.cons (.ret (.var 3)) .nil))) .nil) (.cons (.asg (.ix (.var 0) (.con (.int 2))) (.bin .Add (.idx (.var 0) (.con (.int 2))) (.con (.int 1)))) (.cons (.asg (.ix (.var 0) (.con (.int 1))) (.bin .Mod (.blt .int (.cons (.bin .Add (.bin .Mult (.idx (.var 0) (.con (.int 1))) (.con (.int 6364136223846793005))) (.bin .Mult (.idx (.var 0) (.con (.int 2))) (.con (.int 1442695040888963407)))) .nil)) (.con (.int 2305843009213693951)))) (.cons (.ret (.bin .Mod (.bin .FloorDiv (.bin .Mod (.blt .int (.cons (.bin .Mult (.idx (.var 0) (.con (.int 1))) (.idx (.var 0) (.con (.int 1)))) .nil)) (.con (.int 2305843009213693921))) (.con (.int 1048576))) (.var 1))) .nil))))))⟩
def n_L_kinds : List Str := [Str.ofString "thing", Str.ofString "found"]
def p_L_kinds : List Str := [Str.ofString "thing"]
def u_L_kinds : List (Str × Nat) := []
def uc_L_kinds : List (Str × Nat) := []
def uk_L_kinds : List (Nat × Nat × List Str × List Nat) := []
def ux_L_kinds : List (Str × (Nat × Bool)) := []
def uf_L_kinds : List (Nat × Str) := []
def c_L_kinds : CFn := ⟨2, (.cons (.asg (.nm 1) (.lst false (.cons (.isi (.var 0) [.bool]) (.cons (.isi (.var 0) [.int]) (.cons (.isi (.var 0) [.str]) .nil))))) (.cons (.ret (.bin .Add (.var 1) (.lst false (.cons (.isi (.var 0) [.tuple]) (.cons (.isi (.var 0) [.list]) (.cons (.cmp .Is (.var 0) (.con .non)) .nil)))))) .nil))⟩
def n_L_alike : List Str := [Str.ofString "found", Str.ofString "due", Str.ofString "k"]
def p_L_alike : List Str := [Str.ofString "found", Str.ofString "due"]
def u_L_alike : List (Str × Nat) := [(Str.ofString "_law_alike", f_L_alike), (Str.ofString "_law_kinds", f_L_kinds)]
def uc_L_alike : List (Str × Nat) := []
def uk_L_alike : List (Nat × Nat × List Str × List Nat) := []
def ux_L_alike : List (Str × (Nat × Bool)) := []
def uf_L_alike : List (Nat × Str) := []
def c_L_alike : CFn := ⟨3, (.cons (.ife (.cmp .NotEq (.call f_L_kinds (.cons (.var 0) .nil)) (.call f_L_kinds (.cons (.var 1) .nil))) (.cons (.ret (.con (.bl false))) .nil) .nil) (.cons (.ife (.isi (.var 1) [.tuple, .list]) (.cons (.ret (.and (.cmp .Eq (.blt .len (.cons (.var 0) .nil)) (.blt .len (.cons (.var 1) .nil))) (.blt .all (.cons (.comp false [2] (.nm 2) (.range1 (.blt .len (.cons (.var 1) .nil))) .none (.call f_L_alike (.cons (.idx (.var 0) (.var 2)) (.cons (.idx (.var 1) (.var 2)) .nil)))) .nil)))) .nil) .nil) (.cons (.ret (.cmp .Eq (.var 0) (.var 1))) .nil)))⟩
def n_L_low : List Str := [Str.ofString "top", Str.ofString "bottom", Str.ofString "one", Str.ofString "other"]
def p_L_low : List Str := [Str.ofString "top", Str.ofString "bottom"]
def u_L_low : List (Str × Nat) := []
def uc_L_low : List (Str × Nat) := []
def uk_L_low : List (Nat × Nat × List Str × List Nat) := []
def ux_L_low : List (Str × (Nat × Bool)) := []
def uf_L_low : List (Nat × Str) := []
def c_L_low : CFn := ⟨4, (.cons (.par 2 3 (.blt .abs (.cons (.var 0) .nil)) (.blt .abs (.cons (.var 1) .nil))) (.cons (.whl (.cmp .Gt (.var 3) (.con (.int 0))) (.cons (.par 2 3 (.var 3) (.bin .Mod (.blt .int (.cons (.var 2) .nil)) (.var 3))) .nil)) (.cons (.asg (.nm 2) (.ite (.cmp .Gt (.var 1) (.con (.int 0))) (.var 2) (.neg (.var 2)))) (.cons (.ret (.tup (.cons (.bin .FloorDiv (.var 0) (.var 2)) (.cons (.bin .FloorDiv (.var 1) (.var 2)) .nil)))) .nil))))⟩
def n_L_plus : List Str := [Str.ofString "one", Str.ofString "other"]
def p_L_plus : List Str := [Str.ofString "one", Str.ofString "other"]
def u_L_plus : List (Str × Nat) := [(Str.ofString "_law_low", f_L_low)]
def uc_L_plus : List (Str × Nat) := []
def uk_L_plus : List (Nat × Nat × List Str × List Nat) := []
def ux_L_plus : List (Str × (Nat × Bool)) := []
def uf_L_plus : List (Nat × Str) := []
def c_L_plus : CFn := ⟨2, (.cons (.ret (.call f_L_low (.cons (.bin .Add (.bin .Mult (.idx (.var 0) (.con (.int 0))) (.idx (.var 1) (.con (.int 1)))) (.bin .Mult (.idx (.var 1) (.con (.int 0))) (.idx (.var 0) (.con (.int 1))))) (.cons (.bin .Mult (.idx (.var 0) (.con (.int 1))) (.idx (.var 1) (.con (.int 1)))) .nil)))) .nil)⟩
def n_L_minus : List Str := [Str.ofString "one", Str.ofString "other"]
def p_L_minus : List Str := [Str.ofString "one", Str.ofString "other"]
def u_L_minus : List (Str × Nat) := [(Str.ofString "_law_plus", f_L_plus)]
def uc_L_minus : List (Str × Nat) := []
def uk_L_minus : List (Nat × Nat × List Str × List Nat) := []
def ux_L_minus : List (Str × (Nat × Bool)) := []
def uf_L_minus : List (Nat × Str) := []
def c_L_minus : CFn := ⟨2, (.cons (.ret (.call f_L_plus (.cons (.var 0) (.cons (.tup (.cons (.neg (.idx (.var 1) (.con (.int 0)))) (.cons (.idx (.var 1) (.con (.int 1))) .nil))) .nil)))) .nil)⟩
def n_L_times : List Str := [Str.ofString "one", Str.ofString "other"]
def p_L_times : List Str := [Str.ofString "one", Str.ofString "other"]
def u_L_times : List (Str × Nat) := [(Str.ofString "_law_low", f_L_low)]
def uc_L_times : List (Str × Nat) := []
def uk_L_times : List (Nat × Nat × List Str × List Nat) := []
def ux_L_times : List (Str × (Nat × Bool)) := []
def uf_L_times : List (Nat × Str) := []
def c_L_times : CFn := ⟨2, (.cons (.ret (.call f_L_low (.cons (.bin .Mult (.idx (.var 0) (.con (.int 0))) (.idx (.var 1) (.con (.int 0)))) (.cons (.bin .Mult (.idx (.var 0) (.con (.int 1))) (.idx (.var 1) (.con (.int 1)))) .nil)))) .nil)⟩
def n_L_below : List Str := [Str.ofString "one", Str.ofString "other"]
def p_L_below : List Str := [Str.ofString "one", Str.ofString "other"]
def u_L_below : List (Str × Nat) := []
def uc_L_below : List (Str × Nat) := []
def uk_L_below : List (Nat × Nat × List Str × List Nat) := []
def ux_L_below : List (Str × (Nat × Bool)) := []
def uf_L_below : List (Nat × Str) := []
def c_L_below : CFn := ⟨2, (.cons (.ret (.cmp .Lt (.bin .Mult (.idx (.var 0) (.con (.int 0))) (.idx (.var 1) (.con (.int 1)))) (.bin .Mult (.idx (.var 1) (.con (.int 0))) (.idx (.var 0) (.con (.int 1)))))) .nil)⟩
def n_L_number : List Str := [Str.ofString "spring", Str.ofString "way"]
def p_L_number : List Str := [Str.ofString "spring"]
def u_L_number : List (Str × Nat) := [(Str.ofString "_law_low", f_L_low), (Str.ofString "_law_drop", f_L_drop)]
def uc_L_number : List (Str × Nat) := []
def uk_L_number : List (Nat × Nat × List Str × List Nat) := []
def ux_L_number : List (Str × (Nat × Bool)) := []
def uf_L_number : List (Nat × Str) := []
def c_L_number : CFn := ⟨2, (.cons (.asg (.nm 1) (.call f_L_drop (.cons (.var 0) (.cons (.con (.int 6)) .nil)))) (.cons (.ife (.cmp .Eq (.var 1) (.con (.int 0))) (.cons (.ret (.tup (.cons (.bin .Sub (.call f_L_drop (.cons (.var 0) (.cons (.con (.int 21)) .nil))) (.con (.int 10))) (.cons (.con (.int 1)) .nil)))) .nil) .nil) (.cons (.ife (.cmp .Lt (.var 1) (.con (.int 3))) (.cons (.ret (.call f_L_low (.cons (.bin .Sub (.call f_L_drop (.cons (.var 0) (.cons (.con (.int 41)) .nil))) (.con (.int 20))) (.cons (.bin .Add (.con (.int 1)) (.call f_L_drop (.cons (.var 0) (.cons (.con (.int 12)) .nil)))) .nil)))) .nil) .nil) (.cons (.ife (.cmp .Lt (.var 1) (.con (.int 5))) (.cons (.ret (.call f_L_low (.cons (.bin .Sub (.call f_L_drop (.cons (.var 0) (.cons (.con (.int 2001)) .nil))) (.con (.int 1000))) (.cons (.bin .Add (.con (.int 1)) (.call f_L_drop (.cons (.var 0) (.cons (.con (.int 60)) .nil)))) .nil)))) .nil) .nil) (.cons (.ret (.call f_L_low (.cons (.bin .Sub (.call f_L_drop (.cons (.var 0) (.cons (.bin .Pow (.con (.int 10)) (.con (.int 40))) .nil))) (.bin .Pow (.con (.int 10)) (.con (.int 39)))) (.cons (.bin .Add (.con (.int 1)) (.call f_L_drop (.cons (.var 0) (.cons (.idx (.lst false (.cons (.bin .Pow (.con (.int 10)) (.con (.int 40))) (.cons (.bin .Pow (.con (.int 10)) (.con (.int 6))) .nil))) (.call f_L_drop (.cons (.var 0) (.cons (.con (.int 2)) .nil)))) .nil)))) .nil)))) .nil)))))⟩
def n_L_read : List Str := [Str.ofString "text", Str.ofString "at", Str.ofString "state", Str.ofString "top", Str.ofString "bottom", Str.ofString "sign", Str.ofString "digit"]
def p_L_read : List Str := [Str.ofString "text"]
def u_L_read : List (Str × Nat) := [(Str.ofString "_law_low", f_L_low)]
def uc_L_read : List (Str × Nat) := []
def uk_L_read : List (Nat × Nat × List Str × List Nat) := []
def ux_L_read : List (Str × (Nat × Bool)) := []
def uf_L_read : List (Nat × Str) := []
def t_L_read_1 : CSs := (.cons (.ret (.lst false (.cons (.blt .len (.cons (.var 0) .nil)) .nil))) .nil)
def t_L_read_2 : CSs := (.cons (.ife (.and (.cmp .Eq (.var 2) (.con (.str (Str.ofString "bottom")))) (.and (.cmp .Gt (.var 4) (.con (.int 1))) (.cmp .Eq (.call f_L_low (.cons (.var 3) (.cons (.var 4) .nil))) (.tup (.cons (.var 3) (.cons (.var 4) .nil)))))) (.cons (.ret (.tup (.cons (.bin .Mult (.var 5) (.var 3)) (.cons (.var 4) .nil)))) .nil) .nil) t_L_read_1)
def t_L_read_3 : CSs := (.cons (.ife (.cmp .Eq (.var 2) (.con (.str (Str.ofString "top")))) (.cons (.ret (.tup (.cons (.bin .Mult (.var 5) (.var 3)) (.cons (.con (.int 1)) .nil)))) .nil) .nil) t_L_read_2)
def t_L_read_4 : CSs := (.cons (.ife (.cmp .Eq (.var 2) (.con (.str (Str.ofString "nought")))) (.cons (.ret (.tup (.cons (.con (.int 0)) (.cons (.con (.int 1)) .nil)))) .nil) .nil) t_L_read_3)
def t_L_read_5 : CSs := (.cons (.ife (.and (.cmp .Eq (.var 2) (.con (.str (Str.ofString "begin")))) (.cmp .Eq (.idx (.var 0) (.var 1)) (.con (.str (Str.ofString "-"))))) (.cons (.asg (.tp (.cons (.nm 2) (.cons (.nm 5) .nil))) (.tup (.cons (.con (.str (Str.ofString "minus"))) (.cons (.neg (.con (.int 1))) .nil)))) .nil) (.cons (.ife (.and (.cmp .Eq (.var 2) (.con (.str (Str.ofString "begin")))) (.cmp .Eq (.var 6) (.con (.int 0)))) (.cons (.asg (.nm 2) (.con (.str (Str.ofString "nought")))) .nil) (.cons (.ife (.and (.or (.cmp .Eq (.var 2) (.con (.str (Str.ofString "begin")))) (.cmp .Eq (.var 2) (.con (.str (Str.ofString "minus"))))) (.cmp .Gt (.var 6) (.con (.int 0)))) (.cons (.par 2 3 (.con (.str (Str.ofString "top"))) (.var 6)) .nil) (.cons (.ife (.and (.cmp .Eq (.var 2) (.con (.str (Str.ofString "top")))) (.cmp .GtE (.var 6) (.con (.int 0)))) (.cons (.asg (.nm 3) (.bin .Add (.bin .Mult (.var 3) (.con (.int 10))) (.var 6))) .nil) (.cons (.ife (.and (.cmp .Eq (.var 2) (.con (.str (Str.ofString "top")))) (.cmp .Eq (.idx (.var 0) (.var 1)) (.con (.str (Str.ofString "/"))))) (.cons (.asg (.nm 2) (.con (.str (Str.ofString "stroke")))) .nil) (.cons (.ife (.and (.cmp .Eq (.var 2) (.con (.str (Str.ofString "stroke")))) (.cmp .Gt (.var 6) (.con (.int 0)))) (.cons (.par 2 4 (.con (.str (Str.ofString "bottom"))) (.var 6)) .nil) (.cons (.ife (.and (.cmp .Eq (.var 2) (.con (.str (Str.ofString "bottom")))) (.cmp .GtE (.var 6) (.con (.int 0)))) (.cons (.asg (.nm 4) (.bin .Add (.bin .Mult (.var 4) (.con (.int 10))) (.var 6))) .nil) (.cons (.ret (.lst false (.cons (.var 1) .nil))) .nil)) .nil)) .nil)) .nil)) .nil)) .nil)) .nil)) .nil)
def t_L_read_6 : CSs := (.cons (.asg (.nm 6) (.find (.con (.str (Str.ofString "0123456789"))) (.idx (.var 0) (.var 1)))) t_L_read_5)
def t_L_read_7 : CSs := (.cons (.for_ (.nm 1) (.range1 (.blt .len (.cons (.var 0) .nil))) t_L_read_6) t_L_read_4)
def t_L_read_8 : CSs := (.cons (.asg (.tp (.cons (.nm 2) (.cons (.nm 3) (.cons (.nm 4) (.cons (.nm 5) .nil))))) (.tup (.cons (.con (.str (Str.ofString "begin"))) (.cons (.con (.int 0)) (.cons (.con (.int 0)) (.cons (.con (.int 1)) .nil)))))) t_L_read_7)
def t_L_read_9 : CSs := (.cons (.ife (.nt (.isi (.var 0) [.str])) (.cons (.ret (.lst false (.cons (.con (.int 0)) .nil))) .nil) .nil) t_L_read_8)
def c_L_read : CFn := ⟨7, t_L_read_9⟩
def n_L_told : List Str := [Str.ofString "text", Str.ofString "named", Str.ofString "found", Str.ofString "e"]
def p_L_told : List Str := [Str.ofString "text", Str.ofString "named"]
def u_L_told : List (Str × Nat) := [(Str.ofString "fraction_told", f_fraction_told)]
def uc_L_told : List (Str × Nat) := []
def uk_L_told : List (Nat × Nat × List Str × List Nat) := [(f_fraction_told, 0, [Str.ofString "text"], [0])]
def ux_L_told : List (Str × (Nat × Bool)) := [(Str.ofString "InvalidText", (f_InvalidText, false))]
def uf_L_told : List (Nat × Str) := [(f_InvalidText, Str.ofString "index")]
def c_L_told : CFn := ⟨4, (.cons (.asg (.nm 2) (.con (.str (Str.ofString "other")))) (.cons (.tryf (.cons (.asg (.nm 2) (.ite (.var 1) (.callk f_fraction_told 0 1 [0] .nil (.cons (.var 0) .nil)) (.call f_fraction_told (.cons (.var 0) .nil)))) .nil) f_InvalidText 2 3 true) (.cons (.ret (.var 2)) .nil)))⟩
def n_L_spoilt : List Str := [Str.ofString "spring", Str.ofString "text", Str.ofString "turn", Str.ofString "sign", Str.ofString "way", Str.ofString "at"]
def p_L_spoilt : List Str := [Str.ofString "spring", Str.ofString "text"]
def u_L_spoilt : List (Str × Nat) := [(Str.ofString "_law_drop", f_L_drop)]
def uc_L_spoilt : List (Str × Nat) := []
def uk_L_spoilt : List (Nat × Nat × List Str × List Nat) := []
def ux_L_spoilt : List (Str × (Nat × Bool)) := []
def uf_L_spoilt : List (Nat × Str) := []
def c_L_spoilt : CFn := ⟨6, (.cons (.for_ (.nm 2) (.range1 (.bin .Add (.con (.int 1)) (.call f_L_drop (.cons (.var 0) (.cons (.con (.int 2)) .nil))))) (.cons (.par 4 5 (.call f_L_drop (.cons (.var 0) (.cons (.con (.int 5)) .nil))) (.call f_L_drop (.cons (.var 0) (.cons (.bin .Add (.blt .len (.cons (.var 1) .nil)) (.con (.int 1))) .nil)))) (.cons (.asg (.nm 3) (.idx (.con (.str (Str.ofString "0123456789-/+ .\n0/"))) (.call f_L_drop (.cons (.var 0) (.cons (.con (.int 18)) .nil))))) (.cons (.ife (.cmp .Eq (.var 4) (.con (.int 0))) (.cons (.asg (.nm 1) (.sli (.var 1) .none (.some (.var 5)))) .nil) (.cons (.ife (.cmp .Lt (.var 4) (.con (.int 3))) (.cons (.asg (.nm 1) (.bin .Add (.bin .Add (.sli (.var 1) .none (.some (.var 5))) (.var 3)) (.sli (.var 1) (.some (.var 5)) .none))) .nil) (.cons (.ife (.cmp .Eq (.var 4) (.con (.int 3))) (.cons (.asg (.nm 1) (.bin .Add (.sli (.var 1) .none (.some (.var 5))) (.sli (.var 1) (.some (.bin .Add (.var 5) (.con (.int 1)))) .none))) .nil) (.cons (.asg (.nm 1) (.bin .Add (.bin .Add (.sli (.var 1) .none (.some (.var 5))) (.var 3)) (.sli (.var 1) (.some (.bin .Add (.var 5) (.con (.int 1)))) .none))) .nil)) .nil)) .nil)) .nil)))) (.cons (.ret (.var 1)) .nil))⟩
def n_law : List Str := [Str.ofString "script", Str.ofString "spring", Str.ofString "some", Str.ofString "turn", Str.ofString "text", Str.ofString "plain", Str.ofString "due", Str.ofString "number", Str.ofString "factor"]
def p_law : List Str := [Str.ofString "script"]
def u_law : List (Str × Nat) := [(Str.ofString "_law_alike", f_L_alike), (Str.ofString "_law_told", f_L_told), (Str.ofString "_law_read", f_L_read), (Str.ofString "_law_spoilt", f_L_spoilt), (Str.ofString "_law_number", f_L_number), (Str.ofString "_law_drop", f_L_drop), (Str.ofString "_law_spring", f_L_spring)]
def uc_law : List (Str × Nat) := []
def uk_law : List (Nat × Nat × List Str × List Nat) := []
def ux_law : List (Str × (Nat × Bool)) := []
def uf_law : List (Nat × Str) := []
def t_law_1 : CSs := (.cons (.ret (.con (.bl true))) .nil)
def t_law_2 : CSs := (.cons (.ife (.or (.nt (.call f_L_alike (.cons (.call f_L_told (.cons (.var 4) (.cons (.con (.bl false)) .nil))) (.cons (.var 6) .nil)))) (.nt (.call f_L_alike (.cons (.call f_L_told (.cons (.var 4) (.cons (.con (.bl true)) .nil))) (.cons (.var 6) .nil))))) (.cons (.ret (.con (.bl false))) .nil) .nil) .nil)
def t_law_3 : CSs := (.cons (.asg (.nm 6) (.call f_L_read (.cons (.var 4) .nil))) t_law_2)
def t_law_4 : CSs := (.cons (.for_ (.nm 4) (.ev (.var 2)) t_law_3) t_law_1)
def t_law_5 : CSs := (.cons (.asg (.nm 2) (.bin .Add (.var 2) (.lst false (.cons (.var 4) (.cons (.var 5) (.cons (.call f_L_spoilt (.cons (.var 1) (.cons (.var 4) .nil))) (.cons (.call f_L_spoilt (.cons (.var 1) (.cons (.var 5) .nil))) (.cons (.call f_L_spoilt (.cons (.var 1) (.cons (.var 5) .nil))) .nil)))))))) .nil)
def t_law_6 : CSs := (.cons (.asg (.nm 5) (.ite (.cmp .Eq (.idx (.var 7) (.con (.int 1))) (.con (.int 1))) (.blt .str (.cons (.idx (.var 7) (.con (.int 0))) .nil)) (.bin .Add (.bin .Add (.blt .str (.cons (.idx (.var 7) (.con (.int 0))) .nil)) (.con (.str (Str.ofString "/")))) (.blt .str (.cons (.idx (.var 7) (.con (.int 1))) .nil))))) t_law_5)
def t_law_7 : CSs := (.cons (.asg (.nm 4) (.bin .Add (.bin .Add (.blt .str (.cons (.bin .Mult (.idx (.var 7) (.con (.int 0))) (.var 8)) .nil)) (.con (.str (Str.ofString "/")))) (.blt .str (.cons (.bin .Mult (.idx (.var 7) (.con (.int 1))) (.var 8)) .nil)))) t_law_6)
def t_law_8 : CSs := (.cons (.par 7 8 (.call f_L_number (.cons (.var 1) .nil)) (.bin .Add (.con (.int 1)) (.call f_L_drop (.cons (.var 1) (.cons (.con (.int 4)) .nil))))) t_law_7)
def t_law_9 : CSs := (.cons (.for_ (.nm 3) (.range1 (.con (.int 10))) t_law_8) t_law_4)
def t_law_10 : CSs := (.cons (.asg (.nm 2) (.bin .Add (.var 2) (.lst false (.cons (.con (.str (Str.ofString "--1"))) (.cons (.con (.str (Str.ofString "-/2"))) (.cons (.con (.str (Str.ofString "/2"))) (.cons (.con (.str (Str.ofString "1/-2"))) (.cons (.con (.str (Str.ofString "1.5"))) (.cons (.con (.str (Str.ofString "1/2 "))) (.cons (.con (.str (Str.ofString "7/7"))) (.cons (.bin .Add (.bin .Add (.bin .Mult (.con (.str (Str.ofString "9"))) (.con (.int 60))) (.con (.str (Str.ofString "/")))) (.bin .Mult (.con (.str (Str.ofString "3"))) (.con (.int 40)))) (.cons (.con .non) (.cons (.con (.int 7)) (.cons (.con (.bl true)) (.cons (.tup (.cons (.con (.int 1)) (.cons (.con (.int 2)) .nil))) (.cons (.lst false (.cons (.con (.str (Str.ofString "1"))) .nil)) (.cons (.con (.str (Str.ofString "1/2\n"))) (.cons (.con (.str (Str.ofString "10/10"))) .nil)))))))))))))))))) t_law_9)
def t_law_11 : CSs := (.cons (.asg (.nm 2) (.lst false (.cons (.con (.str (Str.ofString ""))) (.cons (.con (.str (Str.ofString "-"))) (.cons (.con (.str (Str.ofString "0"))) (.cons (.con (.str (Str.ofString "-0"))) (.cons (.con (.str (Str.ofString "00"))) (.cons (.con (.str (Str.ofString "01"))) (.cons (.con (.str (Str.ofString "-01"))) (.cons (.con (.str (Str.ofString "0/"))) (.cons (.con (.str (Str.ofString "0/1"))) (.cons (.con (.str (Str.ofString "0/5"))) (.cons (.con (.str (Str.ofString "1/"))) (.cons (.con (.str (Str.ofString "1/0"))) (.cons (.con (.str (Str.ofString "1/1"))) (.cons (.con (.str (Str.ofString "1/01"))) (.cons (.con (.str (Str.ofString "2/4"))) (.cons (.con (.str (Str.ofString "-2/4"))) (.cons (.con (.str (Str.ofString "3/2/1"))) (.cons (.con (.str (Str.ofString "+1"))) (.cons (.con (.str (Str.ofString " 1"))) (.cons (.con (.str (Str.ofString "1 "))) (.cons (.con (.str (Str.ofString "1\n"))) .nil))))))))))))))))))))))) t_law_10)
def t_law_12 : CSs := (.cons (.asg (.nm 1) (.call f_L_spring (.cons (.var 0) .nil))) t_law_11)
def c_law : CFn := ⟨9, t_law_12⟩
end XC.Kk05
end

section
set_option Elab.async false
set_option linter.all false
set_option maxRecDepth 100000
set_option exponentiation.threshold 100000
namespace XC.Kk05
open PySem
/-- the greatest common divisor -/
def sp_gcd : Spec := fun ds S Q _ => ∃ a b : Int, ds = [.int a, .int b] ∧ 0 ≤ a ∧ 0 ≤ b ∧ Q (.int (Int.gcd a b)) S
theorem gcd_step {x y : Int} (hx : 0 ≤ x) (hy : 0 < y) : Int.gcd y (x.fmod y) = Int.gcd x y := by
  rw [Int.fmod_eq_emod_of_nonneg x (by omega), Int.gcd_comm y, Int.gcd_comm x]
  show Nat.gcd (x % y).natAbs y.natAbs = Nat.gcd y.natAbs x.natAbs
  rw [Int.natAbs_emod_of_nonneg hx]
  exact (Nat.gcd_rec y.natAbs x.natAbs).symm
theorem w_common {Γ : Ctx} : ∀ ds S Q E, sp_gcd ds S Q E → wpFn Γ c_common ds S Q E := by
  rintro _ S Q E ⟨a, b, rfl, ha, hb, hq⟩
  unfold wpFn c_common
  simp -implicitDefEqProofs only [wpSs, wpS, wpE, wpEs, wpO, wpC, wpT, wpTs, wpI, look_zero, look_succ, whenB_some, startD, List.set_cons_zero, List.set_cons_succ, at_eq, nxt_nx, nxt_rt, nxt_bk, nxt_ct, nxt_ex, loop_nx, loop_rt, loop_bk, loop_ct, loop_ex, exc_nx, exc_rt, exc_bk, exc_ct, exc_ex, List.nil_append, List.cons_append, List.length_cons, List.length_nil, Nat.reduceAdd]
  refine ⟨fun m ρ S' => ∃ x y : Int, ρ = [some (.int x), some (.int y)] ∧ S' = S ∧ 0 ≤ x ∧ 0 ≤ y ∧ Int.gcd x y = Int.gcd a b ∧ m = y.toNat, ⟨b.toNat, a, b, rfl, rfl, ha, hb, rfl, rfl⟩, ?_⟩
  rintro m _ S ⟨x, y, rfl, rfl, hx, hy, hg, rfl⟩
  simp -implicitDefEqProofs only [wpSs, wpS, wpE, wpEs, wpO, wpC, wpT, wpTs, wpI, look_zero, look_succ, whenB_some, startD, List.set_cons_zero, List.set_cons_succ, at_eq, nxt_nx, nxt_rt, nxt_bk, nxt_ct, nxt_ex, loop_nx, loop_rt, loop_bk, loop_ct, loop_ex, exc_nx, exc_rt, exc_bk, exc_ct, exc_ex, List.nil_append, List.cons_append, List.length_cons, List.length_nil, Nat.reduceAdd, v_add_int, v_add_str, v_add_tup, v_add_vls, v_sub, v_mul, v_div, v_mod, v_pow, v_aadd, v_asub, v_aadds, v_cLt, v_cLtE, v_cGt, v_cGtE, v_cEq, v_cNe, v_cEqS, v_cNeS, v_cEqB, v_cNeB, v_is, v_isnt, v_isN_non, v_isN_bl, v_isN_int, v_isN_str, v_isN_tup, v_isN_vls, v_isN_scr, v_isN_loc, v_t_non, v_t_bl, v_t_int, v_t_tup, v_t_vls, v_len_tup, v_list_tup, v_listM_tup, v_tuple_tup, v_idx_tup, v_src_tup, v_len_vls, v_list_vls, v_listM_vls, v_tuple_vls, v_idx_vls, v_src_vls, v_len_scr, v_list_scr, v_listM_scr, v_tuple_scr, v_idx_scr, v_src_scr, v_sli_tup, v_sli_vls, v_sli_scr, v_abs, v_int, v_intb, v_max, v_min, v_i_non_int, v_i_non_bool, v_i_non_str, v_i_non_tuple, v_i_non_list, v_i_non_tl, v_i_bl_int, v_i_bl_bool, v_i_bl_str, v_i_bl_tuple, v_i_bl_list, v_i_bl_tl, v_i_int_int, v_i_int_bool, v_i_int_str, v_i_int_tuple, v_i_int_list, v_i_int_tl, v_i_str_int, v_i_str_bool, v_i_str_str, v_i_str_tuple, v_i_str_list, v_i_str_tl, v_i_tup_int, v_i_tup_bool, v_i_tup_str, v_i_tup_tuple, v_i_tup_list, v_i_tup_tl, v_i_vls_int, v_i_vls_bool, v_i_vls_str, v_i_vls_tuple, v_i_vls_list, v_i_vls_tl, v_i_scr_int, v_i_scr_bool, v_i_scr_str, v_i_scr_tuple, v_i_scr_list, v_i_scr_tl, v_range1, v_range2, v_newF, v_newT, at0, at1, at2, at3, at4, at5]
  refine br_dec (fun h => ?_) fun h => ?_
  · refine ⟨fun ρ S' => ∃ x' y' : Int, ρ = [some (.int x'), some (.int y')] ∧ S' = S ∧ 0 ≤ x' ∧ 0 ≤ y' ∧ Int.gcd x' y' = Int.gcd a b ∧ y' < y, ?_, ?_⟩
    · rintro _ _ ⟨x', y', rfl, rfl, h1, h2, h3, h4⟩
      exact ⟨y'.toNat, by omega, x', y', rfl, rfl, h1, h2, h3, rfl⟩
    · refine ⟨by omega, y, x.fmod y, rfl, rfl, by omega, ?_, by rw [gcd_step hx h, hg], ?_⟩
      · exact Int.fmod_nonneg_of_pos x h
      · exact Int.fmod_lt_of_pos x h
  · have e : y = 0 := by omega
    subst e
    refine fin_ok ?_
    have : (x : Int) = (Int.gcd a b : Int) := by
      rw [← hg, Int.gcd_zero_right]; omega
    rw [this]; exact hq
/-- the fraction of two integers, within bounds -/
def sp_low (c : Nat) : Spec := fun ds S Q _ => ∃ t b : Int, ds = [.int t, .int b] ∧ b ≠ 0 ∧ b.natAbs < 2 ^ c ∧ Q (fD (low t b)) S
theorem gcd_abs (t b : Int) : Int.gcd (if t < 0 then -t else t) (if b < 0 then -b else b) = Int.gcd t b := by
  split <;> split <;> simp
theorem abs_nn (t : Int) : 0 ≤ if t < 0 then -t else t := by split <;> omega
theorem gcd_nn {x y : Int} (hx : 0 ≤ x) (hy : 0 < y) : Int.gcd y (x.fmod y) = Int.gcd x y := gcd_step hx hy
theorem w_L_low {Γ : Ctx} : ∀ ds S Q E, sp_low 9000 ds S Q E → wpFn Γ c_L_low ds S Q E := by
  rintro _ S Q E ⟨t, b, rfl, hb, hs, hq⟩
  unfold wpFn c_L_low
  simp -implicitDefEqProofs only [wpSs, wpS, wpE, wpEs, wpO, wpC, wpT, wpTs, wpI, look_zero, look_succ, whenB_some, startD, List.set_cons_zero, List.set_cons_succ, at_eq, nxt_nx, nxt_rt, nxt_bk, nxt_ct, nxt_ex, loop_nx, loop_rt, loop_bk, loop_ct, loop_ex, exc_nx, exc_rt, exc_bk, exc_ct, exc_ex, List.nil_append, List.cons_append, List.length_cons, List.length_nil, Nat.reduceAdd, v_add_int, v_add_str, v_add_tup, v_add_vls, v_sub, v_mul, v_div, v_mod, v_pow, v_aadd, v_asub, v_aadds, v_cLt, v_cLtE, v_cGt, v_cGtE, v_cEq, v_cNe, v_cEqS, v_cNeS, v_cEqB, v_cNeB, v_is, v_isnt, v_isN_non, v_isN_bl, v_isN_int, v_isN_str, v_isN_tup, v_isN_vls, v_isN_scr, v_isN_loc, v_t_non, v_t_bl, v_t_int, v_t_tup, v_t_vls, v_len_tup, v_list_tup, v_listM_tup, v_tuple_tup, v_idx_tup, v_src_tup, v_len_vls, v_list_vls, v_listM_vls, v_tuple_vls, v_idx_vls, v_src_vls, v_len_scr, v_list_scr, v_listM_scr, v_tuple_scr, v_idx_scr, v_src_scr, v_sli_tup, v_sli_vls, v_sli_scr, v_abs, v_int, v_intb, v_max, v_min, v_i_non_int, v_i_non_bool, v_i_non_str, v_i_non_tuple, v_i_non_list, v_i_non_tl, v_i_bl_int, v_i_bl_bool, v_i_bl_str, v_i_bl_tuple, v_i_bl_list, v_i_bl_tl, v_i_int_int, v_i_int_bool, v_i_int_str, v_i_int_tuple, v_i_int_list, v_i_int_tl, v_i_str_int, v_i_str_bool, v_i_str_str, v_i_str_tuple, v_i_str_list, v_i_str_tl, v_i_tup_int, v_i_tup_bool, v_i_tup_str, v_i_tup_tuple, v_i_tup_list, v_i_tup_tl, v_i_vls_int, v_i_vls_bool, v_i_vls_str, v_i_vls_tuple, v_i_vls_list, v_i_vls_tl, v_i_scr_int, v_i_scr_bool, v_i_scr_str, v_i_scr_tuple, v_i_scr_list, v_i_scr_tl, v_range1, v_range2, v_newF, v_newT, at0, at1, at2, at3, at4, at5]
  refine ⟨fun m ρ S' => ∃ x y : Int, ρ = [some (.int t), some (.int b), some (.int x), some (.int y)] ∧ S' = S ∧ 0 ≤ x ∧ 0 ≤ y ∧ Int.gcd x y = Int.gcd t b ∧ m = y.toNat, ⟨_, _, _, rfl, rfl, abs_nn t, abs_nn b, gcd_abs t b, rfl⟩, ?_⟩
  rintro m _ S ⟨x, y, rfl, rfl, hx, hy, hg, rfl⟩
  simp -implicitDefEqProofs only [wpSs, wpS, wpE, wpEs, wpO, wpC, wpT, wpTs, wpI, look_zero, look_succ, whenB_some, startD, List.set_cons_zero, List.set_cons_succ, at_eq, nxt_nx, nxt_rt, nxt_bk, nxt_ct, nxt_ex, loop_nx, loop_rt, loop_bk, loop_ct, loop_ex, exc_nx, exc_rt, exc_bk, exc_ct, exc_ex, List.nil_append, List.cons_append, List.length_cons, List.length_nil, Nat.reduceAdd, v_add_int, v_add_str, v_add_tup, v_add_vls, v_sub, v_mul, v_div, v_mod, v_pow, v_aadd, v_asub, v_aadds, v_cLt, v_cLtE, v_cGt, v_cGtE, v_cEq, v_cNe, v_cEqS, v_cNeS, v_cEqB, v_cNeB, v_is, v_isnt, v_isN_non, v_isN_bl, v_isN_int, v_isN_str, v_isN_tup, v_isN_vls, v_isN_scr, v_isN_loc, v_t_non, v_t_bl, v_t_int, v_t_tup, v_t_vls, v_len_tup, v_list_tup, v_listM_tup, v_tuple_tup, v_idx_tup, v_src_tup, v_len_vls, v_list_vls, v_listM_vls, v_tuple_vls, v_idx_vls, v_src_vls, v_len_scr, v_list_scr, v_listM_scr, v_tuple_scr, v_idx_scr, v_src_scr, v_sli_tup, v_sli_vls, v_sli_scr, v_abs, v_int, v_intb, v_max, v_min, v_i_non_int, v_i_non_bool, v_i_non_str, v_i_non_tuple, v_i_non_list, v_i_non_tl, v_i_bl_int, v_i_bl_bool, v_i_bl_str, v_i_bl_tuple, v_i_bl_list, v_i_bl_tl, v_i_int_int, v_i_int_bool, v_i_int_str, v_i_int_tuple, v_i_int_list, v_i_int_tl, v_i_str_int, v_i_str_bool, v_i_str_str, v_i_str_tuple, v_i_str_list, v_i_str_tl, v_i_tup_int, v_i_tup_bool, v_i_tup_str, v_i_tup_tuple, v_i_tup_list, v_i_tup_tl, v_i_vls_int, v_i_vls_bool, v_i_vls_str, v_i_vls_tuple, v_i_vls_list, v_i_vls_tl, v_i_scr_int, v_i_scr_bool, v_i_scr_str, v_i_scr_tuple, v_i_scr_list, v_i_scr_tl, v_range1, v_range2, v_newF, v_newT, at0, at1, at2, at3, at4, at5]
  refine br_dec (fun h => ?_) fun h => ?_
  · refine ⟨fun ρ S' => ∃ x' y' : Int, ρ = [some (.int t), some (.int b), some (.int x'), some (.int y')] ∧ S' = S ∧ 0 ≤ x' ∧ 0 ≤ y' ∧ Int.gcd x' y' = Int.gcd t b ∧ y' < y, ?_, ?_⟩
    · rintro _ _ ⟨x', y', rfl, rfl, h1, h2, h3, h4⟩
      exact ⟨y'.toNat, by omega, x', y', rfl, rfl, h1, h2, h3, rfl⟩
    · refine ⟨by omega, y, x.fmod y, rfl, rfl, by omega, ?_, by rw [gcd_step hx h, hg], ?_⟩
      · exact Int.fmod_nonneg_of_pos x h
      · exact Int.fmod_lt_of_pos x h
  · have e : y = 0 := by omega
    subst e
    have ex : (x : Int) = (Int.gcd t b : Int) := by
      rw [← hg, Int.gcd_zero_right]; omega
    have hne := lowF_ne (t := t) hb
    have hlog : (lowF t b).natAbs.log2 < 9000 := log_of (Nat.lt_of_le_of_lt (lowF_le t b hb) hs) (by decide)
    have key : ∀ x : Int, x = lowF t b → (x ≠ 0 ∧ x.natAbs.log2 < 9000) ∧ (x ≠ 0 ∧ x.natAbs.log2 < 9000) ∧ 2 ≤ sizeL ∧ ∃ S', XC.Sub S' S ∧ Q (D.tup [D.int (t.fdiv x), D.int (b.fdiv x)]) S' := fun x hx => by
      subst hx
      exact ⟨⟨hne, hlog⟩, ⟨hne, hlog⟩, by decide, fin_ok hq⟩
    refine br_dec (fun h => ?_) fun h => ?_
    · exact key _ (by rw [ex]; unfold lowF sg; rw [if_pos h]; omega)
    · exact key _ (by rw [ex]; unfold lowF sg; rw [if_neg h]; omega)
/-- where numbers are drawn from -/
def Spr (a b : Nat) (S : Store) : Prop := a ≠ b ∧ ∃ (m c : Int) (gs : List Int), S a = some (.lst [.loc b, .int m, .int c]) ∧ S b = some (.lst (gs.map D.int)) ∧ 0 ≤ m ∧ m < 2305843009213693951 ∧ gs.length ≤ 63
/-- nothing but a and b is changed -/
def Frm (a b : Nat) (S S' : Store) : Prop := ∀ x, x ≠ a → x ≠ b → S' x = S x
theorem Frm.refl (a b : Nat) (S : Store) : Frm a b S S := fun _ _ _ => rfl
theorem Frm.trans {a b : Nat} {S S1 S2 : Store} (x : Frm a b S S1) (y : Frm a b S1 S2) : Frm a b S S2 := fun c h1 h2 => (y c h1 h2).trans (x c h1 h2)
def sp_spring : Spec := fun ds S Q _ => ∃ ns : List Int, ds = [.scr (ns.map D.int)] ∧ ns.length ≤ 63 ∧ ∀ a b S', Spr a b S' → Q (.loc a) S'
theorem w_L_spring {Γ : Ctx} : ∀ ds S Q E, sp_spring ds S Q E → wpFn Γ c_L_spring ds S Q E := by
  rintro _ S Q E ⟨ns, rfl, hl, hq⟩
  unfold wpFn c_L_spring
  simp -implicitDefEqProofs only [wpSs, wpS, wpE, wpEs, wpO, wpC, wpT, wpTs, wpI, look_zero, look_succ, whenB_some, startD, List.set_cons_zero, List.set_cons_succ, at_eq, nxt_nx, nxt_rt, nxt_bk, nxt_ct, nxt_ex, loop_nx, loop_rt, loop_bk, loop_ct, loop_ex, exc_nx, exc_rt, exc_bk, exc_ct, exc_ex, List.nil_append, List.cons_append, List.length_cons, List.length_nil, Nat.reduceAdd, v_add_int, v_add_str, v_add_tup, v_add_vls, v_sub, v_mul, v_div, v_mod, v_pow, v_aadd, v_asub, v_aadds, v_cLt, v_cLtE, v_cGt, v_cGtE, v_cEq, v_cNe, v_cEqS, v_cNeS, v_cEqB, v_cNeB, v_is, v_isnt, v_isN_non, v_isN_bl, v_isN_int, v_isN_str, v_isN_tup, v_isN_vls, v_isN_scr, v_isN_loc, v_t_non, v_t_bl, v_t_int, v_t_tup, v_t_vls, v_len_tup, v_list_tup, v_listM_tup, v_tuple_tup, v_idx_tup, v_src_tup, v_len_vls, v_list_vls, v_listM_vls, v_tuple_vls, v_idx_vls, v_src_vls, v_len_scr, v_list_scr, v_listM_scr, v_tuple_scr, v_idx_scr, v_src_scr, v_sli_tup, v_sli_vls, v_sli_scr, v_abs, v_int, v_intb, v_max, v_min, v_i_non_int, v_i_non_bool, v_i_non_str, v_i_non_tuple, v_i_non_list, v_i_non_tl, v_i_bl_int, v_i_bl_bool, v_i_bl_str, v_i_bl_tuple, v_i_bl_list, v_i_bl_tl, v_i_int_int, v_i_int_bool, v_i_int_str, v_i_int_tuple, v_i_int_list, v_i_int_tl, v_i_str_int, v_i_str_bool, v_i_str_str, v_i_str_tuple, v_i_str_list, v_i_str_tl, v_i_tup_int, v_i_tup_bool, v_i_tup_str, v_i_tup_tuple, v_i_tup_list, v_i_tup_tl, v_i_vls_int, v_i_vls_bool, v_i_vls_str, v_i_vls_tuple, v_i_vls_list, v_i_vls_tl, v_i_scr_int, v_i_scr_bool, v_i_scr_str, v_i_scr_tuple, v_i_scr_list, v_i_scr_tl, v_range1, v_range2, v_newF, v_newT, at0, at1, at2, at3, at4, at5]
  intro p hp
  refine comp_ind (fun r acc S1 => ∃ l gs : List Int, r = l.map D.int ∧ acc = gs.map D.int ∧ S1 p = some (.lst acc) ∧ gs.length + l.length ≤ 63) ?_ ?_ _ _ _ ⟨ns, [], rfl, rfl, put_same, by simpa using hl⟩
  · rintro acc S1 ⟨l, gs, hr, rfl, h1, h2⟩
    refine ⟨trivial, ?_⟩
    rw [compEnd_T]
    refine ⟨.left (by decide) (by decide), ?_⟩
    -- the mixing
    refine for_ind (fun r ρ S2 => ∃ (l : List Int) (m : Int) (x : Option D), r = l.map D.int ∧ ρ = [some (.scr (ns.map D.int)), some (.loc p), some (.int m), x] ∧ 0 ≤ m ∧ m < 2305843009213693951 ∧ S2 = S1) ?_ ?_ _ _ _ ⟨ns, _, _, rfl, rfl, by omega, by rw [List.length_map]; omega, rfl⟩
    · rintro ρ S2 ⟨l, m, x, hl, rfl, hm1, hm2, rfl⟩
      refine ⟨trivial, ?_⟩
      simp -implicitDefEqProofs only [wpSs, wpS, wpE, wpEs, wpO, wpC, wpT, wpTs, wpI, look_zero, look_succ, whenB_some, startD, List.set_cons_zero, List.set_cons_succ, at_eq, nxt_nx, nxt_rt, nxt_bk, nxt_ct, nxt_ex, loop_nx, loop_rt, loop_bk, loop_ct, loop_ex, exc_nx, exc_rt, exc_bk, exc_ct, exc_ex, List.nil_append, List.cons_append, List.length_cons, List.length_nil, Nat.reduceAdd, v_add_int, v_add_str, v_add_tup, v_add_vls, v_sub, v_mul, v_div, v_mod, v_pow, v_aadd, v_asub, v_aadds, v_cLt, v_cLtE, v_cGt, v_cGtE, v_cEq, v_cNe, v_cEqS, v_cNeS, v_cEqB, v_cNeB, v_is, v_isnt, v_isN_non, v_isN_bl, v_isN_int, v_isN_str, v_isN_tup, v_isN_vls, v_isN_scr, v_isN_loc, v_t_non, v_t_bl, v_t_int, v_t_tup, v_t_vls, v_len_tup, v_list_tup, v_listM_tup, v_tuple_tup, v_idx_tup, v_src_tup, v_len_vls, v_list_vls, v_listM_vls, v_tuple_vls, v_idx_vls, v_src_vls, v_len_scr, v_list_scr, v_listM_scr, v_tuple_scr, v_idx_scr, v_src_scr, v_sli_tup, v_sli_vls, v_sli_scr, v_abs, v_int, v_intb, v_max, v_min, v_i_non_int, v_i_non_bool, v_i_non_str, v_i_non_tuple, v_i_non_list, v_i_non_tl, v_i_bl_int, v_i_bl_bool, v_i_bl_str, v_i_bl_tuple, v_i_bl_list, v_i_bl_tl, v_i_int_int, v_i_int_bool, v_i_int_str, v_i_int_tuple, v_i_int_list, v_i_int_tl, v_i_str_int, v_i_str_bool, v_i_str_str, v_i_str_tuple, v_i_str_list, v_i_str_tl, v_i_tup_int, v_i_tup_bool, v_i_tup_str, v_i_tup_tuple, v_i_tup_list, v_i_tup_tl, v_i_vls_int, v_i_vls_bool, v_i_vls_str, v_i_vls_tuple, v_i_vls_list, v_i_vls_tl, v_i_scr_int, v_i_scr_bool, v_i_scr_str, v_i_scr_tuple, v_i_scr_list, v_i_scr_tl, v_range1, v_range2, v_newF, v_newT, at0, at1, at2, at3, at4, at5]
      refine ⟨by decide, fun a ha => ?_⟩
      have hne : p ≠ a := fun e => by subst e; rw [h1] at ha; cases ha
      have hs : Spr a p (put S2 a (.lst [.loc p, .int m, .int 0])) := ⟨hne.symm, m, 0, gs, put_same, by rw [put_ne hne]; exact h1, hm1, hm2, by omega⟩
      exact fin_ok (hq a p _ hs)
    · rintro x r ρ S2 ⟨l, m, y, hl, rfl, hm1, hm2, rfl⟩ ih
      cases l with
      | nil => simp at hl
      | cons n l =>
        rw [List.map_cons] at hl
        cases hl
        refine ⟨trivial, ?_⟩
        simp -implicitDefEqProofs only [wpSs, wpS, wpE, wpEs, wpO, wpC, wpT, wpTs, wpI, look_zero, look_succ, whenB_some, startD, List.set_cons_zero, List.set_cons_succ, at_eq, nxt_nx, nxt_rt, nxt_bk, nxt_ct, nxt_ex, loop_nx, loop_rt, loop_bk, loop_ct, loop_ex, exc_nx, exc_rt, exc_bk, exc_ct, exc_ex, List.nil_append, List.cons_append, List.length_cons, List.length_nil, Nat.reduceAdd, v_add_int, v_add_str, v_add_tup, v_add_vls, v_sub, v_mul, v_div, v_mod, v_pow, v_aadd, v_asub, v_aadds, v_cLt, v_cLtE, v_cGt, v_cGtE, v_cEq, v_cNe, v_cEqS, v_cNeS, v_cEqB, v_cNeB, v_is, v_isnt, v_isN_non, v_isN_bl, v_isN_int, v_isN_str, v_isN_tup, v_isN_vls, v_isN_scr, v_isN_loc, v_t_non, v_t_bl, v_t_int, v_t_tup, v_t_vls, v_len_tup, v_list_tup, v_listM_tup, v_tuple_tup, v_idx_tup, v_src_tup, v_len_vls, v_list_vls, v_listM_vls, v_tuple_vls, v_idx_vls, v_src_vls, v_len_scr, v_list_scr, v_listM_scr, v_tuple_scr, v_idx_scr, v_src_scr, v_sli_tup, v_sli_vls, v_sli_scr, v_abs, v_int, v_intb, v_max, v_min, v_i_non_int, v_i_non_bool, v_i_non_str, v_i_non_tuple, v_i_non_list, v_i_non_tl, v_i_bl_int, v_i_bl_bool, v_i_bl_str, v_i_bl_tuple, v_i_bl_list, v_i_bl_tl, v_i_int_int, v_i_int_bool, v_i_int_str, v_i_int_tuple, v_i_int_list, v_i_int_tl, v_i_str_int, v_i_str_bool, v_i_str_str, v_i_str_tuple, v_i_str_list, v_i_str_tl, v_i_tup_int, v_i_tup_bool, v_i_tup_str, v_i_tup_tuple, v_i_tup_list, v_i_tup_tl, v_i_vls_int, v_i_vls_bool, v_i_vls_str, v_i_vls_tuple, v_i_vls_list, v_i_vls_tl, v_i_scr_int, v_i_scr_bool, v_i_scr_str, v_i_scr_tuple, v_i_scr_list, v_i_scr_tl, v_range1, v_range2, v_newF, v_newT, at0, at1, at2, at3, at4, at5]
        refine ⟨.right (by decide) (by decide), .right (by decide) (by decide), by decide, ih _ _ ⟨l, _, _, rfl, rfl, Int.fmod_nonneg_of_pos _ (by decide), Int.fmod_lt_of_pos _ (by decide), rfl⟩⟩
  · rintro x r acc S1 ⟨l, gs, hr, rfl, h1, h2⟩ ih
    cases l with
    | nil => simp at hr
    | cons n l =>
      rw [List.map_cons] at hr
      cases hr
      rw [List.length_cons] at h2
      refine ⟨trivial, ?_⟩
      simp -implicitDefEqProofs only [wpSs, wpS, wpE, wpEs, wpO, wpC, wpT, wpTs, wpI, look_zero, look_succ, whenB_some, startD, List.set_cons_zero, List.set_cons_succ, at_eq, nxt_nx, nxt_rt, nxt_bk, nxt_ct, nxt_ex, loop_nx, loop_rt, loop_bk, loop_ct, loop_ex, exc_nx, exc_rt, exc_bk, exc_ct, exc_ex, List.nil_append, List.cons_append, List.length_cons, List.length_nil, Nat.reduceAdd, v_add_int, v_add_str, v_add_tup, v_add_vls, v_sub, v_mul, v_div, v_mod, v_pow, v_aadd, v_asub, v_aadds, v_cLt, v_cLtE, v_cGt, v_cGtE, v_cEq, v_cNe, v_cEqS, v_cNeS, v_cEqB, v_cNeB, v_is, v_isnt, v_isN_non, v_isN_bl, v_isN_int, v_isN_str, v_isN_tup, v_isN_vls, v_isN_scr, v_isN_loc, v_t_non, v_t_bl, v_t_int, v_t_tup, v_t_vls, v_len_tup, v_list_tup, v_listM_tup, v_tuple_tup, v_idx_tup, v_src_tup, v_len_vls, v_list_vls, v_listM_vls, v_tuple_vls, v_idx_vls, v_src_vls, v_len_scr, v_list_scr, v_listM_scr, v_tuple_scr, v_idx_scr, v_src_scr, v_sli_tup, v_sli_vls, v_sli_scr, v_abs, v_int, v_intb, v_max, v_min, v_i_non_int, v_i_non_bool, v_i_non_str, v_i_non_tuple, v_i_non_list, v_i_non_tl, v_i_bl_int, v_i_bl_bool, v_i_bl_str, v_i_bl_tuple, v_i_bl_list, v_i_bl_tl, v_i_int_int, v_i_int_bool, v_i_int_str, v_i_int_tuple, v_i_int_list, v_i_int_tl, v_i_str_int, v_i_str_bool, v_i_str_str, v_i_str_tuple, v_i_str_list, v_i_str_tl, v_i_tup_int, v_i_tup_bool, v_i_tup_str, v_i_tup_tuple, v_i_tup_list, v_i_tup_tl, v_i_vls_int, v_i_vls_bool, v_i_vls_str, v_i_vls_tuple, v_i_vls_list, v_i_vls_tl, v_i_scr_int, v_i_scr_bool, v_i_scr_str, v_i_scr_tuple, v_i_scr_list, v_i_scr_tl, v_range1, v_range2, v_newF, v_newT, at0, at1, at2, at3, at4, at5, wipe, List.foldl_cons, List.foldl_nil]
      refine ⟨by decide, ?_⟩
      by_cases hn : (10 : Int) ^ Int.toNat 18 ≤ n
      · rw [if_pos (decide_eq_true hn)]
        refine ⟨by decide, h1, by unfold sizeL; rw [List.length_map]; omega, ih _ _ ⟨l, gs ++ [n - 10 ^ Int.toNat 18], rfl, by rw [List.map_append]; rfl, put_same, by rw [List.length_append, List.length_singleton]; omega⟩⟩
      · rw [if_neg (by rw [decide_eq_false hn]; exact Bool.false_ne_true)]
        exact ⟨h1, ih _ _ ⟨l, gs, rfl, rfl, h1, by omega⟩⟩
theorem oks_ints : ∀ (n : Nat) (gs : List Int), oks n (gs.map D.int) = true
  | _, [] => by unfold oks; rfl
  | n, g :: gs => by
    rw [List.map_cons]; unfold oks
    rw [oks_ints n gs]; unfold D.ok; rfl
theorem v_ne_nil {S : Store} {b : Nat} {gs : List Int} (h : S b = some (.lst (gs.map D.int))) : cmpD S .NotEq (.loc b) (.vls []) = some (!gs.isEmpty) := by
  rw [v_ne_ok rfl (by rw [fz_loc h]; unfold D.ok; exact oks_ints _ _) (by unfold fz D.ok; rfl), fz_loc h]
  cases gs <;> rfl
/-- the state of a drawing -/
structure Spg (a b : Nat) (S : Store) (m c : Int) (gs : List Int) : Prop where
  ne : a ≠ b
  ha : S a = some (.lst [.loc b, .int m, .int c])
  hb : S b = some (.lst (gs.map D.int))
  h0 : 0 ≤ m
  h1 : m < 2305843009213693951
  hl : gs.length ≤ 63
theorem Spg.spr {a b : Nat} {S : Store} {m c : Int} {gs : List Int} (h : Spg a b S m c gs) : Spr a b S := ⟨h.ne, m, c, gs, h.ha, h.hb, h.h0, h.h1, h.hl⟩
theorem Spr.spg {a b : Nat} {S : Store} (h : Spr a b S) : ∃ m c gs, Spg a b S m c gs := by
  obtain ⟨h, m, c, gs, h1, h2, h3, h4, h5⟩ := h
  exact ⟨m, c, gs, h, h1, h2, h3, h4, h5⟩
theorem Spg.putb {a b : Nat} {S : Store} {m c : Int} {gs gs' : List Int} (h : Spg a b S m c gs) (hl : gs'.length ≤ 63) : Spg a b (put S b (.lst (gs'.map D.int))) m c gs' :=
  ⟨h.ne, by rw [put_ne h.ne]; exact h.ha, put_same, h.h0, h.h1, hl⟩
theorem Spg.puta {a b : Nat} {S : Store} {m c m' c' : Int} {gs : List Int} (h : Spg a b S m c gs) (h0 : 0 ≤ m') (h1 : m' < 2305843009213693951) : Spg a b (put S a (.lst [.loc b, .int m', .int c'])) m' c' gs :=
  ⟨h.ne, put_same, by rw [put_ne h.ne.symm]; exact h.hb, h0, h1, h.hl⟩
theorem Frm.puta {a b : Nat} {S S' : Store} {o : O} (h : Frm a b S S') : Frm a b S (put S' a o) := fun x h1 h2 => by rw [put_ne h1]; exact h x h1 h2
theorem Frm.putb {a b : Nat} {S S' : Store} {o : O} (h : Frm a b S S') : Frm a b S (put S' b o) := fun x h1 h2 => by rw [put_ne h2]; exact h x h1 h2
def sp_drop : Spec := fun ds S Q _ => ∃ (a b : Nat) (n : Int), ds = [.loc a, .int n] ∧ 0 < n ∧ n.natAbs < 2 ^ 8000 ∧ Spr a b S ∧ ∀ d S', 0 ≤ d → d < n → Spr a b S' → Frm a b S S' → Q (.int d) S'
theorem ix0 {n : Nat} (h : 0 < n) : ixN n 0 = some 0 := ixk (k := 0) h
theorem w_L_drop {Γ : Ctx} : ∀ ds S Q E, sp_drop ds S Q E → wpFn Γ c_L_drop ds S Q E := by
  rintro _ S Q E ⟨a, b, n, rfl, hn, hs, hsp, hq⟩
  unfold wpFn c_L_drop
  obtain ⟨m, c, gs, hg⟩ := hsp.spg
  have hlog : n.natAbs.log2 < 9000 := Nat.lt_trans (log_of hs (by decide)) (by decide)
  simp -implicitDefEqProofs only [wpSs, wpS, wpE, wpEs, wpO, wpC, wpT, wpTs, wpI, look_zero, look_succ, whenB_some, startD, List.set_cons_zero, List.set_cons_succ, at_eq, nxt_nx, nxt_rt, nxt_bk, nxt_ct, nxt_ex, loop_nx, loop_rt, loop_bk, loop_ct, loop_ex, exc_nx, exc_rt, exc_bk, exc_ct, exc_ex, List.nil_append, List.cons_append, List.length_cons, List.length_nil, Nat.reduceAdd, v_add_int, v_add_str, v_add_tup, v_add_vls, v_sub, v_mul, v_div, v_mod, v_pow, v_aadd, v_asub, v_aadds, v_cLt, v_cLtE, v_cGt, v_cGtE, v_cEq, v_cNe, v_cEqS, v_cNeS, v_cEqB, v_cNeB, v_is, v_isnt, v_isN_non, v_isN_bl, v_isN_int, v_isN_str, v_isN_tup, v_isN_vls, v_isN_scr, v_isN_loc, v_t_non, v_t_bl, v_t_int, v_t_tup, v_t_vls, v_len_tup, v_list_tup, v_listM_tup, v_tuple_tup, v_idx_tup, v_src_tup, v_len_vls, v_list_vls, v_listM_vls, v_tuple_vls, v_idx_vls, v_src_vls, v_len_scr, v_list_scr, v_listM_scr, v_tuple_scr, v_idx_scr, v_src_scr, v_sli_tup, v_sli_vls, v_sli_scr, v_abs, v_int, v_intb, v_max, v_min, v_i_non_int, v_i_non_bool, v_i_non_str, v_i_non_tuple, v_i_non_list, v_i_non_tl, v_i_bl_int, v_i_bl_bool, v_i_bl_str, v_i_bl_tuple, v_i_bl_list, v_i_bl_tl, v_i_int_int, v_i_int_bool, v_i_int_str, v_i_int_tuple, v_i_int_list, v_i_int_tl, v_i_str_int, v_i_str_bool, v_i_str_str, v_i_str_tuple, v_i_str_list, v_i_str_tl, v_i_tup_int, v_i_tup_bool, v_i_tup_str, v_i_tup_tuple, v_i_tup_list, v_i_tup_tl, v_i_vls_int, v_i_vls_bool, v_i_vls_str, v_i_vls_tuple, v_i_vls_list, v_i_vls_tl, v_i_scr_int, v_i_scr_bool, v_i_scr_str, v_i_scr_tuple, v_i_scr_list, v_i_scr_tl, v_range1, v_range2, v_newF, v_newT, at0, at1, at2, at3, at4, at5, v_idx_loc hg.ha]
  refine ⟨fun k ρ S' => ∃ gs', ρ = [some (.loc a), some (.int n), some (.loc b), none] ∧ Spg a b S' m c gs' ∧ Frm a b S S' ∧ k = gs'.length, ⟨_, gs, rfl, hg, Frm.refl a b S, rfl⟩, ?_⟩
  rintro k _ S1 ⟨gs, rfl, hg, hf, rfl⟩
  simp -implicitDefEqProofs only [wpSs, wpS, wpE, wpEs, wpO, wpC, wpT, wpTs, wpI, look_zero, look_succ, whenB_some, startD, List.set_cons_zero, List.set_cons_succ, at_eq, nxt_nx, nxt_rt, nxt_bk, nxt_ct, nxt_ex, loop_nx, loop_rt, loop_bk, loop_ct, loop_ex, exc_nx, exc_rt, exc_bk, exc_ct, exc_ex, List.nil_append, List.cons_append, List.length_cons, List.length_nil, Nat.reduceAdd, v_add_int, v_add_str, v_add_tup, v_add_vls, v_sub, v_mul, v_div, v_mod, v_pow, v_aadd, v_asub, v_aadds, v_cLt, v_cLtE, v_cGt, v_cGtE, v_cEq, v_cNe, v_cEqS, v_cNeS, v_cEqB, v_cNeB, v_is, v_isnt, v_isN_non, v_isN_bl, v_isN_int, v_isN_str, v_isN_tup, v_isN_vls, v_isN_scr, v_isN_loc, v_t_non, v_t_bl, v_t_int, v_t_tup, v_t_vls, v_len_tup, v_list_tup, v_listM_tup, v_tuple_tup, v_idx_tup, v_src_tup, v_len_vls, v_list_vls, v_listM_vls, v_tuple_vls, v_idx_vls, v_src_vls, v_len_scr, v_list_scr, v_listM_scr, v_tuple_scr, v_idx_scr, v_src_scr, v_sli_tup, v_sli_vls, v_sli_scr, v_abs, v_int, v_intb, v_max, v_min, v_i_non_int, v_i_non_bool, v_i_non_str, v_i_non_tuple, v_i_non_list, v_i_non_tl, v_i_bl_int, v_i_bl_bool, v_i_bl_str, v_i_bl_tuple, v_i_bl_list, v_i_bl_tl, v_i_int_int, v_i_int_bool, v_i_int_str, v_i_int_tuple, v_i_int_list, v_i_int_tl, v_i_str_int, v_i_str_bool, v_i_str_str, v_i_str_tuple, v_i_str_list, v_i_str_tl, v_i_tup_int, v_i_tup_bool, v_i_tup_str, v_i_tup_tuple, v_i_tup_list, v_i_tup_tl, v_i_vls_int, v_i_vls_bool, v_i_vls_str, v_i_vls_tuple, v_i_vls_list, v_i_vls_tl, v_i_scr_int, v_i_scr_bool, v_i_scr_str, v_i_scr_tuple, v_i_scr_list, v_i_scr_tl, v_range1, v_range2, v_newF, v_newT, at0, at1, at2, at3, at4, at5, v_ne_nil hg.hb, Nat.zero_le, true_and]
  cases gs with
  | nil =>
    refine br_false (br_false (br_false ?_))
    simp -implicitDefEqProofs only [wpSs, wpS, wpE, wpEs, wpO, wpC, wpT, wpTs, wpI, look_zero, look_succ, whenB_some, startD, List.set_cons_zero, List.set_cons_succ, at_eq, nxt_nx, nxt_rt, nxt_bk, nxt_ct, nxt_ex, loop_nx, loop_rt, loop_bk, loop_ct, loop_ex, exc_nx, exc_rt, exc_bk, exc_ct, exc_ex, List.nil_append, List.cons_append, List.length_cons, List.length_nil, Nat.reduceAdd, v_add_int, v_add_str, v_add_tup, v_add_vls, v_sub, v_mul, v_div, v_mod, v_pow, v_aadd, v_asub, v_aadds, v_cLt, v_cLtE, v_cGt, v_cGtE, v_cEq, v_cNe, v_cEqS, v_cNeS, v_cEqB, v_cNeB, v_is, v_isnt, v_isN_non, v_isN_bl, v_isN_int, v_isN_str, v_isN_tup, v_isN_vls, v_isN_scr, v_isN_loc, v_t_non, v_t_bl, v_t_int, v_t_tup, v_t_vls, v_len_tup, v_list_tup, v_listM_tup, v_tuple_tup, v_idx_tup, v_src_tup, v_len_vls, v_list_vls, v_listM_vls, v_tuple_vls, v_idx_vls, v_src_vls, v_len_scr, v_list_scr, v_listM_scr, v_tuple_scr, v_idx_scr, v_src_scr, v_sli_tup, v_sli_vls, v_sli_scr, v_abs, v_int, v_intb, v_max, v_min, v_i_non_int, v_i_non_bool, v_i_non_str, v_i_non_tuple, v_i_non_list, v_i_non_tl, v_i_bl_int, v_i_bl_bool, v_i_bl_str, v_i_bl_tuple, v_i_bl_list, v_i_bl_tl, v_i_int_int, v_i_int_bool, v_i_int_str, v_i_int_tuple, v_i_int_list, v_i_int_tl, v_i_str_int, v_i_str_bool, v_i_str_str, v_i_str_tuple, v_i_str_list, v_i_str_tl, v_i_tup_int, v_i_tup_bool, v_i_tup_str, v_i_tup_tuple, v_i_tup_list, v_i_tup_tl, v_i_vls_int, v_i_vls_bool, v_i_vls_str, v_i_vls_tuple, v_i_vls_list, v_i_vls_tl, v_i_scr_int, v_i_scr_bool, v_i_scr_str, v_i_scr_tuple, v_i_scr_list, v_i_scr_tl, v_range1, v_range2, v_newF, v_newT, at0, at1, at2, at3, at4, at5, v_idx_loc hg.ha]
    rw [v_setIx hg.ha (k := 2) rfl]
    have h1 := hg.puta (m' := m) (c' := c + 1) hg.h0 hg.h1
    show _
    simp -implicitDefEqProofs only [wpSs, wpS, wpE, wpEs, wpO, wpC, wpT, wpTs, wpI, look_zero, look_succ, whenB_some, startD, List.set_cons_zero, List.set_cons_succ, at_eq, nxt_nx, nxt_rt, nxt_bk, nxt_ct, nxt_ex, loop_nx, loop_rt, loop_bk, loop_ct, loop_ex, exc_nx, exc_rt, exc_bk, exc_ct, exc_ex, List.nil_append, List.cons_append, List.length_cons, List.length_nil, Nat.reduceAdd, v_add_int, v_add_str, v_add_tup, v_add_vls, v_sub, v_mul, v_div, v_mod, v_pow, v_aadd, v_asub, v_aadds, v_cLt, v_cLtE, v_cGt, v_cGtE, v_cEq, v_cNe, v_cEqS, v_cNeS, v_cEqB, v_cNeB, v_is, v_isnt, v_isN_non, v_isN_bl, v_isN_int, v_isN_str, v_isN_tup, v_isN_vls, v_isN_scr, v_isN_loc, v_t_non, v_t_bl, v_t_int, v_t_tup, v_t_vls, v_len_tup, v_list_tup, v_listM_tup, v_tuple_tup, v_idx_tup, v_src_tup, v_len_vls, v_list_vls, v_listM_vls, v_tuple_vls, v_idx_vls, v_src_vls, v_len_scr, v_list_scr, v_listM_scr, v_tuple_scr, v_idx_scr, v_src_scr, v_sli_tup, v_sli_vls, v_sli_scr, v_abs, v_int, v_intb, v_max, v_min, v_i_non_int, v_i_non_bool, v_i_non_str, v_i_non_tuple, v_i_non_list, v_i_non_tl, v_i_bl_int, v_i_bl_bool, v_i_bl_str, v_i_bl_tuple, v_i_bl_list, v_i_bl_tl, v_i_int_int, v_i_int_bool, v_i_int_str, v_i_int_tuple, v_i_int_list, v_i_int_tl, v_i_str_int, v_i_str_bool, v_i_str_str, v_i_str_tuple, v_i_str_list, v_i_str_tl, v_i_tup_int, v_i_tup_bool, v_i_tup_str, v_i_tup_tuple, v_i_tup_list, v_i_tup_tl, v_i_vls_int, v_i_vls_bool, v_i_vls_str, v_i_vls_tuple, v_i_vls_list, v_i_vls_tl, v_i_scr_int, v_i_scr_bool, v_i_scr_str, v_i_scr_tuple, v_i_scr_list, v_i_scr_tl, v_range1, v_range2, v_newF, v_newT, at0, at1, at2, at3, at4, at5, List.set_cons_succ, List.set_cons_zero, v_idx_loc h1.ha]
    refine ⟨.right (by decide) (by decide), .right (by decide) (by decide), by decide, ?_⟩
    rw [v_setIx h1.ha (k := 1) rfl]
    generalize e : Int.fmod _ 2305843009213693951 = m'
    have hm1 : 0 ≤ m' := by rw [← e]; exact Int.fmod_nonneg_of_pos _ (by decide)
    have hm2 : m' < 2305843009213693951 := by rw [← e]; exact Int.fmod_lt_of_pos _ (by decide)
    have h2 := h1.puta (m' := m') (c' := c + 1) hm1 hm2
    simp -implicitDefEqProofs only [wpSs, wpS, wpE, wpEs, wpO, wpC, wpT, wpTs, wpI, look_zero, look_succ, whenB_some, startD, List.set_cons_zero, List.set_cons_succ, at_eq, nxt_nx, nxt_rt, nxt_bk, nxt_ct, nxt_ex, loop_nx, loop_rt, loop_bk, loop_ct, loop_ex, exc_nx, exc_rt, exc_bk, exc_ct, exc_ex, List.nil_append, List.cons_append, List.length_cons, List.length_nil, Nat.reduceAdd, v_add_int, v_add_str, v_add_tup, v_add_vls, v_sub, v_mul, v_div, v_mod, v_pow, v_aadd, v_asub, v_aadds, v_cLt, v_cLtE, v_cGt, v_cGtE, v_cEq, v_cNe, v_cEqS, v_cNeS, v_cEqB, v_cNeB, v_is, v_isnt, v_isN_non, v_isN_bl, v_isN_int, v_isN_str, v_isN_tup, v_isN_vls, v_isN_scr, v_isN_loc, v_t_non, v_t_bl, v_t_int, v_t_tup, v_t_vls, v_len_tup, v_list_tup, v_listM_tup, v_tuple_tup, v_idx_tup, v_src_tup, v_len_vls, v_list_vls, v_listM_vls, v_tuple_vls, v_idx_vls, v_src_vls, v_len_scr, v_list_scr, v_listM_scr, v_tuple_scr, v_idx_scr, v_src_scr, v_sli_tup, v_sli_vls, v_sli_scr, v_abs, v_int, v_intb, v_max, v_min, v_i_non_int, v_i_non_bool, v_i_non_str, v_i_non_tuple, v_i_non_list, v_i_non_tl, v_i_bl_int, v_i_bl_bool, v_i_bl_str, v_i_bl_tuple, v_i_bl_list, v_i_bl_tl, v_i_int_int, v_i_int_bool, v_i_int_str, v_i_int_tuple, v_i_int_list, v_i_int_tl, v_i_str_int, v_i_str_bool, v_i_str_str, v_i_str_tuple, v_i_str_list, v_i_str_tl, v_i_tup_int, v_i_tup_bool, v_i_tup_str, v_i_tup_tuple, v_i_tup_list, v_i_tup_tl, v_i_vls_int, v_i_vls_bool, v_i_vls_str, v_i_vls_tuple, v_i_vls_list, v_i_vls_tl, v_i_scr_int, v_i_scr_bool, v_i_scr_str, v_i_scr_tuple, v_i_scr_list, v_i_scr_tl, v_range1, v_range2, v_newF, v_newT, at0, at1, at2, at3, at4, at5, List.set_cons_succ, List.set_cons_zero, v_idx_loc h2.ha]
    refine ⟨.right (by omega) (by omega), by decide, ⟨by decide, ?_⟩, by omega, fin_ok (hq _ _ (Int.fmod_nonneg_of_pos _ hn) (Int.fmod_lt_of_pos _ hn) h2.spr hf.puta.puta)⟩
    exact Nat.lt_trans (log_of (c := 30) (by decide) (by decide)) (by decide)
  | cons g gs =>
    refine br_true ?_
    simp -implicitDefEqProofs only [wpSs, wpS, wpE, wpEs, wpO, wpC, wpT, wpTs, wpI, look_zero, look_succ, whenB_some, startD, List.set_cons_zero, List.set_cons_succ, at_eq, nxt_nx, nxt_rt, nxt_bk, nxt_ct, nxt_ex, loop_nx, loop_rt, loop_bk, loop_ct, loop_ex, exc_nx, exc_rt, exc_bk, exc_ct, exc_ex, List.nil_append, List.cons_append, List.length_cons, List.length_nil, Nat.reduceAdd, v_add_int, v_add_str, v_add_tup, v_add_vls, v_sub, v_mul, v_div, v_mod, v_pow, v_aadd, v_asub, v_aadds, v_cLt, v_cLtE, v_cGt, v_cGtE, v_cEq, v_cNe, v_cEqS, v_cNeS, v_cEqB, v_cNeB, v_is, v_isnt, v_isN_non, v_isN_bl, v_isN_int, v_isN_str, v_isN_tup, v_isN_vls, v_isN_scr, v_isN_loc, v_t_non, v_t_bl, v_t_int, v_t_tup, v_t_vls, v_len_tup, v_list_tup, v_listM_tup, v_tuple_tup, v_idx_tup, v_src_tup, v_len_vls, v_list_vls, v_listM_vls, v_tuple_vls, v_idx_vls, v_src_vls, v_len_scr, v_list_scr, v_listM_scr, v_tuple_scr, v_idx_scr, v_src_scr, v_sli_tup, v_sli_vls, v_sli_scr, v_abs, v_int, v_intb, v_max, v_min, v_i_non_int, v_i_non_bool, v_i_non_str, v_i_non_tuple, v_i_non_list, v_i_non_tl, v_i_bl_int, v_i_bl_bool, v_i_bl_str, v_i_bl_tuple, v_i_bl_list, v_i_bl_tl, v_i_int_int, v_i_int_bool, v_i_int_str, v_i_int_tuple, v_i_int_list, v_i_int_tl, v_i_str_int, v_i_str_bool, v_i_str_str, v_i_str_tuple, v_i_str_list, v_i_str_tl, v_i_tup_int, v_i_tup_bool, v_i_tup_str, v_i_tup_tuple, v_i_tup_list, v_i_tup_tl, v_i_vls_int, v_i_vls_bool, v_i_vls_str, v_i_vls_tuple, v_i_vls_list, v_i_vls_tl, v_i_scr_int, v_i_scr_bool, v_i_scr_str, v_i_scr_tuple, v_i_scr_list, v_i_scr_tl, v_range1, v_range2, v_newF, v_newT, at0, at1, at2, at3, at4, at5, v_idx_loc hg.hb, List.map_cons]
    refine br_dec (fun hz => ?_) fun hz => ?_
    · refine ⟨fun ρ S' => ∃ gs', ρ = [some (.loc a), some (.int n), some (.loc b), none] ∧ Spg a b S' m c gs' ∧ Frm a b S S' ∧ gs'.length < (g :: gs).length, ?_, ?_⟩
      · rintro _ S' ⟨gs', rfl, h1, h2, h3⟩
        exact ⟨_, h3, gs', rfl, h1, h2, rfl⟩
      · simp -implicitDefEqProofs only [wpSs, wpS, wpE, wpEs, wpO, wpC, wpT, wpTs, wpI, look_zero, look_succ, whenB_some, startD, List.set_cons_zero, List.set_cons_succ, at_eq, nxt_nx, nxt_rt, nxt_bk, nxt_ct, nxt_ex, loop_nx, loop_rt, loop_bk, loop_ct, loop_ex, exc_nx, exc_rt, exc_bk, exc_ct, exc_ex, List.nil_append, List.cons_append, List.length_cons, List.length_nil, Nat.reduceAdd, v_add_int, v_add_str, v_add_tup, v_add_vls, v_sub, v_mul, v_div, v_mod, v_pow, v_aadd, v_asub, v_aadds, v_cLt, v_cLtE, v_cGt, v_cGtE, v_cEq, v_cNe, v_cEqS, v_cNeS, v_cEqB, v_cNeB, v_is, v_isnt, v_isN_non, v_isN_bl, v_isN_int, v_isN_str, v_isN_tup, v_isN_vls, v_isN_scr, v_isN_loc, v_t_non, v_t_bl, v_t_int, v_t_tup, v_t_vls, v_len_tup, v_list_tup, v_listM_tup, v_tuple_tup, v_idx_tup, v_src_tup, v_len_vls, v_list_vls, v_listM_vls, v_tuple_vls, v_idx_vls, v_src_vls, v_len_scr, v_list_scr, v_listM_scr, v_tuple_scr, v_idx_scr, v_src_scr, v_sli_tup, v_sli_vls, v_sli_scr, v_abs, v_int, v_intb, v_max, v_min, v_i_non_int, v_i_non_bool, v_i_non_str, v_i_non_tuple, v_i_non_list, v_i_non_tl, v_i_bl_int, v_i_bl_bool, v_i_bl_str, v_i_bl_tuple, v_i_bl_list, v_i_bl_tl, v_i_int_int, v_i_int_bool, v_i_int_str, v_i_int_tuple, v_i_int_list, v_i_int_tl, v_i_str_int, v_i_str_bool, v_i_str_str, v_i_str_tuple, v_i_str_list, v_i_str_tl, v_i_tup_int, v_i_tup_bool, v_i_tup_str, v_i_tup_tuple, v_i_tup_list, v_i_tup_tl, v_i_vls_int, v_i_vls_bool, v_i_vls_str, v_i_vls_tuple, v_i_vls_list, v_i_vls_tl, v_i_scr_int, v_i_scr_bool, v_i_scr_str, v_i_scr_tuple, v_i_scr_list, v_i_scr_tl, v_range1, v_range2, v_newF, v_newT, at0, at1, at2, at3, at4, at5, v_lstAt hg.hb]
        refine ⟨trivial, ?_⟩
        rw [v_popAt (k := 0) (y := .int g) hg.hb (ix0 (by simp)) rfl]
        have hl := hg.hl
        rw [List.length_cons] at hl
        exact ⟨by decide, by decide, gs, trivial, hg.putb (gs' := gs) (by omega), hf.putb, by simp⟩
    · refine br_true ?_
      refine ⟨by omega, ⟨by omega, hlog⟩, ?_⟩
      rw [v_setIx hg.hb (k := 0) (ix0 (by simp))]
      have h1 := hg.putb (gs' := g.fdiv n :: gs) hg.hl
      exact fin_ok (hq _ _ (Int.fmod_nonneg_of_pos _ hn) (Int.fmod_lt_of_pos _ hn) h1.spr hf.putb)
/-- a drawn fraction -/
def sp_number : Spec := fun ds S Q _ => ∃ (a b : Nat), ds = [.loc a] ∧ Spr a b S ∧ ∀ r S', Sz 140 r → Spr a b S' → Frm a b S S' → Q (rD r) S'
theorem w_L_number {Γ : Ctx} (h1 : Has Γ f_L_low 2 (sp_low 9000)) (h2 : Has Γ f_L_drop 2 sp_drop) : ∀ ds S Q E, sp_number ds S Q E → wpFn Γ c_L_number ds S Q E := by
  rintro _ S Q E ⟨a, b, rfl, hs, hq⟩
  unfold wpFn c_L_number
  have pw : ((10 : Int) ^ Int.toNat 40) = 10 ^ 40 := rfl
  have pw' : ((10 : Int) ^ Int.toNat 39) = 10 ^ 39 := rfl
  have pw'' : ((10 : Int) ^ Int.toNat 6) = 10 ^ 6 := rfl
  simp -implicitDefEqProofs only [wpSs, wpS, wpE, wpEs, wpO, wpC, wpT, wpTs, wpI, look_zero, look_succ, whenB_some, startD, List.set_cons_zero, List.set_cons_succ, at_eq, nxt_nx, nxt_rt, nxt_bk, nxt_ct, nxt_ex, loop_nx, loop_rt, loop_bk, loop_ct, loop_ex, exc_nx, exc_rt, exc_bk, exc_ct, exc_ex, List.nil_append, List.cons_append, List.length_cons, List.length_nil, Nat.reduceAdd, v_add_int, v_add_str, v_add_tup, v_add_vls, v_sub, v_mul, v_div, v_mod, v_pow, v_aadd, v_asub, v_aadds, v_cLt, v_cLtE, v_cGt, v_cGtE, v_cEq, v_cNe, v_cEqS, v_cNeS, v_cEqB, v_cNeB, v_is, v_isnt, v_isN_non, v_isN_bl, v_isN_int, v_isN_str, v_isN_tup, v_isN_vls, v_isN_scr, v_isN_loc, v_t_non, v_t_bl, v_t_int, v_t_tup, v_t_vls, v_len_tup, v_list_tup, v_listM_tup, v_tuple_tup, v_idx_tup, v_src_tup, v_len_vls, v_list_vls, v_listM_vls, v_tuple_vls, v_idx_vls, v_src_vls, v_len_scr, v_list_scr, v_listM_scr, v_tuple_scr, v_idx_scr, v_src_scr, v_sli_tup, v_sli_vls, v_sli_scr, v_abs, v_int, v_intb, v_max, v_min, v_i_non_int, v_i_non_bool, v_i_non_str, v_i_non_tuple, v_i_non_list, v_i_non_tl, v_i_bl_int, v_i_bl_bool, v_i_bl_str, v_i_bl_tuple, v_i_bl_list, v_i_bl_tl, v_i_int_int, v_i_int_bool, v_i_int_str, v_i_int_tuple, v_i_int_list, v_i_int_tl, v_i_str_int, v_i_str_bool, v_i_str_str, v_i_str_tuple, v_i_str_list, v_i_str_tl, v_i_tup_int, v_i_tup_bool, v_i_tup_str, v_i_tup_tuple, v_i_tup_list, v_i_tup_tl, v_i_vls_int, v_i_vls_bool, v_i_vls_str, v_i_vls_tuple, v_i_vls_list, v_i_vls_tl, v_i_scr_int, v_i_scr_bool, v_i_scr_str, v_i_scr_tuple, v_i_scr_list, v_i_scr_tl, v_range1, v_range2, v_newF, v_newT, at0, at1, at2, at3, at4, at5, pw, pw', pw'']
  have fin : ∀ (t u : Int) (S' : Store), (t.natAbs < 2 ^ 140) → 0 ≤ u → u < 2 ^ 139 → Spr a b S' → Frm a b S S' → callW Γ f_L_low [.int t, .int (1 + u)] S' (fun x S1 => ∃ S', XC.Sub S' S1 ∧ E x S') fun d S1 => ∃ S', XC.Sub S' S1 ∧ Q d S' := fun t u S' ht hu1 hu2 hs hf => by
    refine h1.call rfl ⟨t, 1 + u, rfl, by omega, Nat.lt_trans (m := 2 ^ 140) (by omega) (by decide), fin_ok ?_⟩
    have hb : (1 + u : Int) ≠ 0 := by omega
    rw [fD_low _ _ hb]
    exact hq _ _ (sz_divi hb ht (by omega)) hs hf
  refine h2.call rfl ⟨a, b, 6, rfl, by decide, by decide, hs, fun d S1 hd0 hd1 hs1 hf1 => ?_⟩
  refine br_dec (fun h => ?_) fun h => ?_
  · refine h2.call rfl ⟨a, b, _, rfl, by decide, by decide, hs1, fun d S2 hd0 hd1 hs2 hf2 => ?_⟩
    simp -implicitDefEqProofs only [v_add_int, v_add_str, v_add_tup, v_add_vls, v_sub, v_mul, v_div, v_mod, v_pow, v_aadd, v_asub, v_aadds, v_cLt, v_cLtE, v_cGt, v_cGtE, v_cEq, v_cNe, v_cEqS, v_cNeS, v_cEqB, v_cNeB, v_is, v_isnt, v_isN_non, v_isN_bl, v_isN_int, v_isN_str, v_isN_tup, v_isN_vls, v_isN_scr, v_isN_loc, v_t_non, v_t_bl, v_t_int, v_t_tup, v_t_vls, v_len_tup, v_list_tup, v_listM_tup, v_tuple_tup, v_idx_tup, v_src_tup, v_len_vls, v_list_vls, v_listM_vls, v_tuple_vls, v_idx_vls, v_src_vls, v_len_scr, v_list_scr, v_listM_scr, v_tuple_scr, v_idx_scr, v_src_scr, v_sli_tup, v_sli_vls, v_sli_scr, v_abs, v_int, v_intb, v_max, v_min, v_i_non_int, v_i_non_bool, v_i_non_str, v_i_non_tuple, v_i_non_list, v_i_non_tl, v_i_bl_int, v_i_bl_bool, v_i_bl_str, v_i_bl_tuple, v_i_bl_list, v_i_bl_tl, v_i_int_int, v_i_int_bool, v_i_int_str, v_i_int_tuple, v_i_int_list, v_i_int_tl, v_i_str_int, v_i_str_bool, v_i_str_str, v_i_str_tuple, v_i_str_list, v_i_str_tl, v_i_tup_int, v_i_tup_bool, v_i_tup_str, v_i_tup_tuple, v_i_tup_list, v_i_tup_tl, v_i_vls_int, v_i_vls_bool, v_i_vls_str, v_i_vls_tuple, v_i_vls_list, v_i_vls_tl, v_i_scr_int, v_i_scr_bool, v_i_scr_str, v_i_scr_tuple, v_i_scr_list, v_i_scr_tl, v_range1, v_range2, v_newF, v_newT, at0, at1, at2, at3, at4, at5]
    refine ⟨by decide, fin_ok (hq ((d - 10 : Int) : Rat) _ ⟨?_, by show 1 < _; decide⟩ hs2 (hf1.trans hf2))⟩
    show (d - 10).natAbs < _
    omega
  refine br_dec (fun h => ?_) fun h => ?_
  · refine h2.call rfl ⟨a, b, _, rfl, by decide, by decide, hs1, fun d S2 hd0 hd1 hs2 hf2 => ?_⟩
    simp -implicitDefEqProofs only [v_add_int, v_add_str, v_add_tup, v_add_vls, v_sub, v_mul, v_div, v_mod, v_pow, v_aadd, v_asub, v_aadds, v_cLt, v_cLtE, v_cGt, v_cGtE, v_cEq, v_cNe, v_cEqS, v_cNeS, v_cEqB, v_cNeB, v_is, v_isnt, v_isN_non, v_isN_bl, v_isN_int, v_isN_str, v_isN_tup, v_isN_vls, v_isN_scr, v_isN_loc, v_t_non, v_t_bl, v_t_int, v_t_tup, v_t_vls, v_len_tup, v_list_tup, v_listM_tup, v_tuple_tup, v_idx_tup, v_src_tup, v_len_vls, v_list_vls, v_listM_vls, v_tuple_vls, v_idx_vls, v_src_vls, v_len_scr, v_list_scr, v_listM_scr, v_tuple_scr, v_idx_scr, v_src_scr, v_sli_tup, v_sli_vls, v_sli_scr, v_abs, v_int, v_intb, v_max, v_min, v_i_non_int, v_i_non_bool, v_i_non_str, v_i_non_tuple, v_i_non_list, v_i_non_tl, v_i_bl_int, v_i_bl_bool, v_i_bl_str, v_i_bl_tuple, v_i_bl_list, v_i_bl_tl, v_i_int_int, v_i_int_bool, v_i_int_str, v_i_int_tuple, v_i_int_list, v_i_int_tl, v_i_str_int, v_i_str_bool, v_i_str_str, v_i_str_tuple, v_i_str_list, v_i_str_tl, v_i_tup_int, v_i_tup_bool, v_i_tup_str, v_i_tup_tuple, v_i_tup_list, v_i_tup_tl, v_i_vls_int, v_i_vls_bool, v_i_vls_str, v_i_vls_tuple, v_i_vls_list, v_i_vls_tl, v_i_scr_int, v_i_scr_bool, v_i_scr_str, v_i_scr_tuple, v_i_scr_list, v_i_scr_tl, v_range1, v_range2, v_newF, v_newT, at0, at1, at2, at3, at4, at5]
    refine h2.call rfl ⟨a, b, _, rfl, by decide, by decide, hs2, fun e S3 he0 he1 hs3 hf3 => ?_⟩
    simp -implicitDefEqProofs only [v_add_int, v_add_str, v_add_tup, v_add_vls, v_sub, v_mul, v_div, v_mod, v_pow, v_aadd, v_asub, v_aadds, v_cLt, v_cLtE, v_cGt, v_cGtE, v_cEq, v_cNe, v_cEqS, v_cNeS, v_cEqB, v_cNeB, v_is, v_isnt, v_isN_non, v_isN_bl, v_isN_int, v_isN_str, v_isN_tup, v_isN_vls, v_isN_scr, v_isN_loc, v_t_non, v_t_bl, v_t_int, v_t_tup, v_t_vls, v_len_tup, v_list_tup, v_listM_tup, v_tuple_tup, v_idx_tup, v_src_tup, v_len_vls, v_list_vls, v_listM_vls, v_tuple_vls, v_idx_vls, v_src_vls, v_len_scr, v_list_scr, v_listM_scr, v_tuple_scr, v_idx_scr, v_src_scr, v_sli_tup, v_sli_vls, v_sli_scr, v_abs, v_int, v_intb, v_max, v_min, v_i_non_int, v_i_non_bool, v_i_non_str, v_i_non_tuple, v_i_non_list, v_i_non_tl, v_i_bl_int, v_i_bl_bool, v_i_bl_str, v_i_bl_tuple, v_i_bl_list, v_i_bl_tl, v_i_int_int, v_i_int_bool, v_i_int_str, v_i_int_tuple, v_i_int_list, v_i_int_tl, v_i_str_int, v_i_str_bool, v_i_str_str, v_i_str_tuple, v_i_str_list, v_i_str_tl, v_i_tup_int, v_i_tup_bool, v_i_tup_str, v_i_tup_tuple, v_i_tup_list, v_i_tup_tl, v_i_vls_int, v_i_vls_bool, v_i_vls_str, v_i_vls_tuple, v_i_vls_list, v_i_vls_tl, v_i_scr_int, v_i_scr_bool, v_i_scr_str, v_i_scr_tuple, v_i_scr_list, v_i_scr_tl, v_range1, v_range2, v_newF, v_newT, at0, at1, at2, at3, at4, at5]
    exact fin _ _ _ (by omega) he0 (by omega) hs3 ((hf1.trans hf2).trans hf3)
  refine br_dec (fun h => ?_) fun h => ?_
  · refine h2.call rfl ⟨a, b, _, rfl, by decide, by decide, hs1, fun d S2 hd0 hd1 hs2 hf2 => ?_⟩
    simp -implicitDefEqProofs only [v_add_int, v_add_str, v_add_tup, v_add_vls, v_sub, v_mul, v_div, v_mod, v_pow, v_aadd, v_asub, v_aadds, v_cLt, v_cLtE, v_cGt, v_cGtE, v_cEq, v_cNe, v_cEqS, v_cNeS, v_cEqB, v_cNeB, v_is, v_isnt, v_isN_non, v_isN_bl, v_isN_int, v_isN_str, v_isN_tup, v_isN_vls, v_isN_scr, v_isN_loc, v_t_non, v_t_bl, v_t_int, v_t_tup, v_t_vls, v_len_tup, v_list_tup, v_listM_tup, v_tuple_tup, v_idx_tup, v_src_tup, v_len_vls, v_list_vls, v_listM_vls, v_tuple_vls, v_idx_vls, v_src_vls, v_len_scr, v_list_scr, v_listM_scr, v_tuple_scr, v_idx_scr, v_src_scr, v_sli_tup, v_sli_vls, v_sli_scr, v_abs, v_int, v_intb, v_max, v_min, v_i_non_int, v_i_non_bool, v_i_non_str, v_i_non_tuple, v_i_non_list, v_i_non_tl, v_i_bl_int, v_i_bl_bool, v_i_bl_str, v_i_bl_tuple, v_i_bl_list, v_i_bl_tl, v_i_int_int, v_i_int_bool, v_i_int_str, v_i_int_tuple, v_i_int_list, v_i_int_tl, v_i_str_int, v_i_str_bool, v_i_str_str, v_i_str_tuple, v_i_str_list, v_i_str_tl, v_i_tup_int, v_i_tup_bool, v_i_tup_str, v_i_tup_tuple, v_i_tup_list, v_i_tup_tl, v_i_vls_int, v_i_vls_bool, v_i_vls_str, v_i_vls_tuple, v_i_vls_list, v_i_vls_tl, v_i_scr_int, v_i_scr_bool, v_i_scr_str, v_i_scr_tuple, v_i_scr_list, v_i_scr_tl, v_range1, v_range2, v_newF, v_newT, at0, at1, at2, at3, at4, at5]
    refine h2.call rfl ⟨a, b, _, rfl, by decide, by decide, hs2, fun e S3 he0 he1 hs3 hf3 => ?_⟩
    simp -implicitDefEqProofs only [v_add_int, v_add_str, v_add_tup, v_add_vls, v_sub, v_mul, v_div, v_mod, v_pow, v_aadd, v_asub, v_aadds, v_cLt, v_cLtE, v_cGt, v_cGtE, v_cEq, v_cNe, v_cEqS, v_cNeS, v_cEqB, v_cNeB, v_is, v_isnt, v_isN_non, v_isN_bl, v_isN_int, v_isN_str, v_isN_tup, v_isN_vls, v_isN_scr, v_isN_loc, v_t_non, v_t_bl, v_t_int, v_t_tup, v_t_vls, v_len_tup, v_list_tup, v_listM_tup, v_tuple_tup, v_idx_tup, v_src_tup, v_len_vls, v_list_vls, v_listM_vls, v_tuple_vls, v_idx_vls, v_src_vls, v_len_scr, v_list_scr, v_listM_scr, v_tuple_scr, v_idx_scr, v_src_scr, v_sli_tup, v_sli_vls, v_sli_scr, v_abs, v_int, v_intb, v_max, v_min, v_i_non_int, v_i_non_bool, v_i_non_str, v_i_non_tuple, v_i_non_list, v_i_non_tl, v_i_bl_int, v_i_bl_bool, v_i_bl_str, v_i_bl_tuple, v_i_bl_list, v_i_bl_tl, v_i_int_int, v_i_int_bool, v_i_int_str, v_i_int_tuple, v_i_int_list, v_i_int_tl, v_i_str_int, v_i_str_bool, v_i_str_str, v_i_str_tuple, v_i_str_list, v_i_str_tl, v_i_tup_int, v_i_tup_bool, v_i_tup_str, v_i_tup_tuple, v_i_tup_list, v_i_tup_tl, v_i_vls_int, v_i_vls_bool, v_i_vls_str, v_i_vls_tuple, v_i_vls_list, v_i_vls_tl, v_i_scr_int, v_i_scr_bool, v_i_scr_str, v_i_scr_tuple, v_i_scr_list, v_i_scr_tl, v_range1, v_range2, v_newF, v_newT, at0, at1, at2, at3, at4, at5]
    exact fin _ _ _ (by omega) he0 (by omega) hs3 ((hf1.trans hf2).trans hf3)
  refine ⟨by decide, ?_⟩
  refine h2.call rfl ⟨a, b, _, rfl, by decide, by decide, hs1, fun d S2 hd0 hd1 hs2 hf2 => ?_⟩
  simp -implicitDefEqProofs only [v_add_int, v_add_str, v_add_tup, v_add_vls, v_sub, v_mul, v_div, v_mod, v_pow, v_aadd, v_asub, v_aadds, v_cLt, v_cLtE, v_cGt, v_cGtE, v_cEq, v_cNe, v_cEqS, v_cNeS, v_cEqB, v_cNeB, v_is, v_isnt, v_isN_non, v_isN_bl, v_isN_int, v_isN_str, v_isN_tup, v_isN_vls, v_isN_scr, v_isN_loc, v_t_non, v_t_bl, v_t_int, v_t_tup, v_t_vls, v_len_tup, v_list_tup, v_listM_tup, v_tuple_tup, v_idx_tup, v_src_tup, v_len_vls, v_list_vls, v_listM_vls, v_tuple_vls, v_idx_vls, v_src_vls, v_len_scr, v_list_scr, v_listM_scr, v_tuple_scr, v_idx_scr, v_src_scr, v_sli_tup, v_sli_vls, v_sli_scr, v_abs, v_int, v_intb, v_max, v_min, v_i_non_int, v_i_non_bool, v_i_non_str, v_i_non_tuple, v_i_non_list, v_i_non_tl, v_i_bl_int, v_i_bl_bool, v_i_bl_str, v_i_bl_tuple, v_i_bl_list, v_i_bl_tl, v_i_int_int, v_i_int_bool, v_i_int_str, v_i_int_tuple, v_i_int_list, v_i_int_tl, v_i_str_int, v_i_str_bool, v_i_str_str, v_i_str_tuple, v_i_str_list, v_i_str_tl, v_i_tup_int, v_i_tup_bool, v_i_tup_str, v_i_tup_tuple, v_i_tup_list, v_i_tup_tl, v_i_vls_int, v_i_vls_bool, v_i_vls_str, v_i_vls_tuple, v_i_vls_list, v_i_vls_tl, v_i_scr_int, v_i_scr_bool, v_i_scr_str, v_i_scr_tuple, v_i_scr_list, v_i_scr_tl, v_range1, v_range2, v_newF, v_newT, at0, at1, at2, at3, at4, at5]
  refine ⟨by decide, by decide, by decide, by decide, ?_⟩
  refine h2.call rfl ⟨a, b, _, rfl, by decide, by decide, hs2, fun e S3 he0 he1 hs3 hf3 => ?_⟩
  have hf := (hf1.trans hf2).trans hf3
  have e01 : e = 0 ∨ e = 1 := by omega
  rcases e01 with rfl | rfl
  · simp -implicitDefEqProofs only [v_add_int, v_add_str, v_add_tup, v_add_vls, v_sub, v_mul, v_div, v_mod, v_pow, v_aadd, v_asub, v_aadds, v_cLt, v_cLtE, v_cGt, v_cGtE, v_cEq, v_cNe, v_cEqS, v_cNeS, v_cEqB, v_cNeB, v_is, v_isnt, v_isN_non, v_isN_bl, v_isN_int, v_isN_str, v_isN_tup, v_isN_vls, v_isN_scr, v_isN_loc, v_t_non, v_t_bl, v_t_int, v_t_tup, v_t_vls, v_len_tup, v_list_tup, v_listM_tup, v_tuple_tup, v_idx_tup, v_src_tup, v_len_vls, v_list_vls, v_listM_vls, v_tuple_vls, v_idx_vls, v_src_vls, v_len_scr, v_list_scr, v_listM_scr, v_tuple_scr, v_idx_scr, v_src_scr, v_sli_tup, v_sli_vls, v_sli_scr, v_abs, v_int, v_intb, v_max, v_min, v_i_non_int, v_i_non_bool, v_i_non_str, v_i_non_tuple, v_i_non_list, v_i_non_tl, v_i_bl_int, v_i_bl_bool, v_i_bl_str, v_i_bl_tuple, v_i_bl_list, v_i_bl_tl, v_i_int_int, v_i_int_bool, v_i_int_str, v_i_int_tuple, v_i_int_list, v_i_int_tl, v_i_str_int, v_i_str_bool, v_i_str_str, v_i_str_tuple, v_i_str_list, v_i_str_tl, v_i_tup_int, v_i_tup_bool, v_i_tup_str, v_i_tup_tuple, v_i_tup_list, v_i_tup_tl, v_i_vls_int, v_i_vls_bool, v_i_vls_str, v_i_vls_tuple, v_i_vls_list, v_i_vls_tl, v_i_scr_int, v_i_scr_bool, v_i_scr_str, v_i_scr_tuple, v_i_scr_list, v_i_scr_tl, v_range1, v_range2, v_newF, v_newT, at0, at1, at2, at3, at4, at5]
    refine h2.call rfl ⟨a, b, _, rfl, by decide, by decide, hs3, fun e S4 he0 he1 hs4 hf4 => ?_⟩
    simp -implicitDefEqProofs only [v_add_int, v_add_str, v_add_tup, v_add_vls, v_sub, v_mul, v_div, v_mod, v_pow, v_aadd, v_asub, v_aadds, v_cLt, v_cLtE, v_cGt, v_cGtE, v_cEq, v_cNe, v_cEqS, v_cNeS, v_cEqB, v_cNeB, v_is, v_isnt, v_isN_non, v_isN_bl, v_isN_int, v_isN_str, v_isN_tup, v_isN_vls, v_isN_scr, v_isN_loc, v_t_non, v_t_bl, v_t_int, v_t_tup, v_t_vls, v_len_tup, v_list_tup, v_listM_tup, v_tuple_tup, v_idx_tup, v_src_tup, v_len_vls, v_list_vls, v_listM_vls, v_tuple_vls, v_idx_vls, v_src_vls, v_len_scr, v_list_scr, v_listM_scr, v_tuple_scr, v_idx_scr, v_src_scr, v_sli_tup, v_sli_vls, v_sli_scr, v_abs, v_int, v_intb, v_max, v_min, v_i_non_int, v_i_non_bool, v_i_non_str, v_i_non_tuple, v_i_non_list, v_i_non_tl, v_i_bl_int, v_i_bl_bool, v_i_bl_str, v_i_bl_tuple, v_i_bl_list, v_i_bl_tl, v_i_int_int, v_i_int_bool, v_i_int_str, v_i_int_tuple, v_i_int_list, v_i_int_tl, v_i_str_int, v_i_str_bool, v_i_str_str, v_i_str_tuple, v_i_str_list, v_i_str_tl, v_i_tup_int, v_i_tup_bool, v_i_tup_str, v_i_tup_tuple, v_i_tup_list, v_i_tup_tl, v_i_vls_int, v_i_vls_bool, v_i_vls_str, v_i_vls_tuple, v_i_vls_list, v_i_vls_tl, v_i_scr_int, v_i_scr_bool, v_i_scr_str, v_i_scr_tuple, v_i_scr_list, v_i_scr_tl, v_range1, v_range2, v_newF, v_newT, at0, at1, at2, at3, at4, at5]
    exact fin _ _ _ (by omega) he0 (by omega) hs4 (hf.trans hf4)
  · simp -implicitDefEqProofs only [v_add_int, v_add_str, v_add_tup, v_add_vls, v_sub, v_mul, v_div, v_mod, v_pow, v_aadd, v_asub, v_aadds, v_cLt, v_cLtE, v_cGt, v_cGtE, v_cEq, v_cNe, v_cEqS, v_cNeS, v_cEqB, v_cNeB, v_is, v_isnt, v_isN_non, v_isN_bl, v_isN_int, v_isN_str, v_isN_tup, v_isN_vls, v_isN_scr, v_isN_loc, v_t_non, v_t_bl, v_t_int, v_t_tup, v_t_vls, v_len_tup, v_list_tup, v_listM_tup, v_tuple_tup, v_idx_tup, v_src_tup, v_len_vls, v_list_vls, v_listM_vls, v_tuple_vls, v_idx_vls, v_src_vls, v_len_scr, v_list_scr, v_listM_scr, v_tuple_scr, v_idx_scr, v_src_scr, v_sli_tup, v_sli_vls, v_sli_scr, v_abs, v_int, v_intb, v_max, v_min, v_i_non_int, v_i_non_bool, v_i_non_str, v_i_non_tuple, v_i_non_list, v_i_non_tl, v_i_bl_int, v_i_bl_bool, v_i_bl_str, v_i_bl_tuple, v_i_bl_list, v_i_bl_tl, v_i_int_int, v_i_int_bool, v_i_int_str, v_i_int_tuple, v_i_int_list, v_i_int_tl, v_i_str_int, v_i_str_bool, v_i_str_str, v_i_str_tuple, v_i_str_list, v_i_str_tl, v_i_tup_int, v_i_tup_bool, v_i_tup_str, v_i_tup_tuple, v_i_tup_list, v_i_tup_tl, v_i_vls_int, v_i_vls_bool, v_i_vls_str, v_i_vls_tuple, v_i_vls_list, v_i_vls_tl, v_i_scr_int, v_i_scr_bool, v_i_scr_str, v_i_scr_tuple, v_i_scr_list, v_i_scr_tl, v_range1, v_range2, v_newF, v_newT, at0, at1, at2, at3, at4, at5]
    refine h2.call rfl ⟨a, b, _, rfl, by decide, by decide, hs3, fun e S4 he0 he1 hs4 hf4 => ?_⟩
    simp -implicitDefEqProofs only [v_add_int, v_add_str, v_add_tup, v_add_vls, v_sub, v_mul, v_div, v_mod, v_pow, v_aadd, v_asub, v_aadds, v_cLt, v_cLtE, v_cGt, v_cGtE, v_cEq, v_cNe, v_cEqS, v_cNeS, v_cEqB, v_cNeB, v_is, v_isnt, v_isN_non, v_isN_bl, v_isN_int, v_isN_str, v_isN_tup, v_isN_vls, v_isN_scr, v_isN_loc, v_t_non, v_t_bl, v_t_int, v_t_tup, v_t_vls, v_len_tup, v_list_tup, v_listM_tup, v_tuple_tup, v_idx_tup, v_src_tup, v_len_vls, v_list_vls, v_listM_vls, v_tuple_vls, v_idx_vls, v_src_vls, v_len_scr, v_list_scr, v_listM_scr, v_tuple_scr, v_idx_scr, v_src_scr, v_sli_tup, v_sli_vls, v_sli_scr, v_abs, v_int, v_intb, v_max, v_min, v_i_non_int, v_i_non_bool, v_i_non_str, v_i_non_tuple, v_i_non_list, v_i_non_tl, v_i_bl_int, v_i_bl_bool, v_i_bl_str, v_i_bl_tuple, v_i_bl_list, v_i_bl_tl, v_i_int_int, v_i_int_bool, v_i_int_str, v_i_int_tuple, v_i_int_list, v_i_int_tl, v_i_str_int, v_i_str_bool, v_i_str_str, v_i_str_tuple, v_i_str_list, v_i_str_tl, v_i_tup_int, v_i_tup_bool, v_i_tup_str, v_i_tup_tuple, v_i_tup_list, v_i_tup_tl, v_i_vls_int, v_i_vls_bool, v_i_vls_str, v_i_vls_tuple, v_i_vls_list, v_i_vls_tl, v_i_scr_int, v_i_scr_bool, v_i_scr_str, v_i_scr_tuple, v_i_scr_list, v_i_scr_tl, v_range1, v_range2, v_newF, v_newT, at0, at1, at2, at3, at4, at5]
    exact fin _ _ _ (by omega) he0 (by omega) hs4 (hf.trans hf4)
def kind : D → List Bool
  | .non => [false, false, false, false, false, true]
  | .bl _ => [true, true, false, false, false, false]
  | .int _ => [false, true, false, false, false, false]
  | .str _ => [false, false, true, false, false, false]
  | .tup _ => [false, false, false, true, false, false]
  | .vls _ => [false, false, false, false, true, false]
  | .scr _ => [false, false, false, false, true, false]
  | .loc _ => [false, false, false, false, true, false]
def notLoc : D → Bool
  | .loc _ => false
  | _ => true
def sp_kinds : Spec := fun ds S Q _ => ∃ d, ds = [d] ∧ notLoc d = true ∧ Q (.vls ((kind d).map .bl)) S
theorem w_L_kinds {Γ : Ctx} : ∀ ds S Q E, sp_kinds ds S Q E → wpFn Γ c_L_kinds ds S Q E := by
  rintro _ S Q E ⟨d, rfl, hd, hq⟩
  unfold wpFn c_L_kinds
  cases d <;> first | (simp [notLoc] at hd; done) | skip
  all_goals
    simp -implicitDefEqProofs only [wpSs, wpS, wpE, wpEs, wpO, wpC, wpT, wpTs, wpI, look_zero, look_succ, whenB_some, startD, List.set_cons_zero, List.set_cons_succ, at_eq, nxt_nx, nxt_rt, nxt_bk, nxt_ct, nxt_ex, loop_nx, loop_rt, loop_bk, loop_ct, loop_ex, exc_nx, exc_rt, exc_bk, exc_ct, exc_ex, List.nil_append, List.cons_append, List.length_cons, List.length_nil, Nat.reduceAdd, v_add_int, v_add_str, v_add_tup, v_add_vls, v_sub, v_mul, v_div, v_mod, v_pow, v_aadd, v_asub, v_aadds, v_cLt, v_cLtE, v_cGt, v_cGtE, v_cEq, v_cNe, v_cEqS, v_cNeS, v_cEqB, v_cNeB, v_is, v_isnt, v_isN_non, v_isN_bl, v_isN_int, v_isN_str, v_isN_tup, v_isN_vls, v_isN_scr, v_isN_loc, v_t_non, v_t_bl, v_t_int, v_t_tup, v_t_vls, v_len_tup, v_list_tup, v_listM_tup, v_tuple_tup, v_idx_tup, v_src_tup, v_len_vls, v_list_vls, v_listM_vls, v_tuple_vls, v_idx_vls, v_src_vls, v_len_scr, v_list_scr, v_listM_scr, v_tuple_scr, v_idx_scr, v_src_scr, v_sli_tup, v_sli_vls, v_sli_scr, v_abs, v_int, v_intb, v_max, v_min, v_i_non_int, v_i_non_bool, v_i_non_str, v_i_non_tuple, v_i_non_list, v_i_non_tl, v_i_bl_int, v_i_bl_bool, v_i_bl_str, v_i_bl_tuple, v_i_bl_list, v_i_bl_tl, v_i_int_int, v_i_int_bool, v_i_int_str, v_i_int_tuple, v_i_int_list, v_i_int_tl, v_i_str_int, v_i_str_bool, v_i_str_str, v_i_str_tuple, v_i_str_list, v_i_str_tl, v_i_tup_int, v_i_tup_bool, v_i_tup_str, v_i_tup_tuple, v_i_tup_list, v_i_tup_tl, v_i_vls_int, v_i_vls_bool, v_i_vls_str, v_i_vls_tuple, v_i_vls_list, v_i_vls_tl, v_i_scr_int, v_i_scr_bool, v_i_scr_str, v_i_scr_tuple, v_i_scr_list, v_i_scr_tl, v_range1, v_range2, v_newF, v_newT, at0, at1, at2, at3, at4, at5]
    exact ⟨by decide, by decide, by decide, fin_ok hq⟩
theorem oks_bools : ∀ (n : Nat) (gs : List Bool), oks n (gs.map D.bl) = true
  | _, [] => by unfold oks; rfl
  | n, g :: gs => by
    rw [List.map_cons]; unfold oks
    rw [oks_bools n gs]; unfold D.ok; rfl
theorem eqvs_bools : ∀ (gs : List Bool), eqvs (gs.map D.bl) (gs.map D.bl) = true
  | [] => by unfold eqvs; rfl
  | g :: gs => by
    rw [List.map_cons]; unfold eqvs
    rw [eqvs_bools gs]; unfold D.eqv; simp
theorem v_ne_bools {S : Store} {bs : List Bool} : cmpD S .NotEq (.vls (bs.map .bl)) (.vls (bs.map .bl)) = some false := by
  have h : (fz S (.vls (bs.map .bl))).ok 40 = true := by unfold fz D.ok; exact oks_bools _ _
  rw [v_ne_ok rfl h h]
  show some (!(D.vls (bs.map .bl)).eqv (.vls (bs.map .bl))) = _
  unfold D.eqv
  rw [eqvs_bools]; rfl
def sp_alike (n : Nat) : Spec := fun ds S Q _ => ∃ x, ds = [x, x] ∧ nice n x = true ∧ Q (.bl true) S
theorem at_mem {xs : List D} {k : Nat} (h : k < xs.length) : ∃ x, x ∈ xs ∧ atI xs (k : Int) = some x := by
  refine ⟨xs[k], List.getElem_mem h, ?_⟩
  exact atk (List.getElem?_eq_getElem h)
theorem rng_cons {lo : Int} {n : Nat} : rngD lo (n + 1) = .int lo :: rngD (lo + 1) n := by
  unfold rngD
  rw [List.range_succ_eq_map, List.map_cons, List.map_map]
  congr 1
  · simp
  · apply List.map_congr_left
    intro a _
    simp only [Function.comp, Nat.succ_eq_add_one]
    congr 1
    omega
theorem rng_zero {lo : Int} : rngD lo 0 = [] := rfl
theorem all_true : ∀ n, boolsOf (List.replicate n (.bl true)) = some (List.replicate n true)
  | 0 => rfl
  | n + 1 => by rw [List.replicate_succ, List.replicate_succ]; unfold boolsOf; rw [all_true n]; rfl
theorem rep_all : ∀ n, (List.replicate n true).all id = true
  | 0 => rfl
  | n + 1 => by rw [List.replicate_succ, List.all_cons, rep_all n]; rfl
theorem w_L_alike {Γ : Ctx} (n : Nat) (h1 : Has Γ f_L_alike 2 (sp_alike n)) (h2 : Has Γ f_L_kinds 1 sp_kinds) : ∀ ds S Q E, sp_alike (n + 1) ds S Q E → wpFn Γ c_L_alike ds S Q E := by
  rintro _ S Q E ⟨x, rfl, hx, hq⟩
  have hk : notLoc x = true := by
    cases x <;> first | rfl | (simp [nice] at hx)
  unfold wpFn c_L_alike
  simp -implicitDefEqProofs only [wpSs, wpS, wpE, wpEs, wpO, wpC, wpT, wpTs, wpI, look_zero, look_succ, whenB_some, startD, List.set_cons_zero, List.set_cons_succ, at_eq, nxt_nx, nxt_rt, nxt_bk, nxt_ct, nxt_ex, loop_nx, loop_rt, loop_bk, loop_ct, loop_ex, exc_nx, exc_rt, exc_bk, exc_ct, exc_ex, List.nil_append, List.cons_append, List.length_cons, List.length_nil, Nat.reduceAdd]
  refine h2.call rfl ⟨x, rfl, hk, ?_⟩
  refine h2.call rfl ⟨x, rfl, hk, ?_⟩
  simp only [v_ne_bools, whenB_some, v_t_bl]
  refine br_false ?_
  cases x
  case tup xs =>
    simp only [nice, Bool.and_eq_true, decide_eq_true_eq] at hx
    have hl := hx.1
    have hx := nices_mem hx.2
    simp -implicitDefEqProofs only [wpSs, wpS, wpE, wpEs, wpO, wpC, wpT, wpTs, wpI, look_zero, look_succ, whenB_some, startD, List.set_cons_zero, List.set_cons_succ, at_eq, nxt_nx, nxt_rt, nxt_bk, nxt_ct, nxt_ex, loop_nx, loop_rt, loop_bk, loop_ct, loop_ex, exc_nx, exc_rt, exc_bk, exc_ct, exc_ex, List.nil_append, List.cons_append, List.length_cons, List.length_nil, Nat.reduceAdd, v_add_int, v_add_str, v_add_tup, v_add_vls, v_sub, v_mul, v_div, v_mod, v_pow, v_aadd, v_asub, v_aadds, v_cLt, v_cLtE, v_cGt, v_cGtE, v_cEq, v_cNe, v_cEqS, v_cNeS, v_cEqB, v_cNeB, v_is, v_isnt, v_isN_non, v_isN_bl, v_isN_int, v_isN_str, v_isN_tup, v_isN_vls, v_isN_scr, v_isN_loc, v_t_non, v_t_bl, v_t_int, v_t_tup, v_t_vls, v_len_tup, v_list_tup, v_listM_tup, v_tuple_tup, v_idx_tup, v_src_tup, v_len_vls, v_list_vls, v_listM_vls, v_tuple_vls, v_idx_vls, v_src_vls, v_len_scr, v_list_scr, v_listM_scr, v_tuple_scr, v_idx_scr, v_src_scr, v_sli_tup, v_sli_vls, v_sli_scr, v_abs, v_int, v_intb, v_max, v_min, v_i_non_int, v_i_non_bool, v_i_non_str, v_i_non_tuple, v_i_non_list, v_i_non_tl, v_i_bl_int, v_i_bl_bool, v_i_bl_str, v_i_bl_tuple, v_i_bl_list, v_i_bl_tl, v_i_int_int, v_i_int_bool, v_i_int_str, v_i_int_tuple, v_i_int_list, v_i_int_tl, v_i_str_int, v_i_str_bool, v_i_str_str, v_i_str_tuple, v_i_str_list, v_i_str_tl, v_i_tup_int, v_i_tup_bool, v_i_tup_str, v_i_tup_tuple, v_i_tup_list, v_i_tup_tl, v_i_vls_int, v_i_vls_bool, v_i_vls_str, v_i_vls_tuple, v_i_vls_list, v_i_vls_tl, v_i_scr_int, v_i_scr_bool, v_i_scr_str, v_i_scr_tuple, v_i_scr_list, v_i_scr_tl, v_range1, v_range2, v_newF, v_newT, at0, at1, at2, at3, at4, at5, eq_self, decide_true, wipe, List.foldl_cons, List.foldl_nil, List.any_cons, List.contains_cons, beq_self_eq_true, Bool.or_true, Bool.true_or]
    refine br_true (br_true ?_)
    refine ⟨by omega, by omega, ?_⟩
    intro p hp
    refine comp_ind (fun r acc S1 => ∃ (i m : Nat), r = rngD (i : Int) m ∧ i + m = xs.length ∧ acc = List.replicate i (.bl true) ∧ S1 = put S p (.lst acc)) ?_ ?_ _ _ _ ⟨0, xs.length, by simp, by simp, rfl, rfl⟩
    · rintro acc S1 ⟨i, m, hr, hm, rfl, rfl⟩
      refine ⟨trivial, ?_⟩
      rw [compEnd_F, rem_put hp]
      have : m = 0 := by
        cases m with
        | zero => rfl
        | succ m => rw [rng_cons] at hr; cases hr
      subst this
      rw [v_all (all_true _), rep_all]
      exact fin_ok hq
    · rintro x r acc S1 ⟨i, m, hr, hm, rfl, rfl⟩ ih
      cases m with
      | zero => rw [rng_zero] at hr; cases hr
      | succ m =>
        rw [rng_cons] at hr
        cases hr
        refine ⟨trivial, ?_⟩
        obtain ⟨x, hm1, hm2⟩ := at_mem (xs := xs) (k := i) (by omega)
        simp only [if_pos, List.set_cons_zero, List.set_cons_succ, look_zero, look_succ, v_idx_tup, v_idx_vls, hm2]
        refine h1.call rfl ⟨x, rfl, hx x hm1, ?_⟩
        refine ⟨put_same, by rw [List.length_replicate]; unfold sizeL; omega, ?_⟩
        rw [put_put]
        exact ih _ _ ⟨i + 1, m, by rw [Int.natCast_add]; rfl, by omega, by rw [List.replicate_succ'], rfl⟩
  case vls xs =>
    simp only [nice, Bool.and_eq_true, decide_eq_true_eq] at hx
    have hl := hx.1
    have hx := nices_mem hx.2
    simp -implicitDefEqProofs only [wpSs, wpS, wpE, wpEs, wpO, wpC, wpT, wpTs, wpI, look_zero, look_succ, whenB_some, startD, List.set_cons_zero, List.set_cons_succ, at_eq, nxt_nx, nxt_rt, nxt_bk, nxt_ct, nxt_ex, loop_nx, loop_rt, loop_bk, loop_ct, loop_ex, exc_nx, exc_rt, exc_bk, exc_ct, exc_ex, List.nil_append, List.cons_append, List.length_cons, List.length_nil, Nat.reduceAdd, v_add_int, v_add_str, v_add_tup, v_add_vls, v_sub, v_mul, v_div, v_mod, v_pow, v_aadd, v_asub, v_aadds, v_cLt, v_cLtE, v_cGt, v_cGtE, v_cEq, v_cNe, v_cEqS, v_cNeS, v_cEqB, v_cNeB, v_is, v_isnt, v_isN_non, v_isN_bl, v_isN_int, v_isN_str, v_isN_tup, v_isN_vls, v_isN_scr, v_isN_loc, v_t_non, v_t_bl, v_t_int, v_t_tup, v_t_vls, v_len_tup, v_list_tup, v_listM_tup, v_tuple_tup, v_idx_tup, v_src_tup, v_len_vls, v_list_vls, v_listM_vls, v_tuple_vls, v_idx_vls, v_src_vls, v_len_scr, v_list_scr, v_listM_scr, v_tuple_scr, v_idx_scr, v_src_scr, v_sli_tup, v_sli_vls, v_sli_scr, v_abs, v_int, v_intb, v_max, v_min, v_i_non_int, v_i_non_bool, v_i_non_str, v_i_non_tuple, v_i_non_list, v_i_non_tl, v_i_bl_int, v_i_bl_bool, v_i_bl_str, v_i_bl_tuple, v_i_bl_list, v_i_bl_tl, v_i_int_int, v_i_int_bool, v_i_int_str, v_i_int_tuple, v_i_int_list, v_i_int_tl, v_i_str_int, v_i_str_bool, v_i_str_str, v_i_str_tuple, v_i_str_list, v_i_str_tl, v_i_tup_int, v_i_tup_bool, v_i_tup_str, v_i_tup_tuple, v_i_tup_list, v_i_tup_tl, v_i_vls_int, v_i_vls_bool, v_i_vls_str, v_i_vls_tuple, v_i_vls_list, v_i_vls_tl, v_i_scr_int, v_i_scr_bool, v_i_scr_str, v_i_scr_tuple, v_i_scr_list, v_i_scr_tl, v_range1, v_range2, v_newF, v_newT, at0, at1, at2, at3, at4, at5, eq_self, decide_true, wipe, List.foldl_cons, List.foldl_nil, List.any_cons, List.contains_cons, beq_self_eq_true, Bool.or_true, Bool.true_or]
    refine br_true (br_true ?_)
    refine ⟨by omega, by omega, ?_⟩
    intro p hp
    refine comp_ind (fun r acc S1 => ∃ (i m : Nat), r = rngD (i : Int) m ∧ i + m = xs.length ∧ acc = List.replicate i (.bl true) ∧ S1 = put S p (.lst acc)) ?_ ?_ _ _ _ ⟨0, xs.length, by simp, by simp, rfl, rfl⟩
    · rintro acc S1 ⟨i, m, hr, hm, rfl, rfl⟩
      refine ⟨trivial, ?_⟩
      rw [compEnd_F, rem_put hp]
      have : m = 0 := by
        cases m with
        | zero => rfl
        | succ m => rw [rng_cons] at hr; cases hr
      subst this
      rw [v_all (all_true _), rep_all]
      exact fin_ok hq
    · rintro x r acc S1 ⟨i, m, hr, hm, rfl, rfl⟩ ih
      cases m with
      | zero => rw [rng_zero] at hr; cases hr
      | succ m =>
        rw [rng_cons] at hr
        cases hr
        refine ⟨trivial, ?_⟩
        obtain ⟨x, hm1, hm2⟩ := at_mem (xs := xs) (k := i) (by omega)
        simp only [if_pos, List.set_cons_zero, List.set_cons_succ, look_zero, look_succ, v_idx_tup, v_idx_vls, hm2]
        refine h1.call rfl ⟨x, rfl, hx x hm1, ?_⟩
        refine ⟨put_same, by rw [List.length_replicate]; unfold sizeL; omega, ?_⟩
        rw [put_put]
        exact ih _ _ ⟨i + 1, m, by rw [Int.natCast_add]; rfl, by omega, by rw [List.replicate_succ'], rfl⟩
  case scr xs => simp [nice] at hx
  case loc a => simp [notLoc] at hk
  case non => exact fin_ok hq
  all_goals
    simp -implicitDefEqProofs only [wpSs, wpS, wpE, wpEs, wpO, wpC, wpT, wpTs, wpI, look_zero, look_succ, whenB_some, startD, List.set_cons_zero, List.set_cons_succ, at_eq, nxt_nx, nxt_rt, nxt_bk, nxt_ct, nxt_ex, loop_nx, loop_rt, loop_bk, loop_ct, loop_ex, exc_nx, exc_rt, exc_bk, exc_ct, exc_ex, List.nil_append, List.cons_append, List.length_cons, List.length_nil, Nat.reduceAdd, v_add_int, v_add_str, v_add_tup, v_add_vls, v_sub, v_mul, v_div, v_mod, v_pow, v_aadd, v_asub, v_aadds, v_cLt, v_cLtE, v_cGt, v_cGtE, v_cEq, v_cNe, v_cEqS, v_cNeS, v_cEqB, v_cNeB, v_is, v_isnt, v_isN_non, v_isN_bl, v_isN_int, v_isN_str, v_isN_tup, v_isN_vls, v_isN_scr, v_isN_loc, v_t_non, v_t_bl, v_t_int, v_t_tup, v_t_vls, v_len_tup, v_list_tup, v_listM_tup, v_tuple_tup, v_idx_tup, v_src_tup, v_len_vls, v_list_vls, v_listM_vls, v_tuple_vls, v_idx_vls, v_src_vls, v_len_scr, v_list_scr, v_listM_scr, v_tuple_scr, v_idx_scr, v_src_scr, v_sli_tup, v_sli_vls, v_sli_scr, v_abs, v_int, v_intb, v_max, v_min, v_i_non_int, v_i_non_bool, v_i_non_str, v_i_non_tuple, v_i_non_list, v_i_non_tl, v_i_bl_int, v_i_bl_bool, v_i_bl_str, v_i_bl_tuple, v_i_bl_list, v_i_bl_tl, v_i_int_int, v_i_int_bool, v_i_int_str, v_i_int_tuple, v_i_int_list, v_i_int_tl, v_i_str_int, v_i_str_bool, v_i_str_str, v_i_str_tuple, v_i_str_list, v_i_str_tl, v_i_tup_int, v_i_tup_bool, v_i_tup_str, v_i_tup_tuple, v_i_tup_list, v_i_tup_tl, v_i_vls_int, v_i_vls_bool, v_i_vls_str, v_i_vls_tuple, v_i_vls_list, v_i_vls_tl, v_i_scr_int, v_i_scr_bool, v_i_scr_str, v_i_scr_tuple, v_i_scr_list, v_i_scr_tl, v_range1, v_range2, v_newF, v_newT, at0, at1, at2, at3, at4, at5, eq_self, decide_true]
    exact fin_ok hq
theorem alike_zero : ∀ ds S Q E, sp_alike 0 ds S Q E → False := by
  rintro _ S Q E ⟨x, rfl, hx, hq⟩
  simp [nice] at hx
end XC.Kk05
end

section
set_option Elab.async false
set_option linter.all false
set_option maxRecDepth 100000
set_option exponentiation.threshold 100000
namespace XC.Kk05
open PySem
def T (l : List Nat) : Str := ⟨l.toArray⟩
theorem T_len {l : List Nat} : (T l).length = l.length := List.size_toArray ..
theorem T_list {l : List Nat} : (T l).cps.toList = l := rfl
theorem T_add {a b : List Nat} : T a ++ T b = T (a ++ b) := by
  show (⟨a.toArray ++ b.toArray⟩ : Str) = ⟨(a ++ b).toArray⟩
  congr 1; simp
theorem T_inj {a b : List Nat} (h : T a = T b) : a = b := by
  have := congrArg (fun s : Str => s.cps.toList) h
  exact this
theorem str_T (s : Str) : s = T s.cps.toList := by
  cases s with
  | mk c => show (⟨c⟩ : Str) = ⟨c.toList.toArray⟩; simp
theorem T_eq {a b : List Nat} : decide (T a = T b) = decide (a = b) := decide_eq_decide.mpr ⟨T_inj, fun h => by rw [h]⟩
theorem e_empty : Str.ofString "" = T [] := by decide +kernel
theorem e_minus : Str.ofString "-" = T [45] := by decide +kernel
theorem e_slash : Str.ofString "/" = T [47] := by decide +kernel
theorem e_zero : Str.ofString "0" = T [48] := by decide +kernel
theorem e_one : Str.ofString "1" = T [49] := by decide +kernel
theorem e_digits : Str.ofString "0123456789" = T [48, 49, 50, 51, 52, 53, 54, 55, 56, 57] := by decide +kernel
def sgL (b : Bool) : List Nat := if b then [45] else []
def numT (i : Int) : List Nat := sgL (decide (i < 0)) ++ TL.numL i.natAbs
theorem str_num (i : Int) : Str.ofString (toString i) = T (numT i) := by
  cases i with
  | ofNat n =>
    rw [str_T (Str.ofString (toString (Int.ofNat n)))]
    have : (Str.ofString (toString (Int.ofNat n))).cps.toList = TL.numL n := TL.tl_num n
    rw [this]
    have e : numT (Int.ofNat n) = TL.numL n := by
      unfold numT sgL
      rw [decide_eq_false (by simp)]; rfl
    rw [e]
  | negSucc m =>
    have e1 : toString (Int.negSucc m) = "-" ++ toString ((m + 1 : Nat) : Int) := rfl
    rw [str_T (Str.ofString (toString (Int.negSucc m))), e1]
    have h1 : (Str.ofString ("-" ++ toString ((m + 1 : Nat) : Int))).cps.toList = [45] ++ TL.numL (m + 1) := by
      have a := TL.tl_ofString ("-" ++ toString ((m + 1 : Nat) : Int))
      rw [String.toList_append, List.map_append, ← TL.tl_ofString (toString ((m + 1 : Nat) : Int)), TL.tl_num] at a
      exact a
    rw [h1]
    have e : numT (Int.negSucc m) = [45] ++ TL.numL (m + 1) := by
      unfold numT sgL
      rw [decide_eq_true (by omega)]; rfl
    rw [e]
theorem p10 : 2 ^ 1900 < 10 ^ 600 := by decide +kernel
theorem numL_600 {n : Nat} (h : n < 2 ^ 1900) : (TL.numL n).length ≤ 600 := TL.numL_len (by decide) (Nat.lt_trans h p10)
theorem numT_len {i : Int} (h : i.natAbs < 2 ^ 1900) : (numT i).length ≤ 601 := by
  unfold numT sgL
  rw [List.length_append]
  have := numL_600 h
  split <;> simp <;> omega
theorem lg {n : Nat} (h : n < 2 ^ 1900) : n.log2 < 1920 := Nat.lt_trans (log_of h (by decide)) (by decide)
def Dg (c : Nat) : Prop := 48 ≤ c ∧ c ≤ 57
theorem dg_mem {c : Nat} : (c ∈ [48, 49, 50, 51, 52, 53, 54, 55, 56, 57]) ↔ Dg c := by
  unfold Dg
  simp only [List.mem_cons, List.not_mem_nil, or_false]
  omega
theorem cut_one (l : List Nat) (i : Nat) : cut l (some (i : Int)) (some ((i : Int) + 1)) = (l.drop i).take 1 := by
  have h1 : ¬ ((i : Int) < 0) := by omega
  have h2 : ¬ ((i : Int) + 1 < 0) := by omega
  simp only [cut, sIx, if_neg h1, if_neg h2, Int.toNat_natCast]
  rw [show ((i : Int) + 1).toNat = i + 1 by omega]
  by_cases h : i < l.length
  · rw [Nat.min_eq_left (by omega), Nat.min_eq_left (by omega), show i + 1 - i = 1 by omega]
  · rw [Nat.min_eq_right (by omega), Nat.min_eq_right (by omega), Nat.sub_self, List.drop_of_length_le (by omega), List.drop_of_length_le (by omega)]
    rfl
theorem sli_T {S : Store} {l : List Nat} {lo hi : Option Int} (h : l.length ≤ 2000) : sliD S (.str (T l)) lo hi = some (.str (T (cut l lo hi))) := by
  show (if (T l).length ≤ sizeL then some (D.str ⟨(cut (T l).cps.toList lo hi).toArray⟩) else none) = _
  rw [T_len, if_pos (le_sl (by omega))]; rfl
theorem idx_T {S : Store} {l : List Nat} {i : Nat} {c : Nat} (h : l.length ≤ 2000) (hc : l[i]? = some c) : idxD S (.str (T l)) (.int i) = some (.str (T [c])) := by
  show (if (T l).length ≤ sizeL then (atI (T l).cps.toList (i : Int)).map fun c => D.str ⟨#[c]⟩ else none) = _
  rw [T_len, if_pos (le_sl (by omega)), T_list, atk hc]; rfl
theorem in_T {S : Store} {c : Nat} {l : List Nat} : cmpD S .In (.str (T [c])) (.str (T l)) = some (decide (c ∈ l)) := rfl
theorem numL_dg {n c : Nat} (h : c ∈ TL.numL n) : Dg c := TL.numL_digits n c h
theorem digI_num (n : Nat) : digI (TL.numL n) = some n := by
  unfold digI
  rw [if_pos ⟨TL.numL_ne n, TL.numL_digits n⟩]
  exact congrArg some (TL.numL_val n)
theorem intD_num (i : Int) : intD (T (numT i)) = some i := by
  unfold intD
  rw [T_list]
  unfold numT sgL
  by_cases h : i < 0
  · rw [decide_eq_true h, if_pos rfl]
    show ((digI (TL.numL i.natAbs)).map fun n => -(n : Int)) = some i
    rw [digI_num]
    show some (-(i.natAbs : Int)) = some i
    congr 1; omega
  · rw [decide_eq_false h, if_neg Bool.false_ne_true, List.nil_append]
    cases hc : TL.numL i.natAbs with
    | nil => exact absurd hc (TL.numL_ne _)
    | cons c t =>
      have hd : Dg c := numL_dg (n := i.natAbs) (by rw [hc]; simp)
      have : c ≠ 45 := by unfold Dg at hd; omega
      split
      · rename_i cs e
        injection e with e1 _
        exact absurd e1 this
      · rw [← hc, digI_num]
        show some ((i.natAbs : Nat) : Int) = some i
        congr 1; omega
theorem intD_den (n : Nat) : intD (T (TL.numL n)) = some (n : Int) := by
  have := intD_num (n : Int)
  have e : numT (n : Int) = TL.numL n := by
    unfold numT sgL
    rw [decide_eq_false (by omega)]; rfl
  rw [e] at this; exact this
theorem cut_to (l : List Nat) (i : Nat) : cut l none (some (i : Int)) = l.take i := by
  have h1 : ¬ ((i : Int) < 0) := by omega
  simp only [cut, sIx, if_neg h1, Int.toNat_natCast, List.drop_zero, Nat.sub_zero]
  rw [List.take_eq_take_iff]; omega
theorem cut_from (l : List Nat) (i : Nat) : cut l (some (i : Int)) none = l.drop i := by
  have h1 : ¬ ((i : Int) < 0) := by omega
  simp only [cut, sIx, if_neg h1, Int.toNat_natCast]
  by_cases h : i ≤ l.length
  · rw [Nat.min_eq_left h]
    exact List.take_of_length_le (by rw [List.length_drop]; omega)
  · rw [Nat.min_eq_right (by omega), Nat.sub_self, List.take_zero, List.drop_of_length_le (by omega)]
theorem len_T {S : Store} {Q : QE} {l : List Nat} (h : l.length ≤ 2000) : bltW .len [.str (T l)] S Q = Q (.int l.length) S := by
  show (match lenD S (.str (T l)) with | some n => Q (.int n) S | none => False) = _
  have : lenD S (.str (T l)) = some l.length := by
    show (if (T l).length ≤ sizeL then some (T l).length else none) = _
    rw [T_len, if_pos (le_sl (by omega))]
  rw [this]
theorem sg_len (b : Bool) : (sgL b).length = if b then 1 else 0 := by cases b <;> rfl
instance (c : Nat) : Decidable (Dg c) := by unfold Dg; infer_instance
def isDg (c : Nat) : Bool := decide (Dg c)
theorem dig_find (c : Nat) : findC (T [48, 49, 50, 51, 52, 53, 54, 55, 56, 57]) c = if Dg c then ((c - 48 : Nat) : Int) else -1 := by
  unfold findC
  rw [T_list]
  by_cases h : Dg c
  · rw [if_pos h]
    have h10 : c = 48 ∨ c = 49 ∨ c = 50 ∨ c = 51 ∨ c = 52 ∨ c = 53 ∨ c = 54 ∨ c = 55 ∨ c = 56 ∨ c = 57 := by unfold Dg at h; omega
    rcases h10 with rfl | rfl | rfl | rfl | rfl | rfl | rfl | rfl | rfl | rfl <;> rfl
  · rw [if_neg h]
    have e : List.findIdx? (fun x => x == c) [48, 49, 50, 51, 52, 53, 54, 55, 56, 57] = none := by
      rw [List.findIdx?_eq_none_iff]
      intro x hx
      have hn : x ≠ c := fun z => h (dg_mem.mp (z ▸ hx))
      simpa using hn
    rw [e]
inductive Ph where
  | beg | min | nou | top | str | bot
  deriving DecidableEq
def phS : Ph → Str
  | .beg => Str.ofString "begin"
  | .min => Str.ofString "minus"
  | .nou => Str.ofString "nought"
  | .top => Str.ofString "top"
  | .str => Str.ofString "stroke"
  | .bot => Str.ofString "bottom"
theorem phS_eq (a b : Ph) : decide (phS a = phS b) = decide (a = b) := by cases a <;> cases b <;> decide +kernel
structure Rs where
  ph : Ph
  t : Nat
  b : Nat
  s : Int
/-- one sign more -/
def stp (r : Rs) (c : Nat) : Option Rs := match r.ph with
  | .beg => if c = 45 then some ⟨.min, r.t, r.b, -1⟩ else if c = 48 then some ⟨.nou, r.t, r.b, r.s⟩ else if Dg c then some ⟨.top, c - 48, r.b, r.s⟩ else none
  | .min => if Dg c ∧ c ≠ 48 then some ⟨.top, c - 48, r.b, r.s⟩ else none
  | .nou => none
  | .top => if Dg c then some ⟨.top, r.t * 10 + (c - 48), r.b, r.s⟩ else if c = 47 then some ⟨.str, r.t, r.b, r.s⟩ else none
  | .str => if Dg c ∧ c ≠ 48 then some ⟨.bot, r.t, c - 48, r.s⟩ else none
  | .bot => if Dg c then some ⟨.bot, r.t, r.b * 10 + (c - 48), r.s⟩ else none
/-- what is told at the end -/
def finR (r : Rs) (n : Nat) : Sum (Int × Int) Nat := match r.ph with
  | .nou => .inl (0, 1)
  | .top => .inl (r.s * r.t, 1)
  | .bot => if 1 < r.b ∧ Nat.gcd r.t r.b = 1 then .inl (r.s * r.t, r.b) else .inr n
  | _ => .inr n
def rd : Rs → Nat → List Nat → Sum (Int × Int) Nat
  | r, i, [] => finR r i
  | r, i, c :: l => match stp r c with
    | some r' => rd r' (i + 1) l
    | none => .inr i
def rdT (l : List Nat) : Sum (Int × Int) Nat := rd ⟨.beg, 0, 0, 1⟩ 0 l
def resD : Sum (Int × Int) Nat → D
  | .inl (a, b) => .tup [.int a, .int b]
  | .inr i => .vls [.int (i : Int)]
theorem T1_eq {a b : Nat} : decide (T [a] = T [b]) = decide (a = b) := by rw [T_eq]; exact decide_eq_decide.mpr (by simp)
def dv (c : Nat) : Int := if Dg c then ((c - 48 : Nat) : Int) else -1
theorem dv0 (c : Nat) : decide (dv c = 0) = decide (c = 48) := by
  unfold dv
  split
  · rename_i h; unfold Dg at h; exact decide_eq_decide.mpr (by omega)
  · rename_i h; unfold Dg at h; exact decide_eq_decide.mpr (by omega)
theorem dvp (c : Nat) : decide (0 < dv c) = decide (Dg c ∧ c ≠ 48) := by
  unfold dv
  split
  · rename_i h; refine decide_eq_decide.mpr ⟨fun g => ⟨h, by omega⟩, fun ⟨_, g⟩ => ?_⟩; unfold Dg at h; omega
  · rename_i h; exact decide_eq_decide.mpr ⟨fun g => by omega, fun ⟨g, _⟩ => absurd g h⟩
theorem dvn (c : Nat) : decide (0 ≤ dv c) = decide (Dg c) := by
  unfold dv
  split
  · rename_i h; exact decide_eq_decide.mpr ⟨fun _ => h, fun _ => by omega⟩
  · rename_i h; exact decide_eq_decide.mpr ⟨fun g => by omega, fun g => absurd g h⟩
theorem dvi {c : Nat} (h : Dg c) : dv c = ((c - 48 : Nat) : Int) := if_pos h
abbrev rEnv (l : List Nat) (y1 : Option D) (r : Rs) (y6 : Option D) : Env := [some (.str (T l)), y1, some (.str (phS r.ph)), some (.int r.t), some (.int r.b), some (.int r.s), y6]
theorem v_find {a : Str} {c : Nat} {Q : D → Prop} : findW (.str a) (.str (T [c])) Q = Q (.int (findC a c)) := rfl
theorem w_read6 {Γ : Ctx} {P : Post} {l : List Nat} {i c : Nat} {r : Rs} {S : Store} {y6 : Option D} (hl : l.length ≤ 2000) (hc : l[i]? = some c) (hn : ∀ r' y6, stp r c = some r' → P.nx (rEnv l (some (.int i)) r' y6) S) (hr : stp r c = none → P.rt (.vls [.int i]) S) :
    wpSs Γ t_L_read_6 P (rEnv l (some (.int i)) r y6) S := by
  have pb : Str.ofString "begin" = phS .beg := rfl
  have pm : Str.ofString "minus" = phS .min := rfl
  have pn : Str.ofString "nought" = phS .nou := rfl
  have pt : Str.ofString "top" = phS .top := rfl
  have ps : Str.ofString "stroke" = phS .str := rfl
  have po : Str.ofString "bottom" = phS .bot := rfl
  have dd : findC (T [48, 49, 50, 51, 52, 53, 54, 55, 56, 57]) c = dv c := dig_find c
  unfold t_L_read_6
  simp -implicitDefEqProofs only [wpSs, wpS, wpE, wpEs, wpO, wpC, wpT, wpTs, wpI, look_zero, look_succ, whenB_some, startD, List.set_cons_zero, List.set_cons_succ, at_eq, nxt_nx, nxt_rt, nxt_bk, nxt_ct, nxt_ex, loop_nx, loop_rt, loop_bk, loop_ct, loop_ex, exc_nx, exc_rt, exc_bk, exc_ct, exc_ex, List.nil_append, List.cons_append, List.length_cons, List.length_nil, Nat.reduceAdd, v_add_int, v_add_str, v_add_tup, v_add_vls, v_sub, v_mul, v_div, v_mod, v_pow, v_aadd, v_asub, v_aadds, v_cLt, v_cLtE, v_cGt, v_cGtE, v_cEq, v_cNe, v_cEqS, v_cNeS, v_cEqB, v_cNeB, v_is, v_isnt, v_isN_non, v_isN_bl, v_isN_int, v_isN_str, v_isN_tup, v_isN_vls, v_isN_scr, v_isN_loc, v_t_non, v_t_bl, v_t_int, v_t_tup, v_t_vls, v_len_tup, v_list_tup, v_listM_tup, v_tuple_tup, v_idx_tup, v_src_tup, v_len_vls, v_list_vls, v_listM_vls, v_tuple_vls, v_idx_vls, v_src_vls, v_len_scr, v_list_scr, v_listM_scr, v_tuple_scr, v_idx_scr, v_src_scr, v_sli_tup, v_sli_vls, v_sli_scr, v_abs, v_int, v_intb, v_max, v_min, v_i_non_int, v_i_non_bool, v_i_non_str, v_i_non_tuple, v_i_non_list, v_i_non_tl, v_i_bl_int, v_i_bl_bool, v_i_bl_str, v_i_bl_tuple, v_i_bl_list, v_i_bl_tl, v_i_int_int, v_i_int_bool, v_i_int_str, v_i_int_tuple, v_i_int_list, v_i_int_tl, v_i_str_int, v_i_str_bool, v_i_str_str, v_i_str_tuple, v_i_str_list, v_i_str_tl, v_i_tup_int, v_i_tup_bool, v_i_tup_str, v_i_tup_tuple, v_i_tup_list, v_i_tup_tl, v_i_vls_int, v_i_vls_bool, v_i_vls_str, v_i_vls_tuple, v_i_vls_list, v_i_vls_tl, v_i_scr_int, v_i_scr_bool, v_i_scr_str, v_i_scr_tuple, v_i_scr_list, v_i_scr_tl, v_range1, v_range2, v_newF, v_newT, at0, at1, at2, at3, at4, at5, sl0, sl1, sl2, sl3, sl4, sl5, sl6, sl7, sl8, true_and, eq_self, e_digits, idx_T hl hc, isStrD, v_find]
  rw [dd]
  unfold t_L_read_5
  obtain ⟨ph, t, b, s⟩ := r
  simp -implicitDefEqProofs only [wpSs, wpS, wpE, wpEs, wpO, wpC, wpT, wpTs, wpI, look_zero, look_succ, whenB_some, startD, List.set_cons_zero, List.set_cons_succ, at_eq, nxt_nx, nxt_rt, nxt_bk, nxt_ct, nxt_ex, loop_nx, loop_rt, loop_bk, loop_ct, loop_ex, exc_nx, exc_rt, exc_bk, exc_ct, exc_ex, List.nil_append, List.cons_append, List.length_cons, List.length_nil, Nat.reduceAdd, v_add_int, v_add_str, v_add_tup, v_add_vls, v_sub, v_mul, v_div, v_mod, v_pow, v_aadd, v_asub, v_aadds, v_cLt, v_cLtE, v_cGt, v_cGtE, v_cEq, v_cNe, v_cEqS, v_cNeS, v_cEqB, v_cNeB, v_is, v_isnt, v_isN_non, v_isN_bl, v_isN_int, v_isN_str, v_isN_tup, v_isN_vls, v_isN_scr, v_isN_loc, v_t_non, v_t_bl, v_t_int, v_t_tup, v_t_vls, v_len_tup, v_list_tup, v_listM_tup, v_tuple_tup, v_idx_tup, v_src_tup, v_len_vls, v_list_vls, v_listM_vls, v_tuple_vls, v_idx_vls, v_src_vls, v_len_scr, v_list_scr, v_listM_scr, v_tuple_scr, v_idx_scr, v_src_scr, v_sli_tup, v_sli_vls, v_sli_scr, v_abs, v_int, v_intb, v_max, v_min, v_i_non_int, v_i_non_bool, v_i_non_str, v_i_non_tuple, v_i_non_list, v_i_non_tl, v_i_bl_int, v_i_bl_bool, v_i_bl_str, v_i_bl_tuple, v_i_bl_list, v_i_bl_tl, v_i_int_int, v_i_int_bool, v_i_int_str, v_i_int_tuple, v_i_int_list, v_i_int_tl, v_i_str_int, v_i_str_bool, v_i_str_str, v_i_str_tuple, v_i_str_list, v_i_str_tl, v_i_tup_int, v_i_tup_bool, v_i_tup_str, v_i_tup_tuple, v_i_tup_list, v_i_tup_tl, v_i_vls_int, v_i_vls_bool, v_i_vls_str, v_i_vls_tuple, v_i_vls_list, v_i_vls_tl, v_i_scr_int, v_i_scr_bool, v_i_scr_str, v_i_scr_tuple, v_i_scr_list, v_i_scr_tl, v_range1, v_range2, v_newF, v_newT, at0, at1, at2, at3, at4, at5, sl0, sl1, sl2, sl3, sl4, sl5, sl6, sl7, sl8, true_and, eq_self, pb, pm, pn, pt, ps, po, idx_T hl hc, e_minus, e_slash, T1_eq, phS_eq, dv0, dvp, dvn]
  cases ph <;> simp only [reduceCtorEq, decide_false, decide_true, br_T, br_F]
  all_goals unfold stp at hn hr
  all_goals try dsimp only at hn hr
  · refine br_dec (fun h => ?_) fun h => ?_
    · rw [if_pos h] at hn; exact ⟨rfl, hn _ _ rfl⟩
    rw [if_neg h] at hn hr
    refine br_dec (fun h2 => ?_) fun h2 => ?_
    · rw [if_pos h2] at hn; exact hn _ _ rfl
    rw [if_neg h2] at hn hr
    refine br_dec (fun h3 => ?_) fun h3 => ?_
    · rw [if_pos h3.1] at hn; rw [dvi h3.1]; exact hn _ _ rfl
    rw [if_neg (fun z => h3 ⟨z, h2⟩)] at hr
    exact hr rfl
  · refine br_dec (fun h => ?_) fun h => ?_
    · rw [if_pos h] at hn; rw [dvi h.1]; exact hn _ _ rfl
    rw [if_neg h] at hr
    exact hr rfl
  · exact hr rfl
  · refine br_dec (fun h => ?_) fun h => ?_
    · rw [if_pos h] at hn
      refine ⟨.right (by decide) (by decide), ?_⟩
      have := hn _ (some (.int (dv c))) rfl
      rw [dvi h] at this ⊢
      simpa [rEnv, Int.natCast_add, Int.natCast_mul] using this
    rw [if_neg h] at hn hr
    refine br_dec (fun h2 => ?_) fun h2 => ?_
    · rw [if_pos h2] at hn; exact hn _ _ rfl
    rw [if_neg h2] at hr
    exact hr rfl
  · refine br_dec (fun h => ?_) fun h => ?_
    · rw [if_pos h] at hn; rw [dvi h.1]; exact hn _ _ rfl
    rw [if_neg h] at hr
    exact hr rfl
  · refine br_dec (fun h => ?_) fun h => ?_
    · rw [if_pos h] at hn
      refine ⟨.right (by decide) (by decide), ?_⟩
      have := hn _ (some (.int (dv c))) rfl
      rw [dvi h] at this ⊢
      simpa [rEnv, Int.natCast_add, Int.natCast_mul] using this
    rw [if_neg h] at hr
    exact hr rfl
def SgR (r : Rs) : Prop := r.s = 1 ∨ r.s = -1
theorem stp_s {r r' : Rs} {c : Nat} (h : SgR r) (e : stp r c = some r') : SgR r' := by
  unfold stp at e
  unfold SgR at *
  repeat' (split at e)
  all_goals first
    | (cases e; done)
    | (cases e; first | exact h | exact .inr rfl)
theorem stp_b {r r' : Rs} {c n : Nat} (h : r.b < 10 ^ n) (e : stp r c = some r') : r'.b < 10 ^ (n + 1) := by
  have hp : (10 : Nat) ^ (n + 1) = 10 * 10 ^ n := by rw [Nat.pow_succ, Nat.mul_comm]
  have hp1 : 0 < (10 : Nat) ^ n := Nat.pow_pos (by decide)
  unfold stp at e
  repeat' (split at e)
  all_goals first
    | (cases e; done)
    | (cases e; dsimp only; omega)
    | (rename_i hd; cases e; dsimp only; have := hd; unfold Dg at this; omega)
theorem p10_1000 {n : Nat} (h : n ≤ 110) : (10 : Nat) ^ n < 2 ^ 400 := Nat.lt_of_le_of_lt (Nat.pow_le_pow_right (by decide) h) (by decide +kernel)
theorem eq_tup2 {S : Store} {a b c d : Int} : cmpD S .Eq (.tup [.int a, .int b]) (.tup [.int c, .int d]) = some (decide (a = c) && decide (b = d)) := by
  have h : cmpD S .Eq (.tup [.int a, .int b]) (.tup [.int c, .int d]) = some ((a == c) && ((b == d) && true)) := rfl
  rw [h, Bool.and_true]; rfl
theorem low_same {t b : Nat} (hb : 1 < b) : (decide ((t : Int).fdiv (Int.gcd t b) = t) && decide ((b : Int).fdiv (Int.gcd t b) = b)) = decide (Nat.gcd t b = 1) := by
  have e1 : Int.gcd (t : Int) (b : Int) = Nat.gcd t b := rfl
  rw [e1]
  by_cases h : Nat.gcd t b = 1
  · rw [decide_eq_true h, show ((Nat.gcd t b : Nat) : Int) = 1 by omega]; simp
  · rw [decide_eq_false h]
    have hg : 2 ≤ Nat.gcd t b := by
      have : 0 < Nat.gcd t b := Nat.gcd_pos_of_pos_right _ (by omega)
      omega
    have hn : ¬ ((b : Int).fdiv (Nat.gcd t b : Int) = b) := by
      intro e
      have e2 : (b : Int).fdiv (Nat.gcd t b : Int) = ((b / Nat.gcd t b : Nat) : Int) := by
        rw [Int.fdiv_eq_ediv_of_nonneg _ (by omega)]; rfl
      rw [e2] at e
      have := Nat.div_lt_self (n := b) (by omega) hg
      omega
    rw [decide_eq_false hn, Bool.and_false]
def sp_read : Spec := fun ds S Q _ => (∃ l, ds = [.str (T l)] ∧ l.length ≤ 110 ∧ Q (resD (rdT l)) S) ∨ (∃ d, ds = [d] ∧ isiD S d [.str] = some false ∧ Q (.vls [.int 0]) S)
theorem w_L_read {Γ : Ctx} (h1 : Has Γ f_L_low 2 (sp_low 9000)) : ∀ ds S Q E, sp_read ds S Q E → wpFn Γ c_L_read ds S Q E := by
  rintro _ S0 Q E (⟨l, rfl, hl, hq⟩ | ⟨d, rfl, hd, hq⟩)
  · have hl2 : l.length ≤ 2000 := by omega
    have pb : Str.ofString "begin" = phS .beg := rfl
    have pm : Str.ofString "minus" = phS .min := rfl
    have pn : Str.ofString "nought" = phS .nou := rfl
    have pt : Str.ofString "top" = phS .top := rfl
    have po : Str.ofString "bottom" = phS .bot := rfl
    unfold wpFn c_L_read t_L_read_9
    simp -implicitDefEqProofs only [wpSs, wpS, wpE, wpEs, wpO, wpC, wpT, wpTs, wpI, look_zero, look_succ, whenB_some, startD, List.set_cons_zero, List.set_cons_succ, at_eq, nxt_nx, nxt_rt, nxt_bk, nxt_ct, nxt_ex, loop_nx, loop_rt, loop_bk, loop_ct, loop_ex, exc_nx, exc_rt, exc_bk, exc_ct, exc_ex, List.nil_append, List.cons_append, List.length_cons, List.length_nil, Nat.reduceAdd, v_add_int, v_add_str, v_add_tup, v_add_vls, v_sub, v_mul, v_div, v_mod, v_pow, v_aadd, v_asub, v_aadds, v_cLt, v_cLtE, v_cGt, v_cGtE, v_cEq, v_cNe, v_cEqS, v_cNeS, v_cEqB, v_cNeB, v_is, v_isnt, v_isN_non, v_isN_bl, v_isN_int, v_isN_str, v_isN_tup, v_isN_vls, v_isN_scr, v_isN_loc, v_t_non, v_t_bl, v_t_int, v_t_tup, v_t_vls, v_len_tup, v_list_tup, v_listM_tup, v_tuple_tup, v_idx_tup, v_src_tup, v_len_vls, v_list_vls, v_listM_vls, v_tuple_vls, v_idx_vls, v_src_vls, v_len_scr, v_list_scr, v_listM_scr, v_tuple_scr, v_idx_scr, v_src_scr, v_sli_tup, v_sli_vls, v_sli_scr, v_abs, v_int, v_intb, v_max, v_min, v_i_non_int, v_i_non_bool, v_i_non_str, v_i_non_tuple, v_i_non_list, v_i_non_tl, v_i_bl_int, v_i_bl_bool, v_i_bl_str, v_i_bl_tuple, v_i_bl_list, v_i_bl_tl, v_i_int_int, v_i_int_bool, v_i_int_str, v_i_int_tuple, v_i_int_list, v_i_int_tl, v_i_str_int, v_i_str_bool, v_i_str_str, v_i_str_tuple, v_i_str_list, v_i_str_tl, v_i_tup_int, v_i_tup_bool, v_i_tup_str, v_i_tup_tuple, v_i_tup_list, v_i_tup_tl, v_i_vls_int, v_i_vls_bool, v_i_vls_str, v_i_vls_tuple, v_i_vls_list, v_i_vls_tl, v_i_scr_int, v_i_scr_bool, v_i_scr_str, v_i_scr_tuple, v_i_scr_list, v_i_scr_tl, v_range1, v_range2, v_newF, v_newT, at0, at1, at2, at3, at4, at5, sl0, sl1, sl2, sl3, sl4, sl5, sl6, sl7, sl8, true_and, eq_self, Bool.not_true]
    refine br_false ?_
    unfold t_L_read_8
    simp -implicitDefEqProofs only [wpSs, wpS, wpE, wpEs, wpO, wpC, wpT, wpTs, wpI, look_zero, look_succ, whenB_some, startD, List.set_cons_zero, List.set_cons_succ, at_eq, nxt_nx, nxt_rt, nxt_bk, nxt_ct, nxt_ex, loop_nx, loop_rt, loop_bk, loop_ct, loop_ex, exc_nx, exc_rt, exc_bk, exc_ct, exc_ex, List.nil_append, List.cons_append, List.length_cons, List.length_nil, Nat.reduceAdd, v_add_int, v_add_str, v_add_tup, v_add_vls, v_sub, v_mul, v_div, v_mod, v_pow, v_aadd, v_asub, v_aadds, v_cLt, v_cLtE, v_cGt, v_cGtE, v_cEq, v_cNe, v_cEqS, v_cNeS, v_cEqB, v_cNeB, v_is, v_isnt, v_isN_non, v_isN_bl, v_isN_int, v_isN_str, v_isN_tup, v_isN_vls, v_isN_scr, v_isN_loc, v_t_non, v_t_bl, v_t_int, v_t_tup, v_t_vls, v_len_tup, v_list_tup, v_listM_tup, v_tuple_tup, v_idx_tup, v_src_tup, v_len_vls, v_list_vls, v_listM_vls, v_tuple_vls, v_idx_vls, v_src_vls, v_len_scr, v_list_scr, v_listM_scr, v_tuple_scr, v_idx_scr, v_src_scr, v_sli_tup, v_sli_vls, v_sli_scr, v_abs, v_int, v_intb, v_max, v_min, v_i_non_int, v_i_non_bool, v_i_non_str, v_i_non_tuple, v_i_non_list, v_i_non_tl, v_i_bl_int, v_i_bl_bool, v_i_bl_str, v_i_bl_tuple, v_i_bl_list, v_i_bl_tl, v_i_int_int, v_i_int_bool, v_i_int_str, v_i_int_tuple, v_i_int_list, v_i_int_tl, v_i_str_int, v_i_str_bool, v_i_str_str, v_i_str_tuple, v_i_str_list, v_i_str_tl, v_i_tup_int, v_i_tup_bool, v_i_tup_str, v_i_tup_tuple, v_i_tup_list, v_i_tup_tl, v_i_vls_int, v_i_vls_bool, v_i_vls_str, v_i_vls_tuple, v_i_vls_list, v_i_vls_tl, v_i_scr_int, v_i_scr_bool, v_i_scr_str, v_i_scr_tuple, v_i_scr_list, v_i_scr_tl, v_range1, v_range2, v_newF, v_newT, at0, at1, at2, at3, at4, at5, sl0, sl1, sl2, sl3, sl4, sl5, sl6, sl7, sl8, true_and, eq_self, lenTs, pb]
    unfold t_L_read_7
    simp -implicitDefEqProofs only [wpSs, wpS, wpE, wpEs, wpO, wpC, wpT, wpTs, wpI, look_zero, look_succ, whenB_some, startD, List.set_cons_zero, List.set_cons_succ, at_eq, nxt_nx, nxt_rt, nxt_bk, nxt_ct, nxt_ex, loop_nx, loop_rt, loop_bk, loop_ct, loop_ex, exc_nx, exc_rt, exc_bk, exc_ct, exc_ex, List.nil_append, List.cons_append, List.length_cons, List.length_nil, Nat.reduceAdd, v_add_int, v_add_str, v_add_tup, v_add_vls, v_sub, v_mul, v_div, v_mod, v_pow, v_aadd, v_asub, v_aadds, v_cLt, v_cLtE, v_cGt, v_cGtE, v_cEq, v_cNe, v_cEqS, v_cNeS, v_cEqB, v_cNeB, v_is, v_isnt, v_isN_non, v_isN_bl, v_isN_int, v_isN_str, v_isN_tup, v_isN_vls, v_isN_scr, v_isN_loc, v_t_non, v_t_bl, v_t_int, v_t_tup, v_t_vls, v_len_tup, v_list_tup, v_listM_tup, v_tuple_tup, v_idx_tup, v_src_tup, v_len_vls, v_list_vls, v_listM_vls, v_tuple_vls, v_idx_vls, v_src_vls, v_len_scr, v_list_scr, v_listM_scr, v_tuple_scr, v_idx_scr, v_src_scr, v_sli_tup, v_sli_vls, v_sli_scr, v_abs, v_int, v_intb, v_max, v_min, v_i_non_int, v_i_non_bool, v_i_non_str, v_i_non_tuple, v_i_non_list, v_i_non_tl, v_i_bl_int, v_i_bl_bool, v_i_bl_str, v_i_bl_tuple, v_i_bl_list, v_i_bl_tl, v_i_int_int, v_i_int_bool, v_i_int_str, v_i_int_tuple, v_i_int_list, v_i_int_tl, v_i_str_int, v_i_str_bool, v_i_str_str, v_i_str_tuple, v_i_str_list, v_i_str_tl, v_i_tup_int, v_i_tup_bool, v_i_tup_str, v_i_tup_tuple, v_i_tup_list, v_i_tup_tl, v_i_vls_int, v_i_vls_bool, v_i_vls_str, v_i_vls_tuple, v_i_vls_list, v_i_vls_tl, v_i_scr_int, v_i_scr_bool, v_i_scr_str, v_i_scr_tuple, v_i_scr_list, v_i_scr_tl, v_range1, v_range2, v_newF, v_newT, at0, at1, at2, at3, at4, at5, sl0, sl1, sl2, sl3, sl4, sl5, sl6, sl7, sl8, true_and, eq_self, len_T hl2]
    refine ⟨by omega, by omega, ?_⟩
    rw [Int.toNat_natCast]
    refine for_rng (fun i ρ S' => ∃ r y1 y6, ρ = rEnv l y1 r y6 ∧ S' = S0 ∧ SgR r ∧ r.b < 10 ^ i ∧ rdT l = rd r i (l.drop i)) ⟨⟨.beg, 0, 0, 1⟩, none, none, rfl, rfl, .inl rfl, by decide, rfl⟩ ?_ ?_
    · rintro ρ S1 ⟨r, y1, y6, rfl, rfl, hs, hb, he⟩
      refine ⟨trivial, ?_⟩
      rw [List.drop_length] at he
      have he : rdT l = finR r l.length := he
      rw [he] at hq
      have hb' : r.b < 2 ^ 400 := Nat.lt_trans hb (p10_1000 hl)
      obtain ⟨ph, t, b, s⟩ := r
      unfold t_L_read_4
      simp -implicitDefEqProofs only [wpSs, wpS, wpE, wpEs, wpO, wpC, wpT, wpTs, wpI, look_zero, look_succ, whenB_some, startD, List.set_cons_zero, List.set_cons_succ, at_eq, nxt_nx, nxt_rt, nxt_bk, nxt_ct, nxt_ex, loop_nx, loop_rt, loop_bk, loop_ct, loop_ex, exc_nx, exc_rt, exc_bk, exc_ct, exc_ex, List.nil_append, List.cons_append, List.length_cons, List.length_nil, Nat.reduceAdd, v_add_int, v_add_str, v_add_tup, v_add_vls, v_sub, v_mul, v_div, v_mod, v_pow, v_aadd, v_asub, v_aadds, v_cLt, v_cLtE, v_cGt, v_cGtE, v_cEq, v_cNe, v_cEqS, v_cNeS, v_cEqB, v_cNeB, v_is, v_isnt, v_isN_non, v_isN_bl, v_isN_int, v_isN_str, v_isN_tup, v_isN_vls, v_isN_scr, v_isN_loc, v_t_non, v_t_bl, v_t_int, v_t_tup, v_t_vls, v_len_tup, v_list_tup, v_listM_tup, v_tuple_tup, v_idx_tup, v_src_tup, v_len_vls, v_list_vls, v_listM_vls, v_tuple_vls, v_idx_vls, v_src_vls, v_len_scr, v_list_scr, v_listM_scr, v_tuple_scr, v_idx_scr, v_src_scr, v_sli_tup, v_sli_vls, v_sli_scr, v_abs, v_int, v_intb, v_max, v_min, v_i_non_int, v_i_non_bool, v_i_non_str, v_i_non_tuple, v_i_non_list, v_i_non_tl, v_i_bl_int, v_i_bl_bool, v_i_bl_str, v_i_bl_tuple, v_i_bl_list, v_i_bl_tl, v_i_int_int, v_i_int_bool, v_i_int_str, v_i_int_tuple, v_i_int_list, v_i_int_tl, v_i_str_int, v_i_str_bool, v_i_str_str, v_i_str_tuple, v_i_str_list, v_i_str_tl, v_i_tup_int, v_i_tup_bool, v_i_tup_str, v_i_tup_tuple, v_i_tup_list, v_i_tup_tl, v_i_vls_int, v_i_vls_bool, v_i_vls_str, v_i_vls_tuple, v_i_vls_list, v_i_vls_tl, v_i_scr_int, v_i_scr_bool, v_i_scr_str, v_i_scr_tuple, v_i_scr_list, v_i_scr_tl, v_range1, v_range2, v_newF, v_newT, at0, at1, at2, at3, at4, at5, sl0, sl1, sl2, sl3, sl4, sl5, sl6, sl7, sl8, true_and, eq_self, pn, pt, po, phS_eq]
      unfold t_L_read_3 t_L_read_2 t_L_read_1
      simp -implicitDefEqProofs only [wpSs, wpS, wpE, wpEs, wpO, wpC, wpT, wpTs, wpI, look_zero, look_succ, whenB_some, startD, List.set_cons_zero, List.set_cons_succ, at_eq, nxt_nx, nxt_rt, nxt_bk, nxt_ct, nxt_ex, loop_nx, loop_rt, loop_bk, loop_ct, loop_ex, exc_nx, exc_rt, exc_bk, exc_ct, exc_ex, List.nil_append, List.cons_append, List.length_cons, List.length_nil, Nat.reduceAdd, v_add_int, v_add_str, v_add_tup, v_add_vls, v_sub, v_mul, v_div, v_mod, v_pow, v_aadd, v_asub, v_aadds, v_cLt, v_cLtE, v_cGt, v_cGtE, v_cEq, v_cNe, v_cEqS, v_cNeS, v_cEqB, v_cNeB, v_is, v_isnt, v_isN_non, v_isN_bl, v_isN_int, v_isN_str, v_isN_tup, v_isN_vls, v_isN_scr, v_isN_loc, v_t_non, v_t_bl, v_t_int, v_t_tup, v_t_vls, v_len_tup, v_list_tup, v_listM_tup, v_tuple_tup, v_idx_tup, v_src_tup, v_len_vls, v_list_vls, v_listM_vls, v_tuple_vls, v_idx_vls, v_src_vls, v_len_scr, v_list_scr, v_listM_scr, v_tuple_scr, v_idx_scr, v_src_scr, v_sli_tup, v_sli_vls, v_sli_scr, v_abs, v_int, v_intb, v_max, v_min, v_i_non_int, v_i_non_bool, v_i_non_str, v_i_non_tuple, v_i_non_list, v_i_non_tl, v_i_bl_int, v_i_bl_bool, v_i_bl_str, v_i_bl_tuple, v_i_bl_list, v_i_bl_tl, v_i_int_int, v_i_int_bool, v_i_int_str, v_i_int_tuple, v_i_int_list, v_i_int_tl, v_i_str_int, v_i_str_bool, v_i_str_str, v_i_str_tuple, v_i_str_list, v_i_str_tl, v_i_tup_int, v_i_tup_bool, v_i_tup_str, v_i_tup_tuple, v_i_tup_list, v_i_tup_tl, v_i_vls_int, v_i_vls_bool, v_i_vls_str, v_i_vls_tuple, v_i_vls_list, v_i_vls_tl, v_i_scr_int, v_i_scr_bool, v_i_scr_str, v_i_scr_tuple, v_i_scr_list, v_i_scr_tl, v_range1, v_range2, v_newF, v_newT, at0, at1, at2, at3, at4, at5, sl0, sl1, sl2, sl3, sl4, sl5, sl6, sl7, sl8, true_and, eq_self, pn, pt, po, phS_eq, len_T hl2]
      cases ph <;> simp only [reduceCtorEq, decide_false, decide_true, br_T, br_F]
      all_goals try (exact fin_ok hq)
      · exact ⟨by rcases hs with h | h <;> (dsimp only at h; subst h; exact .left (by decide) (by decide)), fin_ok hq⟩
      · have hs : s = 1 ∨ s = -1 := hs
        by_cases h : 1 < b
        · have h0 : (1 : Int) < (b : Int) := by omega
          rw [decide_eq_true h0]
          simp only [br_T]
          refine h1.call rfl ⟨t, b, rfl, by omega, Nat.lt_trans (show ((b : Int)).natAbs < 2 ^ 400 by rw [Int.natAbs_natCast]; exact hb') (Nat.pow_lt_pow_right (by decide) (by decide)), ?_⟩
          have efd : fD (low t b) = .tup [.int ((t : Int).fdiv (Int.gcd t b)), .int ((b : Int).fdiv (Int.gcd t b))] := by
            have : lowF t b = Int.gcd t b := by unfold lowF sg; rw [if_pos (by omega)]; omega
            unfold fD low
            rw [this]
          rw [efd]
          simp only [eq_tup2, low_same h, wpSs, wpS, wpE, wpEs, wpO, wpC, wpT, wpTs, wpI, look_zero, look_succ, whenB_some, startD, List.set_cons_zero, List.set_cons_succ, at_eq, nxt_nx, nxt_rt, nxt_bk, nxt_ct, nxt_ex, loop_nx, loop_rt, loop_bk, loop_ct, loop_ex, exc_nx, exc_rt, exc_bk, exc_ct, exc_ex, List.nil_append, List.cons_append, List.length_cons, List.length_nil, Nat.reduceAdd, v_add_int, v_add_str, v_add_tup, v_add_vls, v_sub, v_mul, v_div, v_mod, v_pow, v_aadd, v_asub, v_aadds, v_cLt, v_cLtE, v_cGt, v_cGtE, v_cEq, v_cNe, v_cEqS, v_cNeS, v_cEqB, v_cNeB, v_is, v_isnt, v_isN_non, v_isN_bl, v_isN_int, v_isN_str, v_isN_tup, v_isN_vls, v_isN_scr, v_isN_loc, v_t_non, v_t_bl, v_t_int, v_t_tup, v_t_vls, v_len_tup, v_list_tup, v_listM_tup, v_tuple_tup, v_idx_tup, v_src_tup, v_len_vls, v_list_vls, v_listM_vls, v_tuple_vls, v_idx_vls, v_src_vls, v_len_scr, v_list_scr, v_listM_scr, v_tuple_scr, v_idx_scr, v_src_scr, v_sli_tup, v_sli_vls, v_sli_scr, v_abs, v_int, v_intb, v_max, v_min, v_i_non_int, v_i_non_bool, v_i_non_str, v_i_non_tuple, v_i_non_list, v_i_non_tl, v_i_bl_int, v_i_bl_bool, v_i_bl_str, v_i_bl_tuple, v_i_bl_list, v_i_bl_tl, v_i_int_int, v_i_int_bool, v_i_int_str, v_i_int_tuple, v_i_int_list, v_i_int_tl, v_i_str_int, v_i_str_bool, v_i_str_str, v_i_str_tuple, v_i_str_list, v_i_str_tl, v_i_tup_int, v_i_tup_bool, v_i_tup_str, v_i_tup_tuple, v_i_tup_list, v_i_tup_tl, v_i_vls_int, v_i_vls_bool, v_i_vls_str, v_i_vls_tuple, v_i_vls_list, v_i_vls_tl, v_i_scr_int, v_i_scr_bool, v_i_scr_str, v_i_scr_tuple, v_i_scr_list, v_i_scr_tl, v_range1, v_range2, v_newF, v_newT, at0, at1, at2, at3, at4, at5, sl0, sl1, sl2, sl3, sl4, sl5, sl6, sl7, sl8, true_and, eq_self]
          by_cases hg : Nat.gcd t b = 1
          · rw [decide_eq_true hg]
            have e1 : finR ⟨.bot, t, b, s⟩ l.length = .inl (s * t, b) := if_pos ⟨h, hg⟩
            rw [e1] at hq
            simp only [br_T]
            exact ⟨by rcases hs with h | h <;> (subst h; exact .left (by decide) (by decide)), fin_ok hq⟩
          · rw [decide_eq_false hg]
            have e1 : finR ⟨.bot, t, b, s⟩ l.length = .inr l.length := if_neg fun z => hg z.2
            rw [e1] at hq
            simp only [br_F]
            exact fin_ok hq
        · have h0 : ¬ (1 : Int) < (b : Int) := by omega
          rw [decide_eq_false h0]
          have e1 : finR ⟨.bot, t, b, s⟩ l.length = .inr l.length := if_neg fun z => h z.1
          rw [e1] at hq
          simp only [br_F]
          exact fin_ok hq
    · rintro i hi ρ S1 K ⟨r, y1, y6, rfl, rfl, hs, hb, he⟩ ih
      refine ⟨trivial, ?_⟩
      simp -implicitDefEqProofs only [wpSs, wpS, wpE, wpEs, wpO, wpC, wpT, wpTs, wpI, look_zero, look_succ, whenB_some, startD, List.set_cons_zero, List.set_cons_succ, at_eq, nxt_nx, nxt_rt, nxt_bk, nxt_ct, nxt_ex, loop_nx, loop_rt, loop_bk, loop_ct, loop_ex, exc_nx, exc_rt, exc_bk, exc_ct, exc_ex, List.nil_append, List.cons_append, List.length_cons, List.length_nil, Nat.reduceAdd, v_add_int, v_add_str, v_add_tup, v_add_vls, v_sub, v_mul, v_div, v_mod, v_pow, v_aadd, v_asub, v_aadds, v_cLt, v_cLtE, v_cGt, v_cGtE, v_cEq, v_cNe, v_cEqS, v_cNeS, v_cEqB, v_cNeB, v_is, v_isnt, v_isN_non, v_isN_bl, v_isN_int, v_isN_str, v_isN_tup, v_isN_vls, v_isN_scr, v_isN_loc, v_t_non, v_t_bl, v_t_int, v_t_tup, v_t_vls, v_len_tup, v_list_tup, v_listM_tup, v_tuple_tup, v_idx_tup, v_src_tup, v_len_vls, v_list_vls, v_listM_vls, v_tuple_vls, v_idx_vls, v_src_vls, v_len_scr, v_list_scr, v_listM_scr, v_tuple_scr, v_idx_scr, v_src_scr, v_sli_tup, v_sli_vls, v_sli_scr, v_abs, v_int, v_intb, v_max, v_min, v_i_non_int, v_i_non_bool, v_i_non_str, v_i_non_tuple, v_i_non_list, v_i_non_tl, v_i_bl_int, v_i_bl_bool, v_i_bl_str, v_i_bl_tuple, v_i_bl_list, v_i_bl_tl, v_i_int_int, v_i_int_bool, v_i_int_str, v_i_int_tuple, v_i_int_list, v_i_int_tl, v_i_str_int, v_i_str_bool, v_i_str_str, v_i_str_tuple, v_i_str_list, v_i_str_tl, v_i_tup_int, v_i_tup_bool, v_i_tup_str, v_i_tup_tuple, v_i_tup_list, v_i_tup_tl, v_i_vls_int, v_i_vls_bool, v_i_vls_str, v_i_vls_tuple, v_i_vls_list, v_i_vls_tl, v_i_scr_int, v_i_scr_bool, v_i_scr_str, v_i_scr_tuple, v_i_scr_list, v_i_scr_tl, v_range1, v_range2, v_newF, v_newT, at0, at1, at2, at3, at4, at5, sl0, sl1, sl2, sl3, sl4, sl5, sl6, sl7, sl8, true_and, eq_self]
      generalize hPo : Post.loop _ K _ = P
      have hnx : P.nx = K := by rw [← hPo]; rfl
      have hrt : P.rt = fun d S1 => ∃ S', XC.Sub S' S1 ∧ Q d S' := by rw [← hPo]; rfl
      have hc : l[i]? = some l[i] := List.getElem?_eq_getElem hi
      have hd : l.drop i = l[i] :: l.drop (i + 1) := List.drop_eq_getElem_cons hi
      rw [hd] at he
      refine w_read6 hl2 hc (fun r' y6 e => ?_) fun e => ?_
      · rw [hnx]
        refine ih _ _ ⟨r', _, _, rfl, rfl, stp_s hs e, stp_b hb e, ?_⟩
        rw [he, rd, e]
      · rw [hrt]
        refine fin_ok ?_
        rw [rd, e] at he
        rw [he] at hq
        exact hq
  · unfold wpFn c_L_read t_L_read_9
    simp -implicitDefEqProofs only [wpSs, wpS, wpE, wpEs, wpO, wpC, wpT, wpTs, wpI, look_zero, look_succ, whenB_some, startD, List.set_cons_zero, List.set_cons_succ, at_eq, nxt_nx, nxt_rt, nxt_bk, nxt_ct, nxt_ex, loop_nx, loop_rt, loop_bk, loop_ct, loop_ex, exc_nx, exc_rt, exc_bk, exc_ct, exc_ex, List.nil_append, List.cons_append, List.length_cons, List.length_nil, Nat.reduceAdd, v_add_int, v_add_str, v_add_tup, v_add_vls, v_sub, v_mul, v_div, v_mod, v_pow, v_aadd, v_asub, v_aadds, v_cLt, v_cLtE, v_cGt, v_cGtE, v_cEq, v_cNe, v_cEqS, v_cNeS, v_cEqB, v_cNeB, v_is, v_isnt, v_isN_non, v_isN_bl, v_isN_int, v_isN_str, v_isN_tup, v_isN_vls, v_isN_scr, v_isN_loc, v_t_non, v_t_bl, v_t_int, v_t_tup, v_t_vls, v_len_tup, v_list_tup, v_listM_tup, v_tuple_tup, v_idx_tup, v_src_tup, v_len_vls, v_list_vls, v_listM_vls, v_tuple_vls, v_idx_vls, v_src_vls, v_len_scr, v_list_scr, v_listM_scr, v_tuple_scr, v_idx_scr, v_src_scr, v_sli_tup, v_sli_vls, v_sli_scr, v_abs, v_int, v_intb, v_max, v_min, v_i_non_int, v_i_non_bool, v_i_non_str, v_i_non_tuple, v_i_non_list, v_i_non_tl, v_i_bl_int, v_i_bl_bool, v_i_bl_str, v_i_bl_tuple, v_i_bl_list, v_i_bl_tl, v_i_int_int, v_i_int_bool, v_i_int_str, v_i_int_tuple, v_i_int_list, v_i_int_tl, v_i_str_int, v_i_str_bool, v_i_str_str, v_i_str_tuple, v_i_str_list, v_i_str_tl, v_i_tup_int, v_i_tup_bool, v_i_tup_str, v_i_tup_tuple, v_i_tup_list, v_i_tup_tl, v_i_vls_int, v_i_vls_bool, v_i_vls_str, v_i_vls_tuple, v_i_vls_list, v_i_vls_tl, v_i_scr_int, v_i_scr_bool, v_i_scr_str, v_i_scr_tuple, v_i_scr_list, v_i_scr_tl, v_range1, v_range2, v_newF, v_newT, at0, at1, at2, at3, at4, at5, sl0, sl1, sl2, sl3, sl4, sl5, sl6, sl7, sl8, true_and, eq_self, hd, Bool.not_false]
    exact br_true (fin_ok hq)
end XC.Kk05
end

section
set_option Elab.async false
set_option linter.all false
set_option maxRecDepth 100000
set_option exponentiation.threshold 100000
namespace XC.Kk05
open PySem
def dgs (l : List Nat) : List Nat := l.takeWhile isDg
theorem dgs_all {l : List Nat} {c : Nat} (h : c ∈ dgs l) : Dg c := by
  unfold dgs at h
  have h2 := List.all_takeWhile (l := l) (p := isDg)
  have := List.all_eq_true.mp h2 c h
  exact of_decide_eq_true this
theorem dgs_le (l : List Nat) : (dgs l).length ≤ l.length := by
  unfold dgs
  have h := congrArg List.length (List.takeWhile_append_dropWhile (p := isDg) (l := l))
  rw [List.length_append] at h
  omega
theorem dgs_split (l : List Nat) : ∃ R, l = dgs l ++ R ∧ (∀ c R', R = c :: R' → ¬ Dg c) := by
  refine ⟨l.dropWhile isDg, (List.takeWhile_append_dropWhile (p := isDg) (l := l)).symm, fun c R' e h => ?_⟩
  have h2 := List.head?_dropWhile_not isDg l
  rw [e] at h2
  simp only [List.head?_cons, isDg, decide_eq_true h] at h2
  cases h2
def sp_digits : Spec := fun ds S Q E => ∃ (l : List Nat) (a n : Nat), ds = [.str (T l), .int a] ∧ l.length ≤ 2000 ∧ n = (dgs (l.drop a)).length ∧
  (n = 0 → E ⟨f_InvalidText, some (.int (a : Int))⟩ S) ∧ (1 < n → l[a]? = some 48 → E ⟨f_InvalidText, some (.int ((a : Int) + 1))⟩ S) ∧ (0 < n → (1 < n → l[a]? ≠ some 48) → Q (.int ((a + n : Nat) : Int)) S)
theorem w_digits_from {Γ : Ctx} (hc : Γ.con g_DIGITS = some (.str (Str.ofString "0123456789"))) : ∀ ds S Q E, sp_digits ds S Q E → wpFn Γ c_digits_from ds S Q E := by
  rintro _ S Q E ⟨l, a, n, rfl, hl, hn, h0, h1, hq⟩
  obtain ⟨R, hR, hRd⟩ := dgs_split (l.drop a)
  obtain ⟨A, hA⟩ : ∃ A, A = dgs (l.drop a) := ⟨_, rfl⟩
  rw [← hA] at hR hn
  have hdn : A.length = n := hn.symm
  have hget : ∀ i, i < n → ∃ c, l[a + i]? = some c ∧ Dg c := fun i hi => by
    have hlt : i < A.length := by omega
    refine ⟨A[i], ?_, dgs_all (l := l.drop a) (by rw [← hA]; exact List.getElem_mem hlt)⟩
    rw [← List.getElem?_drop, hR, List.getElem?_append_left hlt, List.getElem?_eq_getElem hlt]
  have hend : ∀ c, l[a + n]? = some c → ¬ Dg c := fun c hc => by
    rw [← List.getElem?_drop, hR, List.getElem?_append_right (by omega), hdn, Nat.sub_self] at hc
    cases R with
    | nil => simp at hc
    | cons d R' =>
      have : d = c := by simpa using hc
      exact this ▸ hRd d R' rfl
  unfold wpFn c_digits_from
  simp -implicitDefEqProofs only [wpSs, wpS, wpE, wpEs, wpO, wpC, wpT, wpTs, wpI, look_zero, look_succ, whenB_some, startD, List.set_cons_zero, List.set_cons_succ, at_eq, nxt_nx, nxt_rt, nxt_bk, nxt_ct, nxt_ex, loop_nx, loop_rt, loop_bk, loop_ct, loop_ex, exc_nx, exc_rt, exc_bk, exc_ct, exc_ex, List.nil_append, List.cons_append, List.length_cons, List.length_nil, Nat.reduceAdd, v_add_int, v_add_str, v_add_tup, v_add_vls, v_sub, v_mul, v_div, v_mod, v_pow, v_aadd, v_asub, v_aadds, v_cLt, v_cLtE, v_cGt, v_cGtE, v_cEq, v_cNe, v_cEqS, v_cNeS, v_cEqB, v_cNeB, v_is, v_isnt, v_isN_non, v_isN_bl, v_isN_int, v_isN_str, v_isN_tup, v_isN_vls, v_isN_scr, v_isN_loc, v_t_non, v_t_bl, v_t_int, v_t_tup, v_t_vls, v_len_tup, v_list_tup, v_listM_tup, v_tuple_tup, v_idx_tup, v_src_tup, v_len_vls, v_list_vls, v_listM_vls, v_tuple_vls, v_idx_vls, v_src_vls, v_len_scr, v_list_scr, v_listM_scr, v_tuple_scr, v_idx_scr, v_src_scr, v_sli_tup, v_sli_vls, v_sli_scr, v_abs, v_int, v_intb, v_max, v_min, v_i_non_int, v_i_non_bool, v_i_non_str, v_i_non_tuple, v_i_non_list, v_i_non_tl, v_i_bl_int, v_i_bl_bool, v_i_bl_str, v_i_bl_tuple, v_i_bl_list, v_i_bl_tl, v_i_int_int, v_i_int_bool, v_i_int_str, v_i_int_tuple, v_i_int_list, v_i_int_tl, v_i_str_int, v_i_str_bool, v_i_str_str, v_i_str_tuple, v_i_str_list, v_i_str_tl, v_i_tup_int, v_i_tup_bool, v_i_tup_str, v_i_tup_tuple, v_i_tup_list, v_i_tup_tl, v_i_vls_int, v_i_vls_bool, v_i_vls_str, v_i_vls_tuple, v_i_vls_list, v_i_vls_tl, v_i_scr_int, v_i_scr_bool, v_i_scr_str, v_i_scr_tuple, v_i_scr_list, v_i_scr_tl, v_range1, v_range2, v_newF, v_newT, at0, at1, at2, at3, at4, at5, sl0, sl1, sl2, sl3, sl4, sl5, sl6, sl7, sl8, true_and, eq_self, hc, e_digits, e_empty, e_zero]
  refine ⟨fun m ρ S' => ∃ k : Nat, k ≤ n ∧ ρ = [some (.str (T l)), some (.int a), some (.int ((a + k : Nat) : Int))] ∧ S' = S ∧ m = n - k, ⟨n, 0, by omega, rfl, rfl, rfl⟩, ?_⟩
  rintro m _ S1 ⟨k, hk, rfl, rfl, rfl⟩
  simp -implicitDefEqProofs only [wpSs, wpS, wpE, wpEs, wpO, wpC, wpT, wpTs, wpI, look_zero, look_succ, whenB_some, startD, List.set_cons_zero, List.set_cons_succ, at_eq, nxt_nx, nxt_rt, nxt_bk, nxt_ct, nxt_ex, loop_nx, loop_rt, loop_bk, loop_ct, loop_ex, exc_nx, exc_rt, exc_bk, exc_ct, exc_ex, List.nil_append, List.cons_append, List.length_cons, List.length_nil, Nat.reduceAdd, v_add_int, v_add_str, v_add_tup, v_add_vls, v_sub, v_mul, v_div, v_mod, v_pow, v_aadd, v_asub, v_aadds, v_cLt, v_cLtE, v_cGt, v_cGtE, v_cEq, v_cNe, v_cEqS, v_cNeS, v_cEqB, v_cNeB, v_is, v_isnt, v_isN_non, v_isN_bl, v_isN_int, v_isN_str, v_isN_tup, v_isN_vls, v_isN_scr, v_isN_loc, v_t_non, v_t_bl, v_t_int, v_t_tup, v_t_vls, v_len_tup, v_list_tup, v_listM_tup, v_tuple_tup, v_idx_tup, v_src_tup, v_len_vls, v_list_vls, v_listM_vls, v_tuple_vls, v_idx_vls, v_src_vls, v_len_scr, v_list_scr, v_listM_scr, v_tuple_scr, v_idx_scr, v_src_scr, v_sli_tup, v_sli_vls, v_sli_scr, v_abs, v_int, v_intb, v_max, v_min, v_i_non_int, v_i_non_bool, v_i_non_str, v_i_non_tuple, v_i_non_list, v_i_non_tl, v_i_bl_int, v_i_bl_bool, v_i_bl_str, v_i_bl_tuple, v_i_bl_list, v_i_bl_tl, v_i_int_int, v_i_int_bool, v_i_int_str, v_i_int_tuple, v_i_int_list, v_i_int_tl, v_i_str_int, v_i_str_bool, v_i_str_str, v_i_str_tuple, v_i_str_list, v_i_str_tl, v_i_tup_int, v_i_tup_bool, v_i_tup_str, v_i_tup_tuple, v_i_tup_list, v_i_tup_tl, v_i_vls_int, v_i_vls_bool, v_i_vls_str, v_i_vls_tuple, v_i_vls_list, v_i_vls_tl, v_i_scr_int, v_i_scr_bool, v_i_scr_str, v_i_scr_tuple, v_i_scr_list, v_i_scr_tl, v_range1, v_range2, v_newF, v_newT, at0, at1, at2, at3, at4, at5, sl0, sl1, sl2, sl3, sl4, sl5, sl6, sl7, sl8, true_and, eq_self, sli_T hl, cut_one, T_eq]
  by_cases hkn : k < n
  · obtain ⟨c, hc1, hc2⟩ := hget k hkn
    have e1 : (l.drop (a + k)).take 1 = [c] := by
      obtain ⟨hlt, hce⟩ := List.getElem?_eq_some_iff.mp hc1
      rw [List.drop_eq_getElem_cons hlt, hce]; rfl
    rw [e1]
    refine br_true ?_
    simp -implicitDefEqProofs only [wpSs, wpS, wpE, wpEs, wpO, wpC, wpT, wpTs, wpI, look_zero, look_succ, whenB_some, startD, List.set_cons_zero, List.set_cons_succ, at_eq, nxt_nx, nxt_rt, nxt_bk, nxt_ct, nxt_ex, loop_nx, loop_rt, loop_bk, loop_ct, loop_ex, exc_nx, exc_rt, exc_bk, exc_ct, exc_ex, List.nil_append, List.cons_append, List.length_cons, List.length_nil, Nat.reduceAdd, v_add_int, v_add_str, v_add_tup, v_add_vls, v_sub, v_mul, v_div, v_mod, v_pow, v_aadd, v_asub, v_aadds, v_cLt, v_cLtE, v_cGt, v_cGtE, v_cEq, v_cNe, v_cEqS, v_cNeS, v_cEqB, v_cNeB, v_is, v_isnt, v_isN_non, v_isN_bl, v_isN_int, v_isN_str, v_isN_tup, v_isN_vls, v_isN_scr, v_isN_loc, v_t_non, v_t_bl, v_t_int, v_t_tup, v_t_vls, v_len_tup, v_list_tup, v_listM_tup, v_tuple_tup, v_idx_tup, v_src_tup, v_len_vls, v_list_vls, v_listM_vls, v_tuple_vls, v_idx_vls, v_src_vls, v_len_scr, v_list_scr, v_listM_scr, v_tuple_scr, v_idx_scr, v_src_scr, v_sli_tup, v_sli_vls, v_sli_scr, v_abs, v_int, v_intb, v_max, v_min, v_i_non_int, v_i_non_bool, v_i_non_str, v_i_non_tuple, v_i_non_list, v_i_non_tl, v_i_bl_int, v_i_bl_bool, v_i_bl_str, v_i_bl_tuple, v_i_bl_list, v_i_bl_tl, v_i_int_int, v_i_int_bool, v_i_int_str, v_i_int_tuple, v_i_int_list, v_i_int_tl, v_i_str_int, v_i_str_bool, v_i_str_str, v_i_str_tuple, v_i_str_list, v_i_str_tl, v_i_tup_int, v_i_tup_bool, v_i_tup_str, v_i_tup_tuple, v_i_tup_list, v_i_tup_tl, v_i_vls_int, v_i_vls_bool, v_i_vls_str, v_i_vls_tuple, v_i_vls_list, v_i_vls_tl, v_i_scr_int, v_i_scr_bool, v_i_scr_str, v_i_scr_tuple, v_i_scr_list, v_i_scr_tl, v_range1, v_range2, v_newF, v_newT, at0, at1, at2, at3, at4, at5, sl0, sl1, sl2, sl3, sl4, sl5, sl6, sl7, sl8, true_and, eq_self, idx_T hl hc1, in_T]
    rw [decide_eq_true (dg_mem.mpr hc2)]
    refine br_true ⟨fun ρ S' => ∃ k' : Nat, k < k' ∧ k' ≤ n ∧ ρ = [some (.str (T l)), some (.int a), some (.int ((a + k' : Nat) : Int))] ∧ S' = S1, ?_, ?_⟩
    · rintro _ _ ⟨k', h1, h2, rfl, rfl⟩
      exact ⟨n - k', by omega, k', h2, rfl, rfl, rfl⟩
    · exact ⟨k + 1, by omega, by omega, by rw [show ((a + (k + 1) : Nat) : Int) = ((a + k : Nat) : Int) + 1 by omega], rfl⟩
  · have hk' : k = n := by omega
    subst hk'
    have fin : wpSs Γ (.cons (.ife (.or (.cmp .Eq (.var 2) (.var 1)) (.and (.cmp .Eq (.idx (.var 0) (.var 1)) (.con (.str (T [48])))) (.cmp .Gt (.var 2) (.bin .Add (.var 1) (.con (.int 1)))))) (.cons (.rsf f_InvalidText (.ite (.cmp .Gt (.var 2) (.var 1)) (.blt .min (.cons (.var 2) (.cons (.bin .Add (.var 1) (.con (.int 1))) .nil))) (.var 1))) .nil) .nil) (.cons (.ret (.var 2)) .nil))
        ⟨fun _ S1 => ∃ S', XC.Sub S' S1 ∧ Q .non S', fun d S1 => ∃ S', XC.Sub S' S1 ∧ Q d S', fun _ _ => False, fun _ _ => False, fun x _ S1 => ∃ S', XC.Sub S' S1 ∧ E x S'⟩ [some (.str (T l)), some (.int a), some (.int ((a + k : Nat) : Int))] S1 := by
      simp -implicitDefEqProofs only [wpSs, wpS, wpE, wpEs, wpO, wpC, wpT, wpTs, wpI, look_zero, look_succ, whenB_some, startD, List.set_cons_zero, List.set_cons_succ, at_eq, nxt_nx, nxt_rt, nxt_bk, nxt_ct, nxt_ex, loop_nx, loop_rt, loop_bk, loop_ct, loop_ex, exc_nx, exc_rt, exc_bk, exc_ct, exc_ex, List.nil_append, List.cons_append, List.length_cons, List.length_nil, Nat.reduceAdd, v_add_int, v_add_str, v_add_tup, v_add_vls, v_sub, v_mul, v_div, v_mod, v_pow, v_aadd, v_asub, v_aadds, v_cLt, v_cLtE, v_cGt, v_cGtE, v_cEq, v_cNe, v_cEqS, v_cNeS, v_cEqB, v_cNeB, v_is, v_isnt, v_isN_non, v_isN_bl, v_isN_int, v_isN_str, v_isN_tup, v_isN_vls, v_isN_scr, v_isN_loc, v_t_non, v_t_bl, v_t_int, v_t_tup, v_t_vls, v_len_tup, v_list_tup, v_listM_tup, v_tuple_tup, v_idx_tup, v_src_tup, v_len_vls, v_list_vls, v_listM_vls, v_tuple_vls, v_idx_vls, v_src_vls, v_len_scr, v_list_scr, v_listM_scr, v_tuple_scr, v_idx_scr, v_src_scr, v_sli_tup, v_sli_vls, v_sli_scr, v_abs, v_int, v_intb, v_max, v_min, v_i_non_int, v_i_non_bool, v_i_non_str, v_i_non_tuple, v_i_non_list, v_i_non_tl, v_i_bl_int, v_i_bl_bool, v_i_bl_str, v_i_bl_tuple, v_i_bl_list, v_i_bl_tl, v_i_int_int, v_i_int_bool, v_i_int_str, v_i_int_tuple, v_i_int_list, v_i_int_tl, v_i_str_int, v_i_str_bool, v_i_str_str, v_i_str_tuple, v_i_str_list, v_i_str_tl, v_i_tup_int, v_i_tup_bool, v_i_tup_str, v_i_tup_tuple, v_i_tup_list, v_i_tup_tl, v_i_vls_int, v_i_vls_bool, v_i_vls_str, v_i_vls_tuple, v_i_vls_list, v_i_vls_tl, v_i_scr_int, v_i_scr_bool, v_i_scr_str, v_i_scr_tuple, v_i_scr_list, v_i_scr_tl, v_range1, v_range2, v_newF, v_newT, at0, at1, at2, at3, at4, at5, sl0, sl1, sl2, sl3, sl4, sl5, sl6, sl7, sl8, true_and, eq_self]
      by_cases hk0 : k = 0
      · subst hk0
        rw [decide_eq_true (show ((a + 0 : Nat) : Int) = (a : Int) by omega)]
        refine br_true ?_
        refine br_dec (fun h => by omega) fun _ => ?_
        exact ⟨_, XC.Sub.refl _, h0 rfl⟩
      · obtain ⟨c0, hc0, hd0⟩ := hget 0 (by omega)
        rw [Nat.add_zero] at hc0
        rw [decide_eq_false (show ¬ ((a + k : Nat) : Int) = (a : Int) by omega)]
        refine br_false ?_
        simp only [idx_T hl hc0, wpSs, wpS, wpE, wpEs, wpO, wpC, wpT, wpTs, wpI, look_zero, look_succ, whenB_some, startD, List.set_cons_zero, List.set_cons_succ, at_eq, nxt_nx, nxt_rt, nxt_bk, nxt_ct, nxt_ex, loop_nx, loop_rt, loop_bk, loop_ct, loop_ex, exc_nx, exc_rt, exc_bk, exc_ct, exc_ex, List.nil_append, List.cons_append, List.length_cons, List.length_nil, Nat.reduceAdd, v_add_int, v_add_str, v_add_tup, v_add_vls, v_sub, v_mul, v_div, v_mod, v_pow, v_aadd, v_asub, v_aadds, v_cLt, v_cLtE, v_cGt, v_cGtE, v_cEq, v_cNe, v_cEqS, v_cNeS, v_cEqB, v_cNeB, v_is, v_isnt, v_isN_non, v_isN_bl, v_isN_int, v_isN_str, v_isN_tup, v_isN_vls, v_isN_scr, v_isN_loc, v_t_non, v_t_bl, v_t_int, v_t_tup, v_t_vls, v_len_tup, v_list_tup, v_listM_tup, v_tuple_tup, v_idx_tup, v_src_tup, v_len_vls, v_list_vls, v_listM_vls, v_tuple_vls, v_idx_vls, v_src_vls, v_len_scr, v_list_scr, v_listM_scr, v_tuple_scr, v_idx_scr, v_src_scr, v_sli_tup, v_sli_vls, v_sli_scr, v_abs, v_int, v_intb, v_max, v_min, v_i_non_int, v_i_non_bool, v_i_non_str, v_i_non_tuple, v_i_non_list, v_i_non_tl, v_i_bl_int, v_i_bl_bool, v_i_bl_str, v_i_bl_tuple, v_i_bl_list, v_i_bl_tl, v_i_int_int, v_i_int_bool, v_i_int_str, v_i_int_tuple, v_i_int_list, v_i_int_tl, v_i_str_int, v_i_str_bool, v_i_str_str, v_i_str_tuple, v_i_str_list, v_i_str_tl, v_i_tup_int, v_i_tup_bool, v_i_tup_str, v_i_tup_tuple, v_i_tup_list, v_i_tup_tl, v_i_vls_int, v_i_vls_bool, v_i_vls_str, v_i_vls_tuple, v_i_vls_list, v_i_vls_tl, v_i_scr_int, v_i_scr_bool, v_i_scr_str, v_i_scr_tuple, v_i_scr_list, v_i_scr_tl, v_range1, v_range2, v_newF, v_newT, at0, at1, at2, at3, at4, at5, sl0, sl1, sl2, sl3, sl4, sl5, sl6, sl7, sl8, true_and, eq_self, T_eq]
        have e48 : decide ([c0] = [48]) = decide (c0 = 48) := decide_eq_decide.mpr (by simp)
        rw [e48]
        by_cases h : c0 = 48
        · rw [decide_eq_true h]
          subst h
          refine br_true (br_dec (fun h => ?_) fun h => ?_)
          · rw [decide_eq_true (show (a : Int) < ((a + k : Nat) : Int) by omega)]
            refine br_true ?_
            rw [if_pos (by omega)]
            exact ⟨_, XC.Sub.refl _, h1 (by omega) hc0⟩
          · exact fin_ok (hq (by omega) fun z => absurd z (by omega))
        · rw [decide_eq_false h]
          refine br_false (br_false (fin_ok (hq (by omega) fun _ z => ?_)))
          rw [hc0] at z
          exact h (Option.some.inj z)
    have fin2 := fin
    simp -implicitDefEqProofs only [wpSs, wpS, wpE, wpEs, wpO, wpC, wpT, wpTs, wpI, look_zero, look_succ, whenB_some, startD, List.set_cons_zero, List.set_cons_succ, at_eq, nxt_nx, nxt_rt, nxt_bk, nxt_ct, nxt_ex, loop_nx, loop_rt, loop_bk, loop_ct, loop_ex, exc_nx, exc_rt, exc_bk, exc_ct, exc_ex, List.nil_append, List.cons_append, List.length_cons, List.length_nil, Nat.reduceAdd, v_add_int, v_add_str, v_add_tup, v_add_vls, v_sub, v_mul, v_div, v_mod, v_pow, v_aadd, v_asub, v_aadds, v_cLt, v_cLtE, v_cGt, v_cGtE, v_cEq, v_cNe, v_cEqS, v_cNeS, v_cEqB, v_cNeB, v_is, v_isnt, v_isN_non, v_isN_bl, v_isN_int, v_isN_str, v_isN_tup, v_isN_vls, v_isN_scr, v_isN_loc, v_t_non, v_t_bl, v_t_int, v_t_tup, v_t_vls, v_len_tup, v_list_tup, v_listM_tup, v_tuple_tup, v_idx_tup, v_src_tup, v_len_vls, v_list_vls, v_listM_vls, v_tuple_vls, v_idx_vls, v_src_vls, v_len_scr, v_list_scr, v_listM_scr, v_tuple_scr, v_idx_scr, v_src_scr, v_sli_tup, v_sli_vls, v_sli_scr, v_abs, v_int, v_intb, v_max, v_min, v_i_non_int, v_i_non_bool, v_i_non_str, v_i_non_tuple, v_i_non_list, v_i_non_tl, v_i_bl_int, v_i_bl_bool, v_i_bl_str, v_i_bl_tuple, v_i_bl_list, v_i_bl_tl, v_i_int_int, v_i_int_bool, v_i_int_str, v_i_int_tuple, v_i_int_list, v_i_int_tl, v_i_str_int, v_i_str_bool, v_i_str_str, v_i_str_tuple, v_i_str_list, v_i_str_tl, v_i_tup_int, v_i_tup_bool, v_i_tup_str, v_i_tup_tuple, v_i_tup_list, v_i_tup_tl, v_i_vls_int, v_i_vls_bool, v_i_vls_str, v_i_vls_tuple, v_i_vls_list, v_i_vls_tl, v_i_scr_int, v_i_scr_bool, v_i_scr_str, v_i_scr_tuple, v_i_scr_list, v_i_scr_tl, v_range1, v_range2, v_newF, v_newT, at0, at1, at2, at3, at4, at5, sl0, sl1, sl2, sl3, sl4, sl5, sl6, sl7, sl8, true_and, eq_self] at fin2
    cases hn2 : l[a + k]? with
    | none =>
      have e1 : (l.drop (a + k)).take 1 = [] := by
        rw [List.drop_of_length_le (by have := List.getElem?_eq_none_iff.mp hn2; exact this)]; rfl
      rw [e1]
      exact br_false (br_false fin2)
    | some c =>
      obtain ⟨hlt, hce⟩ := List.getElem?_eq_some_iff.mp hn2
      have e1 : (l.drop (a + k)).take 1 = [c] := by
        rw [List.drop_eq_getElem_cons hlt, hce]; rfl
      rw [e1]
      refine br_true ?_
      simp -implicitDefEqProofs only [wpSs, wpS, wpE, wpEs, wpO, wpC, wpT, wpTs, wpI, look_zero, look_succ, whenB_some, startD, List.set_cons_zero, List.set_cons_succ, at_eq, nxt_nx, nxt_rt, nxt_bk, nxt_ct, nxt_ex, loop_nx, loop_rt, loop_bk, loop_ct, loop_ex, exc_nx, exc_rt, exc_bk, exc_ct, exc_ex, List.nil_append, List.cons_append, List.length_cons, List.length_nil, Nat.reduceAdd, v_add_int, v_add_str, v_add_tup, v_add_vls, v_sub, v_mul, v_div, v_mod, v_pow, v_aadd, v_asub, v_aadds, v_cLt, v_cLtE, v_cGt, v_cGtE, v_cEq, v_cNe, v_cEqS, v_cNeS, v_cEqB, v_cNeB, v_is, v_isnt, v_isN_non, v_isN_bl, v_isN_int, v_isN_str, v_isN_tup, v_isN_vls, v_isN_scr, v_isN_loc, v_t_non, v_t_bl, v_t_int, v_t_tup, v_t_vls, v_len_tup, v_list_tup, v_listM_tup, v_tuple_tup, v_idx_tup, v_src_tup, v_len_vls, v_list_vls, v_listM_vls, v_tuple_vls, v_idx_vls, v_src_vls, v_len_scr, v_list_scr, v_listM_scr, v_tuple_scr, v_idx_scr, v_src_scr, v_sli_tup, v_sli_vls, v_sli_scr, v_abs, v_int, v_intb, v_max, v_min, v_i_non_int, v_i_non_bool, v_i_non_str, v_i_non_tuple, v_i_non_list, v_i_non_tl, v_i_bl_int, v_i_bl_bool, v_i_bl_str, v_i_bl_tuple, v_i_bl_list, v_i_bl_tl, v_i_int_int, v_i_int_bool, v_i_int_str, v_i_int_tuple, v_i_int_list, v_i_int_tl, v_i_str_int, v_i_str_bool, v_i_str_str, v_i_str_tuple, v_i_str_list, v_i_str_tl, v_i_tup_int, v_i_tup_bool, v_i_tup_str, v_i_tup_tuple, v_i_tup_list, v_i_tup_tl, v_i_vls_int, v_i_vls_bool, v_i_vls_str, v_i_vls_tuple, v_i_vls_list, v_i_vls_tl, v_i_scr_int, v_i_scr_bool, v_i_scr_str, v_i_scr_tuple, v_i_scr_list, v_i_scr_tl, v_range1, v_range2, v_newF, v_newT, at0, at1, at2, at3, at4, at5, sl0, sl1, sl2, sl3, sl4, sl5, sl6, sl7, sl8, true_and, eq_self, idx_T hl hn2, in_T]
      rw [decide_eq_false (fun h => hend c hn2 (dg_mem.mp h))]
      exact br_false fin2
end XC.Kk05
end

section
set_option Elab.async false
set_option linter.all false
set_option maxRecDepth 100000
set_option exponentiation.threshold 100000
namespace XC.Kk05
open PySem
def val (t : Nat) (A : List Nat) : Nat := A.foldl (fun acc c => acc * 10 + (c - 48)) t
theorem rd_top {b : Nat} {s : Int} : ∀ (A : List Nat) (t i : Nat) (R : List Nat), (∀ c ∈ A, Dg c) → rd ⟨.top, t, b, s⟩ i (A ++ R) = rd ⟨.top, val t A, b, s⟩ (i + A.length) R
  | [], t, i, R, _ => rfl
  | c :: A, t, i, R, h => by
    have hc : Dg c := h c (by simp)
    rw [List.cons_append, rd]
    have e : stp ⟨.top, t, b, s⟩ c = some ⟨.top, t * 10 + (c - 48), b, s⟩ := if_pos hc
    rw [e]
    show rd ⟨.top, t * 10 + (c - 48), b, s⟩ (i + 1) (A ++ R) = _
    rw [rd_top A _ _ R fun c hc => h c (by simp [hc])]
    rw [List.length_cons, show i + 1 + A.length = i + (A.length + 1) by omega]
    rfl
theorem rd_bot {t : Nat} {s : Int} : ∀ (A : List Nat) (b i : Nat) (R : List Nat), (∀ c ∈ A, Dg c) → rd ⟨.bot, t, b, s⟩ i (A ++ R) = rd ⟨.bot, t, val b A, s⟩ (i + A.length) R
  | [], b, i, R, _ => rfl
  | c :: A, b, i, R, h => by
    have hc : Dg c := h c (by simp)
    rw [List.cons_append, rd]
    have e : stp ⟨.bot, t, b, s⟩ c = some ⟨.bot, t, b * 10 + (c - 48), s⟩ := if_pos hc
    rw [e]
    show rd ⟨.bot, t, b * 10 + (c - 48), s⟩ (i + 1) (A ++ R) = _
    rw [rd_bot A _ _ R fun c hc => h c (by simp [hc])]
    rw [List.length_cons, show i + 1 + A.length = i + (A.length + 1) by omega]
    rfl
theorem val_pos {c : Nat} {A : List Nat} (hc : Dg c) (h : c ≠ 48) : 0 < val 0 (c :: A) := by
  have key : ∀ (A : List Nat) (t : Nat), 0 < t → 0 < val t A := by
    intro A
    induction A with
    | nil => intro t h; exact h
    | cons d A ih => intro t h; show 0 < val (t * 10 + (d - 48)) A; exact ih _ (by omega)
  show 0 < val (0 * 10 + (c - 48)) A
  refine key A _ ?_
  unfold Dg at hc
  omega
theorem digI_val {A : List Nat} (h : A ≠ []) (hd : ∀ c ∈ A, Dg c) : digI A = some (val 0 A) := by
  unfold digI
  rw [if_pos ⟨h, hd⟩]; rfl
theorem intD_val {A : List Nat} (b : Bool) (h : A ≠ []) (hd : ∀ c ∈ A, Dg c) : intD (T (sgL b ++ A)) = some ((if b then -1 else 1) * (val 0 A : Int)) := by
  unfold intD
  rw [T_list]
  cases b with
  | true =>
    show ((digI A).map fun n => -(n : Int)) = _
    rw [digI_val h hd]
    show some (-(val 0 A : Int)) = some (-1 * (val 0 A : Int))
    congr 1; omega
  | false =>
    cases A with
    | nil => exact absurd rfl h
    | cons c A =>
      have hc : Dg c := hd c (by simp)
      have : c ≠ 45 := by unfold Dg at hc; omega
      show (match c :: A with | 45 :: cs => (digI cs).map fun n => -(n : Int) | cs => (digI cs).map fun n => (n : Int)) = _
      split
      · rename_i cs e
        injection e with e1 _
        exact absurd e1 this
      · rw [digI_val h hd]
        show some ((val 0 (c :: A) : Nat) : Int) = some (1 * ((val 0 (c :: A) : Nat) : Int))
        congr 1; omega
def sgv (b : Bool) : Int := if b then -1 else 1
/-- what is read, by the parts -/
theorem rdT_sign (l : List Nat) (b : Bool) (h : decide (l.take 1 = [45]) = b) (l' : List Nat) (e : l = sgL b ++ l') : rdT l = if b then rd ⟨.min, 0, 0, -1⟩ 1 l' else rd ⟨.beg, 0, 0, 1⟩ 0 l' := by
  subst e
  cases b
  · rfl
  · rfl
/-- digits first: the first one not nought -/
theorem rd_first (b : Bool) {c : Nat} (A R : List Nat) (hc : Dg c) (h48 : c ≠ 48) (hA : ∀ d ∈ A, Dg d) :
    (if b then rd ⟨.min, 0, 0, -1⟩ 1 (c :: A ++ R) else rd ⟨.beg, 0, 0, 1⟩ 0 (c :: A ++ R)) = rd ⟨.top, val 0 (c :: A), 0, sgv b⟩ ((sgL b).length + (c :: A).length) R := by
  have h45 : c ≠ 45 := by unfold Dg at hc; omega
  have ev : ∀ s : Int, ∀ i, rd ⟨.top, c - 48, 0, s⟩ i (A ++ R) = rd ⟨.top, val 0 (c :: A), 0, s⟩ (i + A.length) R := fun s i => by
    rw [rd_top A _ _ R hA]
    show _ = rd ⟨.top, val (0 * 10 + (c - 48)) A, 0, s⟩ _ R
    rw [Nat.zero_mul, Nat.zero_add]
  cases b with
  | true =>
    show rd ⟨.min, 0, 0, -1⟩ 1 (c :: (A ++ R)) = _
    rw [rd]
    have e : stp ⟨.min, 0, 0, -1⟩ c = some ⟨.top, c - 48, 0, -1⟩ := if_pos ⟨hc, h48⟩
    rw [e]
    show rd ⟨.top, c - 48, 0, -1⟩ 2 (A ++ R) = _
    rw [ev, List.length_cons]
    show rd _ (2 + A.length) R = rd _ (1 + (A.length + 1)) R
    rw [show 2 + A.length = 1 + (A.length + 1) by omega]; rfl
  | false =>
    show rd ⟨.beg, 0, 0, 1⟩ 0 (c :: (A ++ R)) = _
    rw [rd]
    have e : stp ⟨.beg, 0, 0, 1⟩ c = some ⟨.top, c - 48, 0, 1⟩ := by
      unfold stp
      dsimp only
      rw [if_neg h45, if_neg h48, if_pos hc]
    rw [e]
    show rd ⟨.top, c - 48, 0, 1⟩ 1 (A ++ R) = _
    rw [ev, List.length_cons]
    show rd _ (1 + A.length) R = rd _ (0 + (A.length + 1)) R
    rw [show 1 + A.length = 0 + (A.length + 1) by omega]; rfl
theorem rd_no {r : Rs} {i c : Nat} {R : List Nat} (h : stp r c = none) : rd r i (c :: R) = .inr i := by rw [rd, h]
def sp_told : Spec := fun ds S Q E => (∃ l, ds = [.str (T l)] ∧ l.length ≤ 110 ∧ (∀ x y, rdT l = .inl (x, y) → Q (.tup [.int x, .int y]) S) ∧ ∀ i, rdT l = .inr i → E ⟨f_InvalidText, some (.int (i : Nat))⟩ S) ∨
  (∃ d, ds = [d] ∧ isiD S d [.str] = some false ∧ E ⟨f_InvalidText, some (.int 0)⟩ S)
end XC.Kk05
end

section
set_option Elab.async false
set_option linter.all false
set_option maxRecDepth 100000
set_option exponentiation.threshold 100000
namespace XC.Kk05
open PySem
theorem w_fraction_told {Γ : Ctx} (h1 : Has Γ f_digits_from 2 sp_digits) (h2 : Has Γ f_common 2 sp_gcd) : ∀ ds S Q E, sp_told ds S Q E → wpFn Γ c_fraction_told ds S Q E := by
  rintro _ S0 Q E (⟨l, rfl, hlen, hq, he⟩ | ⟨d, rfl, hd, he⟩)
  rotate_left
  · unfold wpFn c_fraction_told t_fraction_told_12
    simp -implicitDefEqProofs only [wpSs, wpS, wpE, wpEs, wpO, wpC, wpT, wpTs, wpI, look_zero, look_succ, whenB_some, startD, List.set_cons_zero, List.set_cons_succ, at_eq, nxt_nx, nxt_rt, nxt_bk, nxt_ct, nxt_ex, loop_nx, loop_rt, loop_bk, loop_ct, loop_ex, exc_nx, exc_rt, exc_bk, exc_ct, exc_ex, List.nil_append, List.cons_append, List.length_cons, List.length_nil, Nat.reduceAdd, v_add_int, v_add_str, v_add_tup, v_add_vls, v_sub, v_mul, v_div, v_mod, v_pow, v_aadd, v_asub, v_aadds, v_cLt, v_cLtE, v_cGt, v_cGtE, v_cEq, v_cNe, v_cEqS, v_cNeS, v_cEqB, v_cNeB, v_is, v_isnt, v_isN_non, v_isN_bl, v_isN_int, v_isN_str, v_isN_tup, v_isN_vls, v_isN_scr, v_isN_loc, v_t_non, v_t_bl, v_t_int, v_t_tup, v_t_vls, v_len_tup, v_list_tup, v_listM_tup, v_tuple_tup, v_idx_tup, v_src_tup, v_len_vls, v_list_vls, v_listM_vls, v_tuple_vls, v_idx_vls, v_src_vls, v_len_scr, v_list_scr, v_listM_scr, v_tuple_scr, v_idx_scr, v_src_scr, v_sli_tup, v_sli_vls, v_sli_scr, v_abs, v_int, v_intb, v_max, v_min, v_i_non_int, v_i_non_bool, v_i_non_str, v_i_non_tuple, v_i_non_list, v_i_non_tl, v_i_bl_int, v_i_bl_bool, v_i_bl_str, v_i_bl_tuple, v_i_bl_list, v_i_bl_tl, v_i_int_int, v_i_int_bool, v_i_int_str, v_i_int_tuple, v_i_int_list, v_i_int_tl, v_i_str_int, v_i_str_bool, v_i_str_str, v_i_str_tuple, v_i_str_list, v_i_str_tl, v_i_tup_int, v_i_tup_bool, v_i_tup_str, v_i_tup_tuple, v_i_tup_list, v_i_tup_tl, v_i_vls_int, v_i_vls_bool, v_i_vls_str, v_i_vls_tuple, v_i_vls_list, v_i_vls_tl, v_i_scr_int, v_i_scr_bool, v_i_scr_str, v_i_scr_tuple, v_i_scr_list, v_i_scr_tl, v_range1, v_range2, v_newF, v_newT, at0, at1, at2, at3, at4, at5, sl0, sl1, sl2, sl3, sl4, sl5, sl6, sl7, sl8, true_and, eq_self, hd, Bool.not_false]
    exact br_true ⟨_, XC.Sub.refl _, he⟩
  have hl : l.length ≤ 2000 := by omega
  have raise : ∀ (i : Nat) (S1 : Store), S1 = S0 → rdT l = .inr i → ∃ S', XC.Sub S' S1 ∧ E ⟨f_InvalidText, some (.int (i : Nat))⟩ S' := fun i S1 h e => by
    subst h; exact ⟨_, XC.Sub.refl _, he i e⟩
  obtain ⟨b, hb⟩ : ∃ b : Bool, decide (l.take 1 = [45]) = b := ⟨_, rfl⟩
  obtain ⟨l', hl'⟩ : ∃ l', l = sgL b ++ l' := by
    cases b with
    | false => exact ⟨l, rfl⟩
    | true =>
      have h := of_decide_eq_true hb
      match l, h with
      | c :: r, h =>
        have : c = 45 := by
          have h : [c] = [45] := h
          injection h
        exact ⟨r, by rw [this]; rfl⟩
  have hr := rdT_sign l b hb l' hl'
  obtain ⟨a, ha⟩ : ∃ a, a = (sgL b).length := ⟨_, rfl⟩
  have hab : a = if b then 1 else 0 := by rw [ha, sg_len]
  have hdrop : l.drop a = l' := by rw [hl', ha, List.drop_append_of_le_length (Nat.le_refl _), List.drop_length, List.nil_append]
  have hla : l.length = a + l'.length := by rw [hl', List.length_append, ← ha]
  have hget : ∀ i, l[a + i]? = l'[i]? := fun i => by rw [← List.getElem?_drop, hdrop]
  have hget0 : l[a]? = l'[0]? := hget 0
  unfold wpFn c_fraction_told t_fraction_told_12
  simp -implicitDefEqProofs only [wpSs, wpS, wpE, wpEs, wpO, wpC, wpT, wpTs, wpI, look_zero, look_succ, whenB_some, startD, List.set_cons_zero, List.set_cons_succ, at_eq, nxt_nx, nxt_rt, nxt_bk, nxt_ct, nxt_ex, loop_nx, loop_rt, loop_bk, loop_ct, loop_ex, exc_nx, exc_rt, exc_bk, exc_ct, exc_ex, List.nil_append, List.cons_append, List.length_cons, List.length_nil, Nat.reduceAdd, v_add_int, v_add_str, v_add_tup, v_add_vls, v_sub, v_mul, v_div, v_mod, v_pow, v_aadd, v_asub, v_aadds, v_cLt, v_cLtE, v_cGt, v_cGtE, v_cEq, v_cNe, v_cEqS, v_cNeS, v_cEqB, v_cNeB, v_is, v_isnt, v_isN_non, v_isN_bl, v_isN_int, v_isN_str, v_isN_tup, v_isN_vls, v_isN_scr, v_isN_loc, v_t_non, v_t_bl, v_t_int, v_t_tup, v_t_vls, v_len_tup, v_list_tup, v_listM_tup, v_tuple_tup, v_idx_tup, v_src_tup, v_len_vls, v_list_vls, v_listM_vls, v_tuple_vls, v_idx_vls, v_src_vls, v_len_scr, v_list_scr, v_listM_scr, v_tuple_scr, v_idx_scr, v_src_scr, v_sli_tup, v_sli_vls, v_sli_scr, v_abs, v_int, v_intb, v_max, v_min, v_i_non_int, v_i_non_bool, v_i_non_str, v_i_non_tuple, v_i_non_list, v_i_non_tl, v_i_bl_int, v_i_bl_bool, v_i_bl_str, v_i_bl_tuple, v_i_bl_list, v_i_bl_tl, v_i_int_int, v_i_int_bool, v_i_int_str, v_i_int_tuple, v_i_int_list, v_i_int_tl, v_i_str_int, v_i_str_bool, v_i_str_str, v_i_str_tuple, v_i_str_list, v_i_str_tl, v_i_tup_int, v_i_tup_bool, v_i_tup_str, v_i_tup_tuple, v_i_tup_list, v_i_tup_tl, v_i_vls_int, v_i_vls_bool, v_i_vls_str, v_i_vls_tuple, v_i_vls_list, v_i_vls_tl, v_i_scr_int, v_i_scr_bool, v_i_scr_str, v_i_scr_tuple, v_i_scr_list, v_i_scr_tl, v_range1, v_range2, v_newF, v_newT, at0, at1, at2, at3, at4, at5, sl0, sl1, sl2, sl3, sl4, sl5, sl6, sl7, sl8, true_and, eq_self, Bool.not_true]
  refine br_false ?_
  unfold t_fraction_told_11
  have c1 : cut l none (some 1) = l.take 1 := cut_to _ 1
  simp -implicitDefEqProofs only [wpSs, wpS, wpE, wpEs, wpO, wpC, wpT, wpTs, wpI, look_zero, look_succ, whenB_some, startD, List.set_cons_zero, List.set_cons_succ, at_eq, nxt_nx, nxt_rt, nxt_bk, nxt_ct, nxt_ex, loop_nx, loop_rt, loop_bk, loop_ct, loop_ex, exc_nx, exc_rt, exc_bk, exc_ct, exc_ex, List.nil_append, List.cons_append, List.length_cons, List.length_nil, Nat.reduceAdd, v_add_int, v_add_str, v_add_tup, v_add_vls, v_sub, v_mul, v_div, v_mod, v_pow, v_aadd, v_asub, v_aadds, v_cLt, v_cLtE, v_cGt, v_cGtE, v_cEq, v_cNe, v_cEqS, v_cNeS, v_cEqB, v_cNeB, v_is, v_isnt, v_isN_non, v_isN_bl, v_isN_int, v_isN_str, v_isN_tup, v_isN_vls, v_isN_scr, v_isN_loc, v_t_non, v_t_bl, v_t_int, v_t_tup, v_t_vls, v_len_tup, v_list_tup, v_listM_tup, v_tuple_tup, v_idx_tup, v_src_tup, v_len_vls, v_list_vls, v_listM_vls, v_tuple_vls, v_idx_vls, v_src_vls, v_len_scr, v_list_scr, v_listM_scr, v_tuple_scr, v_idx_scr, v_src_scr, v_sli_tup, v_sli_vls, v_sli_scr, v_abs, v_int, v_intb, v_max, v_min, v_i_non_int, v_i_non_bool, v_i_non_str, v_i_non_tuple, v_i_non_list, v_i_non_tl, v_i_bl_int, v_i_bl_bool, v_i_bl_str, v_i_bl_tuple, v_i_bl_list, v_i_bl_tl, v_i_int_int, v_i_int_bool, v_i_int_str, v_i_int_tuple, v_i_int_list, v_i_int_tl, v_i_str_int, v_i_str_bool, v_i_str_str, v_i_str_tuple, v_i_str_list, v_i_str_tl, v_i_tup_int, v_i_tup_bool, v_i_tup_str, v_i_tup_tuple, v_i_tup_list, v_i_tup_tl, v_i_vls_int, v_i_vls_bool, v_i_vls_str, v_i_vls_tuple, v_i_vls_list, v_i_vls_tl, v_i_scr_int, v_i_scr_bool, v_i_scr_str, v_i_scr_tuple, v_i_scr_list, v_i_scr_tl, v_range1, v_range2, v_newF, v_newT, at0, at1, at2, at3, at4, at5, sl0, sl1, sl2, sl3, sl4, sl5, sl6, sl7, sl8, true_and, eq_self, sli_T hl, e_minus, c1, T_eq, hb]
  have ea : (if b = true then (1 : Int) else 0) = ((a : Nat) : Int) := by rw [hab]; cases b <;> rfl
  rw [ea]
  unfold t_fraction_told_10
  simp -implicitDefEqProofs only [wpSs, wpS, wpE, wpEs, wpO, wpC, wpT, wpTs, wpI, look_zero, look_succ, whenB_some, startD, List.set_cons_zero, List.set_cons_succ, at_eq, nxt_nx, nxt_rt, nxt_bk, nxt_ct, nxt_ex, loop_nx, loop_rt, loop_bk, loop_ct, loop_ex, exc_nx, exc_rt, exc_bk, exc_ct, exc_ex, List.nil_append, List.cons_append, List.length_cons, List.length_nil, Nat.reduceAdd, v_add_int, v_add_str, v_add_tup, v_add_vls, v_sub, v_mul, v_div, v_mod, v_pow, v_aadd, v_asub, v_aadds, v_cLt, v_cLtE, v_cGt, v_cGtE, v_cEq, v_cNe, v_cEqS, v_cNeS, v_cEqB, v_cNeB, v_is, v_isnt, v_isN_non, v_isN_bl, v_isN_int, v_isN_str, v_isN_tup, v_isN_vls, v_isN_scr, v_isN_loc, v_t_non, v_t_bl, v_t_int, v_t_tup, v_t_vls, v_len_tup, v_list_tup, v_listM_tup, v_tuple_tup, v_idx_tup, v_src_tup, v_len_vls, v_list_vls, v_listM_vls, v_tuple_vls, v_idx_vls, v_src_vls, v_len_scr, v_list_scr, v_listM_scr, v_tuple_scr, v_idx_scr, v_src_scr, v_sli_tup, v_sli_vls, v_sli_scr, v_abs, v_int, v_intb, v_max, v_min, v_i_non_int, v_i_non_bool, v_i_non_str, v_i_non_tuple, v_i_non_list, v_i_non_tl, v_i_bl_int, v_i_bl_bool, v_i_bl_str, v_i_bl_tuple, v_i_bl_list, v_i_bl_tl, v_i_int_int, v_i_int_bool, v_i_int_str, v_i_int_tuple, v_i_int_list, v_i_int_tl, v_i_str_int, v_i_str_bool, v_i_str_str, v_i_str_tuple, v_i_str_list, v_i_str_tl, v_i_tup_int, v_i_tup_bool, v_i_tup_str, v_i_tup_tuple, v_i_tup_list, v_i_tup_tl, v_i_vls_int, v_i_vls_bool, v_i_vls_str, v_i_vls_tuple, v_i_vls_list, v_i_vls_tl, v_i_scr_int, v_i_scr_bool, v_i_scr_str, v_i_scr_tuple, v_i_scr_list, v_i_scr_tl, v_range1, v_range2, v_newF, v_newT, at0, at1, at2, at3, at4, at5, sl0, sl1, sl2, sl3, sl4, sl5, sl6, sl7, sl8, true_and, eq_self, sli_T hl, cut_one, e_zero, T_eq, hdrop]
  obtain ⟨R, hR, hRd⟩ := dgs_split l'
  obtain ⟨A, hA⟩ : ∃ A, A = dgs l' := ⟨_, rfl⟩
  rw [← hA] at hR
  have hAd : ∀ c ∈ A, Dg c := fun c hc => dgs_all (l := l') (by rw [← hA]; exact hc)
  have nine : (b = true → l'[0]? ≠ some 48) → wpSs Γ t_fraction_told_9 ⟨fun _ S1 => ∃ S', XC.Sub S' S1 ∧ Q .non S', fun d S1 => ∃ S', XC.Sub S' S1 ∧ Q d S', fun _ _ => False, fun _ _ => False, fun x _ S1 => ∃ S', XC.Sub S' S1 ∧ E x S'⟩ [some (.str (T l)), some (.int a), none, none, none, none] S0 := by
    intro hb48
    unfold t_fraction_told_9
    simp -implicitDefEqProofs only [wpSs, wpS, wpE, wpEs, wpO, wpC, wpT, wpTs, wpI, look_zero, look_succ, whenB_some, startD, List.set_cons_zero, List.set_cons_succ, at_eq, nxt_nx, nxt_rt, nxt_bk, nxt_ct, nxt_ex, loop_nx, loop_rt, loop_bk, loop_ct, loop_ex, exc_nx, exc_rt, exc_bk, exc_ct, exc_ex, List.nil_append, List.cons_append, List.length_cons, List.length_nil, Nat.reduceAdd, v_add_int, v_add_str, v_add_tup, v_add_vls, v_sub, v_mul, v_div, v_mod, v_pow, v_aadd, v_asub, v_aadds, v_cLt, v_cLtE, v_cGt, v_cGtE, v_cEq, v_cNe, v_cEqS, v_cNeS, v_cEqB, v_cNeB, v_is, v_isnt, v_isN_non, v_isN_bl, v_isN_int, v_isN_str, v_isN_tup, v_isN_vls, v_isN_scr, v_isN_loc, v_t_non, v_t_bl, v_t_int, v_t_tup, v_t_vls, v_len_tup, v_list_tup, v_listM_tup, v_tuple_tup, v_idx_tup, v_src_tup, v_len_vls, v_list_vls, v_listM_vls, v_tuple_vls, v_idx_vls, v_src_vls, v_len_scr, v_list_scr, v_listM_scr, v_tuple_scr, v_idx_scr, v_src_scr, v_sli_tup, v_sli_vls, v_sli_scr, v_abs, v_int, v_intb, v_max, v_min, v_i_non_int, v_i_non_bool, v_i_non_str, v_i_non_tuple, v_i_non_list, v_i_non_tl, v_i_bl_int, v_i_bl_bool, v_i_bl_str, v_i_bl_tuple, v_i_bl_list, v_i_bl_tl, v_i_int_int, v_i_int_bool, v_i_int_str, v_i_int_tuple, v_i_int_list, v_i_int_tl, v_i_str_int, v_i_str_bool, v_i_str_str, v_i_str_tuple, v_i_str_list, v_i_str_tl, v_i_tup_int, v_i_tup_bool, v_i_tup_str, v_i_tup_tuple, v_i_tup_list, v_i_tup_tl, v_i_vls_int, v_i_vls_bool, v_i_vls_str, v_i_vls_tuple, v_i_vls_list, v_i_vls_tl, v_i_scr_int, v_i_scr_bool, v_i_scr_str, v_i_scr_tuple, v_i_scr_list, v_i_scr_tl, v_range1, v_range2, v_newF, v_newT, at0, at1, at2, at3, at4, at5, sl0, sl1, sl2, sl3, sl4, sl5, sl6, sl7, sl8, true_and, eq_self]
    refine h1.call rfl ⟨l, a, A.length, rfl, hl, by rw [hdrop, ← hA], fun h0 => ?_, fun h1' h48 => ?_, fun hpos hno => ?_⟩
    · -- no digit
      refine raise a _ rfl ?_
      rw [hr]
      have hA0 : A = [] := List.length_eq_zero_iff.mp h0
      rw [hA0, List.nil_append] at hR
      cases b with
      | true =>
        rw [hab]
        show rd ⟨.min, 0, 0, -1⟩ 1 l' = .inr 1
        cases R with
        | nil => rw [hR]; rfl
        | cons c R =>
          rw [hR]
          exact rd_no (if_neg fun z => hRd c R rfl z.1)
      | false =>
        rw [hab]
        show rd ⟨.beg, 0, 0, 1⟩ 0 l' = .inr 0
        cases R with
        | nil => rw [hR]; rfl
        | cons c R =>
          rw [hR]
          refine rd_no ?_
          have hn := hRd c R rfl
          have h45 : c ≠ 45 := fun z => by
            have := of_decide_eq_false hb
            rw [hl', hR, z] at this
            exact this rfl
          have h48 : c ≠ 48 := fun z => hn (by rw [z]; decide)
          unfold stp
          dsimp only
          rw [if_neg h45, if_neg h48, if_neg hn]
    · -- a nought ahead
      rw [hget0] at h48
      have hbf : b = false := by
        cases b with
        | false => rfl
        | true => exact absurd h48 (hb48 rfl)
      refine raise (a + 1) _ rfl ?_
      rw [hr, hbf]
      rw [hbf] at hab
      subst hab
      show rd ⟨.beg, 0, 0, 1⟩ 0 l' = .inr (0 + 1)
      match A, h1', hR, hAd with
      | c :: d :: A', _, hR, hAd =>
        rw [hR] at h48 ⊢
        have : c = 48 := by simpa using h48
        subst this
        rfl
    -- digits
    dsimp only
    obtain ⟨c0, A', hA'⟩ : ∃ c0 A', A = c0 :: A' := by
      cases A with
      | nil => simp at hpos
      | cons c t => exact ⟨c, t, rfl⟩
    have hd0 : Dg c0 := hAd c0 (by rw [hA']; simp)
    have hA'd : ∀ c ∈ A', Dg c := fun c hc => hAd c (by rw [hA']; simp [hc])
    have get0 : l[a]? = some c0 := by rw [hget0, hR, hA']; rfl
    have hn48 : c0 = 48 → A' = [] ∧ b = false := fun z => by
      refine ⟨?_, ?_⟩
      · cases A' with
        | nil => rfl
        | cons d A'' => exact absurd (by rw [get0, z]) (hno (by rw [hA']; simp))
      · cases b with
        | false => rfl
        | true => exact absurd (by rw [← hget0, get0, z]) (hb48 rfl)
    have hlR : l.length = a + A.length + R.length := by rw [hla, hR, List.length_append]; omega
    -- the reading behind the digits
    have hrA : c0 ≠ 48 → rdT l = rd ⟨.top, val 0 A, 0, sgv b⟩ (a + A.length) R := fun h48 => by
      rw [hr, hR, hA', rd_first b A' R hd0 h48 hA'd, ← ha]
    have hrZ : c0 = 48 → rdT l = rd ⟨.nou, 0, 0, 1⟩ 1 R ∧ a + A.length = 1 := fun h48 => by
      obtain ⟨e1, e2⟩ := hn48 h48
      subst e1 e2 h48
      rw [hr, hR, hA']
      refine ⟨rfl, ?_⟩
      rw [hab]; rfl
    obtain ⟨e, hE⟩ : ∃ e, e = a + A.length := ⟨_, rfl⟩
    rw [← hE] at hlR hrA hrZ ⊢
    unfold t_fraction_told_8
    simp -implicitDefEqProofs only [wpSs, wpS, wpE, wpEs, wpO, wpC, wpT, wpTs, wpI, look_zero, look_succ, whenB_some, startD, List.set_cons_zero, List.set_cons_succ, at_eq, nxt_nx, nxt_rt, nxt_bk, nxt_ct, nxt_ex, loop_nx, loop_rt, loop_bk, loop_ct, loop_ex, exc_nx, exc_rt, exc_bk, exc_ct, exc_ex, List.nil_append, List.cons_append, List.length_cons, List.length_nil, Nat.reduceAdd, v_add_int, v_add_str, v_add_tup, v_add_vls, v_sub, v_mul, v_div, v_mod, v_pow, v_aadd, v_asub, v_aadds, v_cLt, v_cLtE, v_cGt, v_cGtE, v_cEq, v_cNe, v_cEqS, v_cNeS, v_cEqB, v_cNeB, v_is, v_isnt, v_isN_non, v_isN_bl, v_isN_int, v_isN_str, v_isN_tup, v_isN_vls, v_isN_scr, v_isN_loc, v_t_non, v_t_bl, v_t_int, v_t_tup, v_t_vls, v_len_tup, v_list_tup, v_listM_tup, v_tuple_tup, v_idx_tup, v_src_tup, v_len_vls, v_list_vls, v_listM_vls, v_tuple_vls, v_idx_vls, v_src_vls, v_len_scr, v_list_scr, v_listM_scr, v_tuple_scr, v_idx_scr, v_src_scr, v_sli_tup, v_sli_vls, v_sli_scr, v_abs, v_int, v_intb, v_max, v_min, v_i_non_int, v_i_non_bool, v_i_non_str, v_i_non_tuple, v_i_non_list, v_i_non_tl, v_i_bl_int, v_i_bl_bool, v_i_bl_str, v_i_bl_tuple, v_i_bl_list, v_i_bl_tl, v_i_int_int, v_i_int_bool, v_i_int_str, v_i_int_tuple, v_i_int_list, v_i_int_tl, v_i_str_int, v_i_str_bool, v_i_str_str, v_i_str_tuple, v_i_str_list, v_i_str_tl, v_i_tup_int, v_i_tup_bool, v_i_tup_str, v_i_tup_tuple, v_i_tup_list, v_i_tup_tl, v_i_vls_int, v_i_vls_bool, v_i_vls_str, v_i_vls_tuple, v_i_vls_list, v_i_vls_tl, v_i_scr_int, v_i_scr_bool, v_i_scr_str, v_i_scr_tuple, v_i_scr_list, v_i_scr_tl, v_range1, v_range2, v_newF, v_newT, at0, at1, at2, at3, at4, at5, sl0, sl1, sl2, sl3, sl4, sl5, sl6, sl7, sl8, true_and, eq_self, len_T hl]
    cases R with
    | nil =>
      rw [List.length_nil] at hlR
      refine br_dec (fun _ => ?_) fun h => absurd (show ((e : Nat) : Int) = ((l.length : Nat) : Int) by omega) h
      have el : l = sgL b ++ A := by rw [hl', hR, List.append_nil]
      have hi : intD (T l) = some (sgv b * (val 0 A : Int)) := by rw [el]; exact intD_val b (by rw [hA']; simp) hAd
      rw [v_int_str hi]
      refine ⟨by rw [T_len]; omega, fin_ok (hq _ _ ?_)⟩
      by_cases h48 : c0 = 48
      · obtain ⟨e1, e2⟩ := hn48 h48
        rw [(hrZ h48).1]
        subst e1 e2 h48
        rw [hA']; rfl
      · rw [hrA h48]; rfl
    | cons c R =>
      rw [List.length_cons] at hlR
      refine br_dec (fun h => by omega) fun _ => ?_
      have hc : ¬ Dg c := hRd c R rfl
      have gete : l[e]? = some c := by
        rw [hE, hget, hR, List.getElem?_append_right (Nat.le_refl _), Nat.sub_self]; rfl
      unfold t_fraction_told_7
      simp -implicitDefEqProofs only [wpSs, wpS, wpE, wpEs, wpO, wpC, wpT, wpTs, wpI, look_zero, look_succ, whenB_some, startD, List.set_cons_zero, List.set_cons_succ, at_eq, nxt_nx, nxt_rt, nxt_bk, nxt_ct, nxt_ex, loop_nx, loop_rt, loop_bk, loop_ct, loop_ex, exc_nx, exc_rt, exc_bk, exc_ct, exc_ex, List.nil_append, List.cons_append, List.length_cons, List.length_nil, Nat.reduceAdd, v_add_int, v_add_str, v_add_tup, v_add_vls, v_sub, v_mul, v_div, v_mod, v_pow, v_aadd, v_asub, v_aadds, v_cLt, v_cLtE, v_cGt, v_cGtE, v_cEq, v_cNe, v_cEqS, v_cNeS, v_cEqB, v_cNeB, v_is, v_isnt, v_isN_non, v_isN_bl, v_isN_int, v_isN_str, v_isN_tup, v_isN_vls, v_isN_scr, v_isN_loc, v_t_non, v_t_bl, v_t_int, v_t_tup, v_t_vls, v_len_tup, v_list_tup, v_listM_tup, v_tuple_tup, v_idx_tup, v_src_tup, v_len_vls, v_list_vls, v_listM_vls, v_tuple_vls, v_idx_vls, v_src_vls, v_len_scr, v_list_scr, v_listM_scr, v_tuple_scr, v_idx_scr, v_src_scr, v_sli_tup, v_sli_vls, v_sli_scr, v_abs, v_int, v_intb, v_max, v_min, v_i_non_int, v_i_non_bool, v_i_non_str, v_i_non_tuple, v_i_non_list, v_i_non_tl, v_i_bl_int, v_i_bl_bool, v_i_bl_str, v_i_bl_tuple, v_i_bl_list, v_i_bl_tl, v_i_int_int, v_i_int_bool, v_i_int_str, v_i_int_tuple, v_i_int_list, v_i_int_tl, v_i_str_int, v_i_str_bool, v_i_str_str, v_i_str_tuple, v_i_str_list, v_i_str_tl, v_i_tup_int, v_i_tup_bool, v_i_tup_str, v_i_tup_tuple, v_i_tup_list, v_i_tup_tl, v_i_vls_int, v_i_vls_bool, v_i_vls_str, v_i_vls_tuple, v_i_vls_list, v_i_vls_tl, v_i_scr_int, v_i_scr_bool, v_i_scr_str, v_i_scr_tuple, v_i_scr_list, v_i_scr_tl, v_range1, v_range2, v_newF, v_newT, at0, at1, at2, at3, at4, at5, sl0, sl1, sl2, sl3, sl4, sl5, sl6, sl7, sl8, true_and, eq_self, idx_T hl gete, idx_T hl get0, e_slash, e_zero, T1_eq]
      by_cases h48 : c0 = 48
      · rw [decide_eq_true h48]
        obtain ⟨r1, r2⟩ := hrZ h48
        have hx : rdT l = .inr e := by rw [r1, r2]; rfl
        cases decide (c = 47)
        · exact br_true (raise e _ rfl hx)
        · exact br_false (br_true (raise e _ rfl hx))
      have hrA := hrA h48
      by_cases h47 : c = 47
      rotate_left
      · rw [decide_eq_false h47]
        refine br_true (raise e _ rfl ?_)
        rw [hrA]
        refine rd_no ?_
        unfold stp
        dsimp only
        rw [if_neg hc, if_neg h47]
      subst h47
      rw [decide_eq_true rfl, decide_eq_false h48]
      refine br_false (br_false ?_)
      have hrS : rdT l = rd ⟨.str, val 0 A, 0, sgv b⟩ (e + 1) R := by rw [hrA, rd]; rfl
      have hdE : l.drop (e + 1) = R := by
        rw [hE, show a + A.length + 1 = a + (A.length + 1) by omega, ← List.drop_drop, hdrop, hR, List.drop_append, List.drop_of_length_le (by omega), show A.length + 1 - A.length = 1 by omega]
        try rfl
      unfold t_fraction_told_6
      have c2 : cut l (some ((e : Int) + 1)) (some ((e : Int) + 2)) = R.take 1 := by
        have := cut_one l (e + 1)
        rw [show ((e + 1 : Nat) : Int) = (e : Int) + 1 by omega, show (e : Int) + 1 + 1 = (e : Int) + 2 by omega, hdE] at this
        exact this
      simp -implicitDefEqProofs only [wpSs, wpS, wpE, wpEs, wpO, wpC, wpT, wpTs, wpI, look_zero, look_succ, whenB_some, startD, List.set_cons_zero, List.set_cons_succ, at_eq, nxt_nx, nxt_rt, nxt_bk, nxt_ct, nxt_ex, loop_nx, loop_rt, loop_bk, loop_ct, loop_ex, exc_nx, exc_rt, exc_bk, exc_ct, exc_ex, List.nil_append, List.cons_append, List.length_cons, List.length_nil, Nat.reduceAdd, v_add_int, v_add_str, v_add_tup, v_add_vls, v_sub, v_mul, v_div, v_mod, v_pow, v_aadd, v_asub, v_aadds, v_cLt, v_cLtE, v_cGt, v_cGtE, v_cEq, v_cNe, v_cEqS, v_cNeS, v_cEqB, v_cNeB, v_is, v_isnt, v_isN_non, v_isN_bl, v_isN_int, v_isN_str, v_isN_tup, v_isN_vls, v_isN_scr, v_isN_loc, v_t_non, v_t_bl, v_t_int, v_t_tup, v_t_vls, v_len_tup, v_list_tup, v_listM_tup, v_tuple_tup, v_idx_tup, v_src_tup, v_len_vls, v_list_vls, v_listM_vls, v_tuple_vls, v_idx_vls, v_src_vls, v_len_scr, v_list_scr, v_listM_scr, v_tuple_scr, v_idx_scr, v_src_scr, v_sli_tup, v_sli_vls, v_sli_scr, v_abs, v_int, v_intb, v_max, v_min, v_i_non_int, v_i_non_bool, v_i_non_str, v_i_non_tuple, v_i_non_list, v_i_non_tl, v_i_bl_int, v_i_bl_bool, v_i_bl_str, v_i_bl_tuple, v_i_bl_list, v_i_bl_tl, v_i_int_int, v_i_int_bool, v_i_int_str, v_i_int_tuple, v_i_int_list, v_i_int_tl, v_i_str_int, v_i_str_bool, v_i_str_str, v_i_str_tuple, v_i_str_list, v_i_str_tl, v_i_tup_int, v_i_tup_bool, v_i_tup_str, v_i_tup_tuple, v_i_tup_list, v_i_tup_tl, v_i_vls_int, v_i_vls_bool, v_i_vls_str, v_i_vls_tuple, v_i_vls_list, v_i_vls_tl, v_i_scr_int, v_i_scr_bool, v_i_scr_str, v_i_scr_tuple, v_i_scr_list, v_i_scr_tl, v_range1, v_range2, v_newF, v_newT, at0, at1, at2, at3, at4, at5, sl0, sl1, sl2, sl3, sl4, sl5, sl6, sl7, sl8, true_and, eq_self, sli_T hl, c2, e_zero, T_eq]
      by_cases hR48 : R.take 1 = [48]
      · rw [decide_eq_true hR48]
        refine br_true ?_
        refine raise (e + 1) _ rfl ?_
        rw [hrS]
        match R, hR48 with
        | d :: R', h =>
          have h : [d] = [48] := h
          injection h with h
          subst h
          rfl
      rw [decide_eq_false hR48]
      refine br_false ?_
      obtain ⟨R2, hR2, hRd2⟩ := dgs_split R
      obtain ⟨B, hB⟩ : ∃ B, B = dgs R := ⟨_, rfl⟩
      rw [← hB] at hR2
      have hBd : ∀ c ∈ B, Dg c := fun c hc => dgs_all (l := R) (by rw [← hB]; exact hc)
      have getE : l[e + 1]? = R[0]? := by
        rw [← hdE, List.getElem?_drop]
        try rfl
      have hne48 : l[e + 1]? ≠ some 48 := fun z => by
        rw [getE] at z
        cases R with
        | nil => simp at z
        | cons d R' =>
          have : d = 48 := by simpa using z
          exact hR48 (by rw [this]; rfl)
      unfold t_fraction_told_5
      simp -implicitDefEqProofs only [wpSs, wpS, wpE, wpEs, wpO, wpC, wpT, wpTs, wpI, look_zero, look_succ, whenB_some, startD, List.set_cons_zero, List.set_cons_succ, at_eq, nxt_nx, nxt_rt, nxt_bk, nxt_ct, nxt_ex, loop_nx, loop_rt, loop_bk, loop_ct, loop_ex, exc_nx, exc_rt, exc_bk, exc_ct, exc_ex, List.nil_append, List.cons_append, List.length_cons, List.length_nil, Nat.reduceAdd, v_add_int, v_add_str, v_add_tup, v_add_vls, v_sub, v_mul, v_div, v_mod, v_pow, v_aadd, v_asub, v_aadds, v_cLt, v_cLtE, v_cGt, v_cGtE, v_cEq, v_cNe, v_cEqS, v_cNeS, v_cEqB, v_cNeB, v_is, v_isnt, v_isN_non, v_isN_bl, v_isN_int, v_isN_str, v_isN_tup, v_isN_vls, v_isN_scr, v_isN_loc, v_t_non, v_t_bl, v_t_int, v_t_tup, v_t_vls, v_len_tup, v_list_tup, v_listM_tup, v_tuple_tup, v_idx_tup, v_src_tup, v_len_vls, v_list_vls, v_listM_vls, v_tuple_vls, v_idx_vls, v_src_vls, v_len_scr, v_list_scr, v_listM_scr, v_tuple_scr, v_idx_scr, v_src_scr, v_sli_tup, v_sli_vls, v_sli_scr, v_abs, v_int, v_intb, v_max, v_min, v_i_non_int, v_i_non_bool, v_i_non_str, v_i_non_tuple, v_i_non_list, v_i_non_tl, v_i_bl_int, v_i_bl_bool, v_i_bl_str, v_i_bl_tuple, v_i_bl_list, v_i_bl_tl, v_i_int_int, v_i_int_bool, v_i_int_str, v_i_int_tuple, v_i_int_list, v_i_int_tl, v_i_str_int, v_i_str_bool, v_i_str_str, v_i_str_tuple, v_i_str_list, v_i_str_tl, v_i_tup_int, v_i_tup_bool, v_i_tup_str, v_i_tup_tuple, v_i_tup_list, v_i_tup_tl, v_i_vls_int, v_i_vls_bool, v_i_vls_str, v_i_vls_tuple, v_i_vls_list, v_i_vls_tl, v_i_scr_int, v_i_scr_bool, v_i_scr_str, v_i_scr_tuple, v_i_scr_list, v_i_scr_tl, v_range1, v_range2, v_newF, v_newT, at0, at1, at2, at3, at4, at5, sl0, sl1, sl2, sl3, sl4, sl5, sl6, sl7, sl8, true_and, eq_self]
      refine h1.call rfl ⟨l, e + 1, B.length, by rw [show ((e + 1 : Nat) : Int) = (e : Int) + 1 by omega], hl, by rw [hdE, ← hB], fun h0 => ?_, fun _ h48 => absurd h48 hne48, fun hpos2 _ => ?_⟩
      · refine raise (e + 1) _ rfl ?_
        rw [hrS]
        have hB0 : B = [] := List.length_eq_zero_iff.mp h0
        rw [hB0, List.nil_append] at hR2
        cases R2 with
        | nil => rw [hR2]; rfl
        | cons d R' =>
          rw [hR2]
          exact rd_no (if_neg fun z => hRd2 d R' rfl z.1)
      dsimp only
      obtain ⟨d0, B', hB'⟩ : ∃ d0 B', B = d0 :: B' := by
        cases B with
        | nil => simp at hpos2
        | cons c t => exact ⟨c, t, rfl⟩
      have hdd : Dg d0 := hBd d0 (by rw [hB']; simp)
      have hd48 : d0 ≠ 48 := fun z => hR48 (by rw [hR2, hB', z]; rfl)
      have hB'd : ∀ c ∈ B', Dg c := fun c hc => hBd c (by rw [hB']; simp [hc])
      have hrB : rdT l = rd ⟨.bot, val 0 A, val 0 B, sgv b⟩ (e + 1 + B.length) R2 := by
        rw [hrS, hR2, hB']
        show rd _ _ (d0 :: (B' ++ R2)) = _
        rw [rd]
        have es : stp ⟨.str, val 0 A, 0, sgv b⟩ d0 = some ⟨.bot, val 0 A, d0 - 48, sgv b⟩ := if_pos ⟨hdd, hd48⟩
        rw [es]
        show rd ⟨.bot, val 0 A, d0 - 48, sgv b⟩ (e + 1 + 1) (B' ++ R2) = _
        rw [rd_bot B' _ _ R2 hB'd]
        have ev : val 0 (d0 :: B') = val (d0 - 48) B' := by
          show val (0 * 10 + (d0 - 48)) B' = _
          rw [Nat.zero_mul, Nat.zero_add]
        rw [ev, List.length_cons, show e + 1 + 1 + B'.length = e + 1 + (B'.length + 1) by omega]
      have hlB : l.length = e + 1 + B.length + R2.length := by
        have := congrArg List.length hR2
        rw [List.length_append] at this
        omega
      obtain ⟨k, hk⟩ : ∃ k, k = e + 1 + B.length := ⟨_, rfl⟩
      rw [← hk] at hrB hlB ⊢
      unfold t_fraction_told_4
      simp -implicitDefEqProofs only [wpSs, wpS, wpE, wpEs, wpO, wpC, wpT, wpTs, wpI, look_zero, look_succ, whenB_some, startD, List.set_cons_zero, List.set_cons_succ, at_eq, nxt_nx, nxt_rt, nxt_bk, nxt_ct, nxt_ex, loop_nx, loop_rt, loop_bk, loop_ct, loop_ex, exc_nx, exc_rt, exc_bk, exc_ct, exc_ex, List.nil_append, List.cons_append, List.length_cons, List.length_nil, Nat.reduceAdd, v_add_int, v_add_str, v_add_tup, v_add_vls, v_sub, v_mul, v_div, v_mod, v_pow, v_aadd, v_asub, v_aadds, v_cLt, v_cLtE, v_cGt, v_cGtE, v_cEq, v_cNe, v_cEqS, v_cNeS, v_cEqB, v_cNeB, v_is, v_isnt, v_isN_non, v_isN_bl, v_isN_int, v_isN_str, v_isN_tup, v_isN_vls, v_isN_scr, v_isN_loc, v_t_non, v_t_bl, v_t_int, v_t_tup, v_t_vls, v_len_tup, v_list_tup, v_listM_tup, v_tuple_tup, v_idx_tup, v_src_tup, v_len_vls, v_list_vls, v_listM_vls, v_tuple_vls, v_idx_vls, v_src_vls, v_len_scr, v_list_scr, v_listM_scr, v_tuple_scr, v_idx_scr, v_src_scr, v_sli_tup, v_sli_vls, v_sli_scr, v_abs, v_int, v_intb, v_max, v_min, v_i_non_int, v_i_non_bool, v_i_non_str, v_i_non_tuple, v_i_non_list, v_i_non_tl, v_i_bl_int, v_i_bl_bool, v_i_bl_str, v_i_bl_tuple, v_i_bl_list, v_i_bl_tl, v_i_int_int, v_i_int_bool, v_i_int_str, v_i_int_tuple, v_i_int_list, v_i_int_tl, v_i_str_int, v_i_str_bool, v_i_str_str, v_i_str_tuple, v_i_str_list, v_i_str_tl, v_i_tup_int, v_i_tup_bool, v_i_tup_str, v_i_tup_tuple, v_i_tup_list, v_i_tup_tl, v_i_vls_int, v_i_vls_bool, v_i_vls_str, v_i_vls_tuple, v_i_vls_list, v_i_vls_tl, v_i_scr_int, v_i_scr_bool, v_i_scr_str, v_i_scr_tuple, v_i_scr_list, v_i_scr_tl, v_range1, v_range2, v_newF, v_newT, at0, at1, at2, at3, at4, at5, sl0, sl1, sl2, sl3, sl4, sl5, sl6, sl7, sl8, true_and, eq_self, len_T hl]
      cases R2 with
      | cons c2 R3 =>
        rw [List.length_cons] at hlB
        refine br_dec (fun _ => ?_) fun h => absurd (show ((k : Nat) : Int) < ((l.length : Nat) : Int) by omega) h
        refine raise k _ rfl ?_
        rw [hrB]
        exact rd_no (if_neg (hRd2 c2 R3 rfl))
      | nil =>
        rw [List.length_nil, Nat.add_zero] at hlB
        rw [List.append_nil] at hR2
        refine br_dec (fun h => by omega) fun _ => ?_
        unfold t_fraction_told_3
        have c4 : cut l (some ((e : Int) + 1)) none = B := by
          have := cut_from l (e + 1)
          rw [show ((e + 1 : Nat) : Int) = (e : Int) + 1 by omega, hdE, hR2] at this
          exact this
        have c5 : cut l none (some (e : Int)) = sgL b ++ A := by
          rw [cut_to, hl', hR, hE, ← List.append_assoc, List.take_append_of_le_length (by rw [List.length_append]; omega), List.take_of_length_le (by rw [List.length_append]; omega)]
        have hi : intD (T (sgL b ++ A)) = some (sgv b * (val 0 A : Int)) := intD_val b (by rw [hA']; simp) hAd
        have hi2 : intD (T B) = some ((val 0 B : Nat) : Int) := by
          have := intD_val (A := B) false (by rw [hB']; simp) hBd
          rw [show sgL false ++ B = B from rfl] at this
          rw [this]
          show some (1 * ((val 0 B : Nat) : Int)) = _
          congr 1; omega
        have lA : (sgL b ++ A).length ≤ 640 := by rw [List.length_append]; omega
        have lB : B.length ≤ 640 := by omega
        simp -implicitDefEqProofs only [wpSs, wpS, wpE, wpEs, wpO, wpC, wpT, wpTs, wpI, look_zero, look_succ, whenB_some, startD, List.set_cons_zero, List.set_cons_succ, at_eq, nxt_nx, nxt_rt, nxt_bk, nxt_ct, nxt_ex, loop_nx, loop_rt, loop_bk, loop_ct, loop_ex, exc_nx, exc_rt, exc_bk, exc_ct, exc_ex, List.nil_append, List.cons_append, List.length_cons, List.length_nil, Nat.reduceAdd, v_add_int, v_add_str, v_add_tup, v_add_vls, v_sub, v_mul, v_div, v_mod, v_pow, v_aadd, v_asub, v_aadds, v_cLt, v_cLtE, v_cGt, v_cGtE, v_cEq, v_cNe, v_cEqS, v_cNeS, v_cEqB, v_cNeB, v_is, v_isnt, v_isN_non, v_isN_bl, v_isN_int, v_isN_str, v_isN_tup, v_isN_vls, v_isN_scr, v_isN_loc, v_t_non, v_t_bl, v_t_int, v_t_tup, v_t_vls, v_len_tup, v_list_tup, v_listM_tup, v_tuple_tup, v_idx_tup, v_src_tup, v_len_vls, v_list_vls, v_listM_vls, v_tuple_vls, v_idx_vls, v_src_vls, v_len_scr, v_list_scr, v_listM_scr, v_tuple_scr, v_idx_scr, v_src_scr, v_sli_tup, v_sli_vls, v_sli_scr, v_abs, v_int, v_intb, v_max, v_min, v_i_non_int, v_i_non_bool, v_i_non_str, v_i_non_tuple, v_i_non_list, v_i_non_tl, v_i_bl_int, v_i_bl_bool, v_i_bl_str, v_i_bl_tuple, v_i_bl_list, v_i_bl_tl, v_i_int_int, v_i_int_bool, v_i_int_str, v_i_int_tuple, v_i_int_list, v_i_int_tl, v_i_str_int, v_i_str_bool, v_i_str_str, v_i_str_tuple, v_i_str_list, v_i_str_tl, v_i_tup_int, v_i_tup_bool, v_i_tup_str, v_i_tup_tuple, v_i_tup_list, v_i_tup_tl, v_i_vls_int, v_i_vls_bool, v_i_vls_str, v_i_vls_tuple, v_i_vls_list, v_i_vls_tl, v_i_scr_int, v_i_scr_bool, v_i_scr_str, v_i_scr_tuple, v_i_scr_list, v_i_scr_tl, v_range1, v_range2, v_newF, v_newT, at0, at1, at2, at3, at4, at5, sl0, sl1, sl2, sl3, sl4, sl5, sl6, sl7, sl8, true_and, eq_self, sli_T hl, c4, c5, v_int_str hi, v_int_str hi2, T_len]
        refine ⟨lA, lB, ?_⟩
        have hbp : 0 < val 0 B := by rw [hB']; exact val_pos hdd hd48
        unfold t_fraction_told_2
        have eabs : (if sgv b * (val 0 A : Int) < 0 then -(sgv b * (val 0 A : Int)) else sgv b * (val 0 A : Int)) = ((val 0 A : Nat) : Int) := by
          cases b
          · show (if 1 * ((val 0 A : Nat) : Int) < 0 then -(1 * ((val 0 A : Nat) : Int)) else 1 * ((val 0 A : Nat) : Int)) = _
            split <;> omega
          · show (if -1 * ((val 0 A : Nat) : Int) < 0 then -(-1 * ((val 0 A : Nat) : Int)) else -1 * ((val 0 A : Nat) : Int)) = _
            split <;> omega
        simp -implicitDefEqProofs only [wpSs, wpS, wpE, wpEs, wpO, wpC, wpT, wpTs, wpI, look_zero, look_succ, whenB_some, startD, List.set_cons_zero, List.set_cons_succ, at_eq, nxt_nx, nxt_rt, nxt_bk, nxt_ct, nxt_ex, loop_nx, loop_rt, loop_bk, loop_ct, loop_ex, exc_nx, exc_rt, exc_bk, exc_ct, exc_ex, List.nil_append, List.cons_append, List.length_cons, List.length_nil, Nat.reduceAdd, v_add_int, v_add_str, v_add_tup, v_add_vls, v_sub, v_mul, v_div, v_mod, v_pow, v_aadd, v_asub, v_aadds, v_cLt, v_cLtE, v_cGt, v_cGtE, v_cEq, v_cNe, v_cEqS, v_cNeS, v_cEqB, v_cNeB, v_is, v_isnt, v_isN_non, v_isN_bl, v_isN_int, v_isN_str, v_isN_tup, v_isN_vls, v_isN_scr, v_isN_loc, v_t_non, v_t_bl, v_t_int, v_t_tup, v_t_vls, v_len_tup, v_list_tup, v_listM_tup, v_tuple_tup, v_idx_tup, v_src_tup, v_len_vls, v_list_vls, v_listM_vls, v_tuple_vls, v_idx_vls, v_src_vls, v_len_scr, v_list_scr, v_listM_scr, v_tuple_scr, v_idx_scr, v_src_scr, v_sli_tup, v_sli_vls, v_sli_scr, v_abs, v_int, v_intb, v_max, v_min, v_i_non_int, v_i_non_bool, v_i_non_str, v_i_non_tuple, v_i_non_list, v_i_non_tl, v_i_bl_int, v_i_bl_bool, v_i_bl_str, v_i_bl_tuple, v_i_bl_list, v_i_bl_tl, v_i_int_int, v_i_int_bool, v_i_int_str, v_i_int_tuple, v_i_int_list, v_i_int_tl, v_i_str_int, v_i_str_bool, v_i_str_str, v_i_str_tuple, v_i_str_list, v_i_str_tl, v_i_tup_int, v_i_tup_bool, v_i_tup_str, v_i_tup_tuple, v_i_tup_list, v_i_tup_tl, v_i_vls_int, v_i_vls_bool, v_i_vls_str, v_i_vls_tuple, v_i_vls_list, v_i_vls_tl, v_i_scr_int, v_i_scr_bool, v_i_scr_str, v_i_scr_tuple, v_i_scr_list, v_i_scr_tl, v_range1, v_range2, v_newF, v_newT, at0, at1, at2, at3, at4, at5, sl0, sl1, sl2, sl3, sl4, sl5, sl6, sl7, sl8, true_and, eq_self]
        by_cases hb1 : val 0 B = 1
        · rw [decide_eq_true (show ((val 0 B : Nat) : Int) = 1 by omega)]
          refine br_true ?_
          refine br_true ?_
          refine raise k _ rfl ?_
          rw [hrB]
          exact if_neg fun z => by have := z.1; dsimp only at this; omega
        rw [decide_eq_false (show ¬ ((val 0 B : Nat) : Int) = 1 by omega)]
        refine br_false ?_
        simp -implicitDefEqProofs only [wpSs, wpS, wpE, wpEs, wpO, wpC, wpT, wpTs, wpI, look_zero, look_succ, whenB_some, startD, List.set_cons_zero, List.set_cons_succ, at_eq, nxt_nx, nxt_rt, nxt_bk, nxt_ct, nxt_ex, loop_nx, loop_rt, loop_bk, loop_ct, loop_ex, exc_nx, exc_rt, exc_bk, exc_ct, exc_ex, List.nil_append, List.cons_append, List.length_cons, List.length_nil, Nat.reduceAdd, v_add_int, v_add_str, v_add_tup, v_add_vls, v_sub, v_mul, v_div, v_mod, v_pow, v_aadd, v_asub, v_aadds, v_cLt, v_cLtE, v_cGt, v_cGtE, v_cEq, v_cNe, v_cEqS, v_cNeS, v_cEqB, v_cNeB, v_is, v_isnt, v_isN_non, v_isN_bl, v_isN_int, v_isN_str, v_isN_tup, v_isN_vls, v_isN_scr, v_isN_loc, v_t_non, v_t_bl, v_t_int, v_t_tup, v_t_vls, v_len_tup, v_list_tup, v_listM_tup, v_tuple_tup, v_idx_tup, v_src_tup, v_len_vls, v_list_vls, v_listM_vls, v_tuple_vls, v_idx_vls, v_src_vls, v_len_scr, v_list_scr, v_listM_scr, v_tuple_scr, v_idx_scr, v_src_scr, v_sli_tup, v_sli_vls, v_sli_scr, v_abs, v_int, v_intb, v_max, v_min, v_i_non_int, v_i_non_bool, v_i_non_str, v_i_non_tuple, v_i_non_list, v_i_non_tl, v_i_bl_int, v_i_bl_bool, v_i_bl_str, v_i_bl_tuple, v_i_bl_list, v_i_bl_tl, v_i_int_int, v_i_int_bool, v_i_int_str, v_i_int_tuple, v_i_int_list, v_i_int_tl, v_i_str_int, v_i_str_bool, v_i_str_str, v_i_str_tuple, v_i_str_list, v_i_str_tl, v_i_tup_int, v_i_tup_bool, v_i_tup_str, v_i_tup_tuple, v_i_tup_list, v_i_tup_tl, v_i_vls_int, v_i_vls_bool, v_i_vls_str, v_i_vls_tuple, v_i_vls_list, v_i_vls_tl, v_i_scr_int, v_i_scr_bool, v_i_scr_str, v_i_scr_tuple, v_i_scr_list, v_i_scr_tl, v_range1, v_range2, v_newF, v_newT, at0, at1, at2, at3, at4, at5, sl0, sl1, sl2, sl3, sl4, sl5, sl6, sl7, sl8, true_and, eq_self, eabs]
        refine h2.call rfl ⟨_, _, rfl, by omega, by omega, ?_⟩
        have eg : Int.gcd ((val 0 A : Nat) : Int) ((val 0 B : Nat) : Int) = Nat.gcd (val 0 A) (val 0 B) := rfl
        have hgp : 0 < Nat.gcd (val 0 A) (val 0 B) := Nat.gcd_pos_of_pos_right _ hbp
        simp -implicitDefEqProofs only [wpSs, wpS, wpE, wpEs, wpO, wpC, wpT, wpTs, wpI, look_zero, look_succ, whenB_some, startD, List.set_cons_zero, List.set_cons_succ, at_eq, nxt_nx, nxt_rt, nxt_bk, nxt_ct, nxt_ex, loop_nx, loop_rt, loop_bk, loop_ct, loop_ex, exc_nx, exc_rt, exc_bk, exc_ct, exc_ex, List.nil_append, List.cons_append, List.length_cons, List.length_nil, Nat.reduceAdd, v_add_int, v_add_str, v_add_tup, v_add_vls, v_sub, v_mul, v_div, v_mod, v_pow, v_aadd, v_asub, v_aadds, v_cLt, v_cLtE, v_cGt, v_cGtE, v_cEq, v_cNe, v_cEqS, v_cNeS, v_cEqB, v_cNeB, v_is, v_isnt, v_isN_non, v_isN_bl, v_isN_int, v_isN_str, v_isN_tup, v_isN_vls, v_isN_scr, v_isN_loc, v_t_non, v_t_bl, v_t_int, v_t_tup, v_t_vls, v_len_tup, v_list_tup, v_listM_tup, v_tuple_tup, v_idx_tup, v_src_tup, v_len_vls, v_list_vls, v_listM_vls, v_tuple_vls, v_idx_vls, v_src_vls, v_len_scr, v_list_scr, v_listM_scr, v_tuple_scr, v_idx_scr, v_src_scr, v_sli_tup, v_sli_vls, v_sli_scr, v_abs, v_int, v_intb, v_max, v_min, v_i_non_int, v_i_non_bool, v_i_non_str, v_i_non_tuple, v_i_non_list, v_i_non_tl, v_i_bl_int, v_i_bl_bool, v_i_bl_str, v_i_bl_tuple, v_i_bl_list, v_i_bl_tl, v_i_int_int, v_i_int_bool, v_i_int_str, v_i_int_tuple, v_i_int_list, v_i_int_tl, v_i_str_int, v_i_str_bool, v_i_str_str, v_i_str_tuple, v_i_str_list, v_i_str_tl, v_i_tup_int, v_i_tup_bool, v_i_tup_str, v_i_tup_tuple, v_i_tup_list, v_i_tup_tl, v_i_vls_int, v_i_vls_bool, v_i_vls_str, v_i_vls_tuple, v_i_vls_list, v_i_vls_tl, v_i_scr_int, v_i_scr_bool, v_i_scr_str, v_i_scr_tuple, v_i_scr_list, v_i_scr_tl, v_range1, v_range2, v_newF, v_newT, at0, at1, at2, at3, at4, at5, sl0, sl1, sl2, sl3, sl4, sl5, sl6, sl7, sl8, true_and, eq_self, eg]
        refine br_dec (fun h => ?_) fun h => ?_
        · refine raise k _ rfl ?_
          rw [hrB]
          exact if_neg fun z => by have := z.2; dsimp only at this; omega
        · unfold t_fraction_told_1
          simp -implicitDefEqProofs only [wpSs, wpS, wpE, wpEs, wpO, wpC, wpT, wpTs, wpI, look_zero, look_succ, whenB_some, startD, List.set_cons_zero, List.set_cons_succ, at_eq, nxt_nx, nxt_rt, nxt_bk, nxt_ct, nxt_ex, loop_nx, loop_rt, loop_bk, loop_ct, loop_ex, exc_nx, exc_rt, exc_bk, exc_ct, exc_ex, List.nil_append, List.cons_append, List.length_cons, List.length_nil, Nat.reduceAdd, v_add_int, v_add_str, v_add_tup, v_add_vls, v_sub, v_mul, v_div, v_mod, v_pow, v_aadd, v_asub, v_aadds, v_cLt, v_cLtE, v_cGt, v_cGtE, v_cEq, v_cNe, v_cEqS, v_cNeS, v_cEqB, v_cNeB, v_is, v_isnt, v_isN_non, v_isN_bl, v_isN_int, v_isN_str, v_isN_tup, v_isN_vls, v_isN_scr, v_isN_loc, v_t_non, v_t_bl, v_t_int, v_t_tup, v_t_vls, v_len_tup, v_list_tup, v_listM_tup, v_tuple_tup, v_idx_tup, v_src_tup, v_len_vls, v_list_vls, v_listM_vls, v_tuple_vls, v_idx_vls, v_src_vls, v_len_scr, v_list_scr, v_listM_scr, v_tuple_scr, v_idx_scr, v_src_scr, v_sli_tup, v_sli_vls, v_sli_scr, v_abs, v_int, v_intb, v_max, v_min, v_i_non_int, v_i_non_bool, v_i_non_str, v_i_non_tuple, v_i_non_list, v_i_non_tl, v_i_bl_int, v_i_bl_bool, v_i_bl_str, v_i_bl_tuple, v_i_bl_list, v_i_bl_tl, v_i_int_int, v_i_int_bool, v_i_int_str, v_i_int_tuple, v_i_int_list, v_i_int_tl, v_i_str_int, v_i_str_bool, v_i_str_str, v_i_str_tuple, v_i_str_list, v_i_str_tl, v_i_tup_int, v_i_tup_bool, v_i_tup_str, v_i_tup_tuple, v_i_tup_list, v_i_tup_tl, v_i_vls_int, v_i_vls_bool, v_i_vls_str, v_i_vls_tuple, v_i_vls_list, v_i_vls_tl, v_i_scr_int, v_i_scr_bool, v_i_scr_str, v_i_scr_tuple, v_i_scr_list, v_i_scr_tl, v_range1, v_range2, v_newF, v_newT, at0, at1, at2, at3, at4, at5, sl0, sl1, sl2, sl3, sl4, sl5, sl6, sl7, sl8, true_and, eq_self]
          refine fin_ok (hq _ _ ?_)
          rw [hrB]
          exact if_pos ⟨by dsimp only; omega, by dsimp only; omega⟩
  by_cases hx : b = true ∧ l'[0]? = some 48
  · have e1 : l'.take 1 = [48] := by
      cases l' with
      | nil => simp at hx
      | cons d r =>
        have : d = 48 := by simpa using hx.2
        rw [this]; rfl
    rw [e1, decide_eq_true rfl]
    have hb1 := hx.1
    subst hb1
    refine br_true ?_
    have ha1 : a = 1 := hab
    subst ha1
    rw [decide_eq_true (show ((1 : Nat) : Int) = 1 by rfl)]
    refine br_true ?_
    refine raise 1 _ rfl ?_
    rw [hr]
    cases l' with
    | nil => simp at hx
    | cons d r =>
      have : d = 48 := by simpa using hx.2
      subst this
      rfl
  · have nine := nine fun hb z => hx ⟨hb, z⟩
    cases hd : decide (l'.take 1 = [48]) with
    | false => exact br_false (br_false nine)
    | true =>
      refine br_true ?_
      have : b = false := by
        cases b with
        | false => rfl
        | true =>
          have h := of_decide_eq_true hd
          cases l' with
          | nil => cases h
          | cons d r =>
            have h : [d] = [48] := h
            injection h with h
            exact absurd ⟨rfl, by rw [h]; rfl⟩ hx
      rw [this] at hab
      have ha0 : a = 0 := hab
      rw [decide_eq_false (show ¬ ((a : Nat) : Int) = 1 by omega)]
      exact br_false nine
end XC.Kk05
end

section
set_option Elab.async false
set_option linter.all false
set_option maxRecDepth 100000
set_option exponentiation.threshold 100000
namespace XC.Kk05
open PySem
def dueOf : D → D
  | .str x => resD (rdT x.cps.toList)
  | _ => .vls [.int 0]
def okTx : D → Bool
  | .str x => decide (x.length ≤ 110)
  | .non => true
  | .bl _ => true
  | .int _ => true
  | .tup _ => true
  | .vls _ => true
  | _ => false
theorem okTx_cases {d : D} (h : okTx d = true) : (∃ l, d = .str (T l) ∧ l.length ≤ 110 ∧ dueOf d = resD (rdT l)) ∨ (∀ S, isiD S d [.str] = some false) ∧ dueOf d = .vls [.int 0] := by
  cases d with
  | str x =>
    refine .inl ⟨x.cps.toList, by rw [← str_T], ?_, rfl⟩
    have h := of_decide_eq_true (show decide (x.length ≤ 110) = true from h)
    have e : x.length = x.cps.toList.length := by rw [Array.length_toList]; rfl
    omega
  | non => exact .inr ⟨fun _ => rfl, rfl⟩
  | bl b => exact .inr ⟨fun _ => rfl, rfl⟩
  | int i => exact .inr ⟨fun _ => rfl, rfl⟩
  | tup xs => exact .inr ⟨fun _ => rfl, rfl⟩
  | vls xs => exact .inr ⟨fun _ => rfl, rfl⟩
  | scr xs => cases h
  | loc a => cases h
theorem due_nice (d : D) : nice 4 (dueOf d) = true := by
  have key : ∀ r, nice 4 (resD r) = true := fun r => by
    cases r with
    | inl p => obtain ⟨x, y⟩ := p; rfl
    | inr i => rfl
  cases d <;> first | exact key _ | rfl
def sp_Ltold : Spec := fun ds S Q _ => ∃ d b, ds = [d, .bl b] ∧ okTx d = true ∧ Q (dueOf d) S
theorem w_L_told {Γ : Ctx} (hs : Γ.sub f_InvalidText f_InvalidText = some true) (h1 : Has Γ f_fraction_told 1 sp_told) : ∀ ds S Q E, sp_Ltold ds S Q E → wpFn Γ c_L_told ds S Q E := by
  rintro _ S0 Q E ⟨d, b, rfl, hd, hq⟩
  unfold wpFn c_L_told
  simp -implicitDefEqProofs only [wpSs, wpS, wpE, wpEs, wpO, wpC, wpT, wpTs, wpI, look_zero, look_succ, whenB_some, startD, List.set_cons_zero, List.set_cons_succ, at_eq, nxt_nx, nxt_rt, nxt_bk, nxt_ct, nxt_ex, loop_nx, loop_rt, loop_bk, loop_ct, loop_ex, exc_nx, exc_rt, exc_bk, exc_ct, exc_ex, List.nil_append, List.cons_append, List.length_cons, List.length_nil, Nat.reduceAdd, v_add_int, v_add_str, v_add_tup, v_add_vls, v_sub, v_mul, v_div, v_mod, v_pow, v_aadd, v_asub, v_aadds, v_cLt, v_cLtE, v_cGt, v_cGtE, v_cEq, v_cNe, v_cEqS, v_cNeS, v_cEqB, v_cNeB, v_is, v_isnt, v_isN_non, v_isN_bl, v_isN_int, v_isN_str, v_isN_tup, v_isN_vls, v_isN_scr, v_isN_loc, v_t_non, v_t_bl, v_t_int, v_t_tup, v_t_vls, v_len_tup, v_list_tup, v_listM_tup, v_tuple_tup, v_idx_tup, v_src_tup, v_len_vls, v_list_vls, v_listM_vls, v_tuple_vls, v_idx_vls, v_src_vls, v_len_scr, v_list_scr, v_listM_scr, v_tuple_scr, v_idx_scr, v_src_scr, v_sli_tup, v_sli_vls, v_sli_scr, v_abs, v_int, v_intb, v_max, v_min, v_i_non_int, v_i_non_bool, v_i_non_str, v_i_non_tuple, v_i_non_list, v_i_non_tl, v_i_bl_int, v_i_bl_bool, v_i_bl_str, v_i_bl_tuple, v_i_bl_list, v_i_bl_tl, v_i_int_int, v_i_int_bool, v_i_int_str, v_i_int_tuple, v_i_int_list, v_i_int_tl, v_i_str_int, v_i_str_bool, v_i_str_str, v_i_str_tuple, v_i_str_list, v_i_str_tl, v_i_tup_int, v_i_tup_bool, v_i_tup_str, v_i_tup_tuple, v_i_tup_list, v_i_tup_tl, v_i_vls_int, v_i_vls_bool, v_i_vls_str, v_i_vls_tuple, v_i_vls_list, v_i_vls_tl, v_i_scr_int, v_i_scr_bool, v_i_scr_str, v_i_scr_tuple, v_i_scr_list, v_i_scr_tl, v_range1, v_range2, v_newF, v_newT, at0, at1, at2, at3, at4, at5, sl0, sl1, sl2, sl3, sl4, sl5, sl6, sl7, sl8, true_and, eq_self, pickD, List.mapM_cons, List.mapM_nil]
  have go : ∀ {Q' : QE} {E' : EX}, (∀ S1, S1 = S0 → Q' (dueOf d) S1) → (∀ i, dueOf d = .vls [.int i] → E' ⟨f_InvalidText, some (.int i)⟩ S0) → sp_told [d] S0 Q' E' := fun {Q' E'} k1 k2 => by
    rcases okTx_cases hd with ⟨l, e, hl, ed⟩ | ⟨hi, ed⟩
    · subst e
      refine .inl ⟨l, rfl, hl, fun x y h => ?_, fun i h => ?_⟩
      · have := k1 S0 rfl
        rw [ed, h] at this
        exact this
      · exact k2 i (by rw [ed, h]; rfl)
    · exact .inr ⟨d, rfl, hi S0, k2 0 ed⟩
  refine br_bool (fun _ => ?_) fun _ => ?_
  · refine h1.call rfl (go (fun S1 e => ?_) fun i e => ?_)
    · subst e; exact fin_ok hq
    · refine ⟨⟨rfl, hs, by decide⟩, _, rfl, ?_⟩
      rw [e] at hq
      exact fin_ok hq
  · refine h1.call rfl (go (fun S1 e => ?_) fun i e => ?_)
    · subst e; exact fin_ok hq
    · refine ⟨⟨rfl, hs, by decide⟩, _, rfl, ?_⟩
      rw [e] at hq
      exact fin_ok hq
theorem e_signs : Str.ofString "0123456789-/+ .\n0/" = T [48, 49, 50, 51, 52, 53, 54, 55, 56, 57, 45, 47, 43, 32, 46, 10, 48, 47] := by decide +kernel
theorem small8 {n : Int} (h : 0 ≤ n) (h1 : n < 1000000) : n.natAbs < 2 ^ 8000 := Nat.lt_trans (m := 2 ^ 20) (by omega) (Nat.pow_lt_pow_right (by decide) (by decide))
def sp_spoilt : Spec := fun ds S Q _ => ∃ (a b : Nat) (l : List Nat), ds = [.loc a, .str (T l)] ∧ l.length ≤ 108 ∧ Spr a b S ∧ ∀ l' S', l'.length ≤ 110 → Spr a b S' → Frm a b S S' → Q (.str (T l')) S'
theorem w_L_spoilt {Γ : Ctx} (hd : Has Γ f_L_drop 2 sp_drop) : ∀ ds S Q E, sp_spoilt ds S Q E → wpFn Γ c_L_spoilt ds S Q E := by
  rintro _ S0 Q E ⟨a, b, l, rfl, hl, sp0, hq⟩
  unfold wpFn c_L_spoilt
  simp -implicitDefEqProofs only [wpSs, wpS, wpE, wpEs, wpO, wpC, wpT, wpTs, wpI, look_zero, look_succ, whenB_some, startD, List.set_cons_zero, List.set_cons_succ, at_eq, nxt_nx, nxt_rt, nxt_bk, nxt_ct, nxt_ex, loop_nx, loop_rt, loop_bk, loop_ct, loop_ex, exc_nx, exc_rt, exc_bk, exc_ct, exc_ex, List.nil_append, List.cons_append, List.length_cons, List.length_nil, Nat.reduceAdd, v_add_int, v_add_str, v_add_tup, v_add_vls, v_sub, v_mul, v_div, v_mod, v_pow, v_aadd, v_asub, v_aadds, v_cLt, v_cLtE, v_cGt, v_cGtE, v_cEq, v_cNe, v_cEqS, v_cNeS, v_cEqB, v_cNeB, v_is, v_isnt, v_isN_non, v_isN_bl, v_isN_int, v_isN_str, v_isN_tup, v_isN_vls, v_isN_scr, v_isN_loc, v_t_non, v_t_bl, v_t_int, v_t_tup, v_t_vls, v_len_tup, v_list_tup, v_listM_tup, v_tuple_tup, v_idx_tup, v_src_tup, v_len_vls, v_list_vls, v_listM_vls, v_tuple_vls, v_idx_vls, v_src_vls, v_len_scr, v_list_scr, v_listM_scr, v_tuple_scr, v_idx_scr, v_src_scr, v_sli_tup, v_sli_vls, v_sli_scr, v_abs, v_int, v_intb, v_max, v_min, v_i_non_int, v_i_non_bool, v_i_non_str, v_i_non_tuple, v_i_non_list, v_i_non_tl, v_i_bl_int, v_i_bl_bool, v_i_bl_str, v_i_bl_tuple, v_i_bl_list, v_i_bl_tl, v_i_int_int, v_i_int_bool, v_i_int_str, v_i_int_tuple, v_i_int_list, v_i_int_tl, v_i_str_int, v_i_str_bool, v_i_str_str, v_i_str_tuple, v_i_str_list, v_i_str_tl, v_i_tup_int, v_i_tup_bool, v_i_tup_str, v_i_tup_tuple, v_i_tup_list, v_i_tup_tl, v_i_vls_int, v_i_vls_bool, v_i_vls_str, v_i_vls_tuple, v_i_vls_list, v_i_vls_tl, v_i_scr_int, v_i_scr_bool, v_i_scr_str, v_i_scr_tuple, v_i_scr_list, v_i_scr_tl, v_range1, v_range2, v_newF, v_newT, at0, at1, at2, at3, at4, at5, sl0, sl1, sl2, sl3, sl4, sl5, sl6, sl7, sl8, true_and, eq_self]
  refine hd.call rfl ⟨a, b, _, rfl, by first | decide | omega, by first | decide | exact small8 (by omega) (by omega), sp0, fun n S1 n_0 n_1 sp1 f1 => ?_⟩
  simp -implicitDefEqProofs only [wpSs, wpS, wpE, wpEs, wpO, wpC, wpT, wpTs, wpI, look_zero, look_succ, whenB_some, startD, List.set_cons_zero, List.set_cons_succ, at_eq, nxt_nx, nxt_rt, nxt_bk, nxt_ct, nxt_ex, loop_nx, loop_rt, loop_bk, loop_ct, loop_ex, exc_nx, exc_rt, exc_bk, exc_ct, exc_ex, List.nil_append, List.cons_append, List.length_cons, List.length_nil, Nat.reduceAdd, v_add_int, v_add_str, v_add_tup, v_add_vls, v_sub, v_mul, v_div, v_mod, v_pow, v_aadd, v_asub, v_aadds, v_cLt, v_cLtE, v_cGt, v_cGtE, v_cEq, v_cNe, v_cEqS, v_cNeS, v_cEqB, v_cNeB, v_is, v_isnt, v_isN_non, v_isN_bl, v_isN_int, v_isN_str, v_isN_tup, v_isN_vls, v_isN_scr, v_isN_loc, v_t_non, v_t_bl, v_t_int, v_t_tup, v_t_vls, v_len_tup, v_list_tup, v_listM_tup, v_tuple_tup, v_idx_tup, v_src_tup, v_len_vls, v_list_vls, v_listM_vls, v_tuple_vls, v_idx_vls, v_src_vls, v_len_scr, v_list_scr, v_listM_scr, v_tuple_scr, v_idx_scr, v_src_scr, v_sli_tup, v_sli_vls, v_sli_scr, v_abs, v_int, v_intb, v_max, v_min, v_i_non_int, v_i_non_bool, v_i_non_str, v_i_non_tuple, v_i_non_list, v_i_non_tl, v_i_bl_int, v_i_bl_bool, v_i_bl_str, v_i_bl_tuple, v_i_bl_list, v_i_bl_tl, v_i_int_int, v_i_int_bool, v_i_int_str, v_i_int_tuple, v_i_int_list, v_i_int_tl, v_i_str_int, v_i_str_bool, v_i_str_str, v_i_str_tuple, v_i_str_list, v_i_str_tl, v_i_tup_int, v_i_tup_bool, v_i_tup_str, v_i_tup_tuple, v_i_tup_list, v_i_tup_tl, v_i_vls_int, v_i_vls_bool, v_i_vls_str, v_i_vls_tuple, v_i_vls_list, v_i_vls_tl, v_i_scr_int, v_i_scr_bool, v_i_scr_str, v_i_scr_tuple, v_i_scr_list, v_i_scr_tl, v_range1, v_range2, v_newF, v_newT, at0, at1, at2, at3, at4, at5, sl0, sl1, sl2, sl3, sl4, sl5, sl6, sl7, sl8, true_and, eq_self]
  refine ⟨by omega, by omega, ?_⟩
  refine for_rng (fun i ρ S' => ∃ (l' : List Nat) (y2 y3 y4 y5 : Option D), ρ = [some (.loc a), some (.str (T l')), y2, y3, y4, y5] ∧ l'.length ≤ 108 + i ∧ Spr a b S' ∧ Frm a b S0 S') ⟨l, _, _, _, _, rfl, by omega, sp1, f1⟩ ?_ ?_
  · rintro ρ S2 ⟨l', y2, y3, y4, y5, rfl, hl', sp2, f2⟩
    refine ⟨trivial, ?_⟩
    simp -implicitDefEqProofs only [wpSs, wpS, wpE, wpEs, wpO, wpC, wpT, wpTs, wpI, look_zero, look_succ, whenB_some, startD, List.set_cons_zero, List.set_cons_succ, at_eq, nxt_nx, nxt_rt, nxt_bk, nxt_ct, nxt_ex, loop_nx, loop_rt, loop_bk, loop_ct, loop_ex, exc_nx, exc_rt, exc_bk, exc_ct, exc_ex, List.nil_append, List.cons_append, List.length_cons, List.length_nil, Nat.reduceAdd, v_add_int, v_add_str, v_add_tup, v_add_vls, v_sub, v_mul, v_div, v_mod, v_pow, v_aadd, v_asub, v_aadds, v_cLt, v_cLtE, v_cGt, v_cGtE, v_cEq, v_cNe, v_cEqS, v_cNeS, v_cEqB, v_cNeB, v_is, v_isnt, v_isN_non, v_isN_bl, v_isN_int, v_isN_str, v_isN_tup, v_isN_vls, v_isN_scr, v_isN_loc, v_t_non, v_t_bl, v_t_int, v_t_tup, v_t_vls, v_len_tup, v_list_tup, v_listM_tup, v_tuple_tup, v_idx_tup, v_src_tup, v_len_vls, v_list_vls, v_listM_vls, v_tuple_vls, v_idx_vls, v_src_vls, v_len_scr, v_list_scr, v_listM_scr, v_tuple_scr, v_idx_scr, v_src_scr, v_sli_tup, v_sli_vls, v_sli_scr, v_abs, v_int, v_intb, v_max, v_min, v_i_non_int, v_i_non_bool, v_i_non_str, v_i_non_tuple, v_i_non_list, v_i_non_tl, v_i_bl_int, v_i_bl_bool, v_i_bl_str, v_i_bl_tuple, v_i_bl_list, v_i_bl_tl, v_i_int_int, v_i_int_bool, v_i_int_str, v_i_int_tuple, v_i_int_list, v_i_int_tl, v_i_str_int, v_i_str_bool, v_i_str_str, v_i_str_tuple, v_i_str_list, v_i_str_tl, v_i_tup_int, v_i_tup_bool, v_i_tup_str, v_i_tup_tuple, v_i_tup_list, v_i_tup_tl, v_i_vls_int, v_i_vls_bool, v_i_vls_str, v_i_vls_tuple, v_i_vls_list, v_i_vls_tl, v_i_scr_int, v_i_scr_bool, v_i_scr_str, v_i_scr_tuple, v_i_scr_list, v_i_scr_tl, v_range1, v_range2, v_newF, v_newT, at0, at1, at2, at3, at4, at5, sl0, sl1, sl2, sl3, sl4, sl5, sl6, sl7, sl8, true_and, eq_self]
    exact fin_ok (hq _ _ (by omega) sp2 f2)
  · rintro i hi ρ S2 K ⟨l', y2, y3, y4, y5, rfl, hl', sp2, f2'⟩ ih
    refine ⟨trivial, ?_⟩
    have h2 : l'.length ≤ 2000 := by omega
    simp -implicitDefEqProofs only [wpSs, wpS, wpE, wpEs, wpO, wpC, wpT, wpTs, wpI, look_zero, look_succ, whenB_some, startD, List.set_cons_zero, List.set_cons_succ, at_eq, nxt_nx, nxt_rt, nxt_bk, nxt_ct, nxt_ex, loop_nx, loop_rt, loop_bk, loop_ct, loop_ex, exc_nx, exc_rt, exc_bk, exc_ct, exc_ex, List.nil_append, List.cons_append, List.length_cons, List.length_nil, Nat.reduceAdd, v_add_int, v_add_str, v_add_tup, v_add_vls, v_sub, v_mul, v_div, v_mod, v_pow, v_aadd, v_asub, v_aadds, v_cLt, v_cLtE, v_cGt, v_cGtE, v_cEq, v_cNe, v_cEqS, v_cNeS, v_cEqB, v_cNeB, v_is, v_isnt, v_isN_non, v_isN_bl, v_isN_int, v_isN_str, v_isN_tup, v_isN_vls, v_isN_scr, v_isN_loc, v_t_non, v_t_bl, v_t_int, v_t_tup, v_t_vls, v_len_tup, v_list_tup, v_listM_tup, v_tuple_tup, v_idx_tup, v_src_tup, v_len_vls, v_list_vls, v_listM_vls, v_tuple_vls, v_idx_vls, v_src_vls, v_len_scr, v_list_scr, v_listM_scr, v_tuple_scr, v_idx_scr, v_src_scr, v_sli_tup, v_sli_vls, v_sli_scr, v_abs, v_int, v_intb, v_max, v_min, v_i_non_int, v_i_non_bool, v_i_non_str, v_i_non_tuple, v_i_non_list, v_i_non_tl, v_i_bl_int, v_i_bl_bool, v_i_bl_str, v_i_bl_tuple, v_i_bl_list, v_i_bl_tl, v_i_int_int, v_i_int_bool, v_i_int_str, v_i_int_tuple, v_i_int_list, v_i_int_tl, v_i_str_int, v_i_str_bool, v_i_str_str, v_i_str_tuple, v_i_str_list, v_i_str_tl, v_i_tup_int, v_i_tup_bool, v_i_tup_str, v_i_tup_tuple, v_i_tup_list, v_i_tup_tl, v_i_vls_int, v_i_vls_bool, v_i_vls_str, v_i_vls_tuple, v_i_vls_list, v_i_vls_tl, v_i_scr_int, v_i_scr_bool, v_i_scr_str, v_i_scr_tuple, v_i_scr_list, v_i_scr_tl, v_range1, v_range2, v_newF, v_newT, at0, at1, at2, at3, at4, at5, sl0, sl1, sl2, sl3, sl4, sl5, sl6, sl7, sl8, true_and, eq_self]
    refine hd.call rfl ⟨a, b, _, rfl, by first | decide | omega, by first | decide | exact small8 (by omega) (by omega), sp2, fun w S3 w_0 w_1 sp3 f3 => ?_⟩
    simp -implicitDefEqProofs only [wpSs, wpS, wpE, wpEs, wpO, wpC, wpT, wpTs, wpI, look_zero, look_succ, whenB_some, startD, List.set_cons_zero, List.set_cons_succ, at_eq, nxt_nx, nxt_rt, nxt_bk, nxt_ct, nxt_ex, loop_nx, loop_rt, loop_bk, loop_ct, loop_ex, exc_nx, exc_rt, exc_bk, exc_ct, exc_ex, List.nil_append, List.cons_append, List.length_cons, List.length_nil, Nat.reduceAdd, v_add_int, v_add_str, v_add_tup, v_add_vls, v_sub, v_mul, v_div, v_mod, v_pow, v_aadd, v_asub, v_aadds, v_cLt, v_cLtE, v_cGt, v_cGtE, v_cEq, v_cNe, v_cEqS, v_cNeS, v_cEqB, v_cNeB, v_is, v_isnt, v_isN_non, v_isN_bl, v_isN_int, v_isN_str, v_isN_tup, v_isN_vls, v_isN_scr, v_isN_loc, v_t_non, v_t_bl, v_t_int, v_t_tup, v_t_vls, v_len_tup, v_list_tup, v_listM_tup, v_tuple_tup, v_idx_tup, v_src_tup, v_len_vls, v_list_vls, v_listM_vls, v_tuple_vls, v_idx_vls, v_src_vls, v_len_scr, v_list_scr, v_listM_scr, v_tuple_scr, v_idx_scr, v_src_scr, v_sli_tup, v_sli_vls, v_sli_scr, v_abs, v_int, v_intb, v_max, v_min, v_i_non_int, v_i_non_bool, v_i_non_str, v_i_non_tuple, v_i_non_list, v_i_non_tl, v_i_bl_int, v_i_bl_bool, v_i_bl_str, v_i_bl_tuple, v_i_bl_list, v_i_bl_tl, v_i_int_int, v_i_int_bool, v_i_int_str, v_i_int_tuple, v_i_int_list, v_i_int_tl, v_i_str_int, v_i_str_bool, v_i_str_str, v_i_str_tuple, v_i_str_list, v_i_str_tl, v_i_tup_int, v_i_tup_bool, v_i_tup_str, v_i_tup_tuple, v_i_tup_list, v_i_tup_tl, v_i_vls_int, v_i_vls_bool, v_i_vls_str, v_i_vls_tuple, v_i_vls_list, v_i_vls_tl, v_i_scr_int, v_i_scr_bool, v_i_scr_str, v_i_scr_tuple, v_i_scr_list, v_i_scr_tl, v_range1, v_range2, v_newF, v_newT, at0, at1, at2, at3, at4, at5, sl0, sl1, sl2, sl3, sl4, sl5, sl6, sl7, sl8, true_and, eq_self, len_T h2]
    refine hd.call rfl ⟨a, b, _, rfl, by omega, small8 (by omega) (by omega), sp3, fun k S4 k0 k1 sp4 f4 => ?_⟩
    simp -implicitDefEqProofs only [wpSs, wpS, wpE, wpEs, wpO, wpC, wpT, wpTs, wpI, look_zero, look_succ, whenB_some, startD, List.set_cons_zero, List.set_cons_succ, at_eq, nxt_nx, nxt_rt, nxt_bk, nxt_ct, nxt_ex, loop_nx, loop_rt, loop_bk, loop_ct, loop_ex, exc_nx, exc_rt, exc_bk, exc_ct, exc_ex, List.nil_append, List.cons_append, List.length_cons, List.length_nil, Nat.reduceAdd, v_add_int, v_add_str, v_add_tup, v_add_vls, v_sub, v_mul, v_div, v_mod, v_pow, v_aadd, v_asub, v_aadds, v_cLt, v_cLtE, v_cGt, v_cGtE, v_cEq, v_cNe, v_cEqS, v_cNeS, v_cEqB, v_cNeB, v_is, v_isnt, v_isN_non, v_isN_bl, v_isN_int, v_isN_str, v_isN_tup, v_isN_vls, v_isN_scr, v_isN_loc, v_t_non, v_t_bl, v_t_int, v_t_tup, v_t_vls, v_len_tup, v_list_tup, v_listM_tup, v_tuple_tup, v_idx_tup, v_src_tup, v_len_vls, v_list_vls, v_listM_vls, v_tuple_vls, v_idx_vls, v_src_vls, v_len_scr, v_list_scr, v_listM_scr, v_tuple_scr, v_idx_scr, v_src_scr, v_sli_tup, v_sli_vls, v_sli_scr, v_abs, v_int, v_intb, v_max, v_min, v_i_non_int, v_i_non_bool, v_i_non_str, v_i_non_tuple, v_i_non_list, v_i_non_tl, v_i_bl_int, v_i_bl_bool, v_i_bl_str, v_i_bl_tuple, v_i_bl_list, v_i_bl_tl, v_i_int_int, v_i_int_bool, v_i_int_str, v_i_int_tuple, v_i_int_list, v_i_int_tl, v_i_str_int, v_i_str_bool, v_i_str_str, v_i_str_tuple, v_i_str_list, v_i_str_tl, v_i_tup_int, v_i_tup_bool, v_i_tup_str, v_i_tup_tuple, v_i_tup_list, v_i_tup_tl, v_i_vls_int, v_i_vls_bool, v_i_vls_str, v_i_vls_tuple, v_i_vls_list, v_i_vls_tl, v_i_scr_int, v_i_scr_bool, v_i_scr_str, v_i_scr_tuple, v_i_scr_list, v_i_scr_tl, v_range1, v_range2, v_newF, v_newT, at0, at1, at2, at3, at4, at5, sl0, sl1, sl2, sl3, sl4, sl5, sl6, sl7, sl8, true_and, eq_self]
    refine hd.call rfl ⟨a, b, _, rfl, by first | decide | omega, by first | decide | exact small8 (by omega) (by omega), sp4, fun c S5 c_0 c_1 sp5 f5 => ?_⟩
    obtain ⟨c, rfl⟩ := Int.eq_ofNat_of_zero_le c_0
    obtain ⟨k, rfl⟩ := Int.eq_ofNat_of_zero_le k0
    have hc : ([48, 49, 50, 51, 52, 53, 54, 55, 56, 57, 45, 47, 43, 32, 46, 10, 48, 47] : List Nat)[c]? = some (([48, 49, 50, 51, 52, 53, 54, 55, 56, 57, 45, 47, 43, 32, 46, 10, 48, 47] : List Nat)[c]'(by simp; omega)) := List.getElem?_eq_getElem _
    generalize ([48, 49, 50, 51, 52, 53, 54, 55, 56, 57, 45, 47, 43, 32, 46, 10, 48, 47] : List Nat)[c]'(by simp; omega) = x at hc
    have ff : Frm a b S0 S5 := ((f2'.trans f3).trans f4).trans f5
    have lt : (l'.take k).length ≤ k := by rw [List.length_take]; omega
    have ld : (l'.drop k).length = l'.length - k := List.length_drop
    have ld1 : (l'.drop (k + 1)).length = l'.length - (k + 1) := List.length_drop
    have cf : cut l' (some ((k : Int) + 1)) none = l'.drop (k + 1) := by
      have := cut_from l' (k + 1)
      rw [show ((k + 1 : Nat) : Int) = (k : Int) + 1 by omega] at this
      exact this
    simp -implicitDefEqProofs only [wpSs, wpS, wpE, wpEs, wpO, wpC, wpT, wpTs, wpI, look_zero, look_succ, whenB_some, startD, List.set_cons_zero, List.set_cons_succ, at_eq, nxt_nx, nxt_rt, nxt_bk, nxt_ct, nxt_ex, loop_nx, loop_rt, loop_bk, loop_ct, loop_ex, exc_nx, exc_rt, exc_bk, exc_ct, exc_ex, List.nil_append, List.cons_append, List.length_cons, List.length_nil, Nat.reduceAdd, v_add_int, v_add_str, v_add_tup, v_add_vls, v_sub, v_mul, v_div, v_mod, v_pow, v_aadd, v_asub, v_aadds, v_cLt, v_cLtE, v_cGt, v_cGtE, v_cEq, v_cNe, v_cEqS, v_cNeS, v_cEqB, v_cNeB, v_is, v_isnt, v_isN_non, v_isN_bl, v_isN_int, v_isN_str, v_isN_tup, v_isN_vls, v_isN_scr, v_isN_loc, v_t_non, v_t_bl, v_t_int, v_t_tup, v_t_vls, v_len_tup, v_list_tup, v_listM_tup, v_tuple_tup, v_idx_tup, v_src_tup, v_len_vls, v_list_vls, v_listM_vls, v_tuple_vls, v_idx_vls, v_src_vls, v_len_scr, v_list_scr, v_listM_scr, v_tuple_scr, v_idx_scr, v_src_scr, v_sli_tup, v_sli_vls, v_sli_scr, v_abs, v_int, v_intb, v_max, v_min, v_i_non_int, v_i_non_bool, v_i_non_str, v_i_non_tuple, v_i_non_list, v_i_non_tl, v_i_bl_int, v_i_bl_bool, v_i_bl_str, v_i_bl_tuple, v_i_bl_list, v_i_bl_tl, v_i_int_int, v_i_int_bool, v_i_int_str, v_i_int_tuple, v_i_int_list, v_i_int_tl, v_i_str_int, v_i_str_bool, v_i_str_str, v_i_str_tuple, v_i_str_list, v_i_str_tl, v_i_tup_int, v_i_tup_bool, v_i_tup_str, v_i_tup_tuple, v_i_tup_list, v_i_tup_tl, v_i_vls_int, v_i_vls_bool, v_i_vls_str, v_i_vls_tuple, v_i_vls_list, v_i_vls_tl, v_i_scr_int, v_i_scr_bool, v_i_scr_str, v_i_scr_tuple, v_i_scr_list, v_i_scr_tl, v_range1, v_range2, v_newF, v_newT, at0, at1, at2, at3, at4, at5, sl0, sl1, sl2, sl3, sl4, sl5, sl6, sl7, sl8, true_and, eq_self, e_signs, idx_T (by decide) hc, sli_T h2, cut_to, cut_from, cf, v_add_str, T_len, T_add]
    have done : ∀ l2 : List Nat, l2.length ≤ l'.length + 1 → ∀ y2 y3 y4 y5 : Option D, K [some (.loc a), some (.str (T l2)), y2, y3, y4, y5] S5 := fun l2 h y2 y3 y4 y5 =>
      ih _ _ ⟨l2, _, _, _, _, rfl, by omega, sp5, ff⟩
    have lk : k ≤ l'.length := by omega
    have lt2 : (l'.take k).length = k := by rw [List.length_take]; omega
    refine br_dec (fun _ => done _ (by omega) _ _ _ _) fun _ => ?_
    refine br_dec (fun _ => ?_) fun _ => ?_
    · refine ⟨le_sl ((by (try simp only [List.length_append, List.length_cons, List.length_nil]); omega)), le_sl ((by (try simp only [List.length_append, List.length_cons, List.length_nil]); omega)), done _ ((by (try simp only [List.length_append, List.length_cons, List.length_nil]); omega)) _ _ _ _⟩
    refine br_dec (fun _ => ?_) fun _ => ?_
    · refine ⟨le_sl (by omega), done _ (by rw [List.length_append]; omega) _ _ _ _⟩
    · refine ⟨le_sl ((by (try simp only [List.length_append, List.length_cons, List.length_nil]); omega)), le_sl ((by (try simp only [List.length_append, List.length_cons, List.length_nil]); omega)), done _ ((by (try simp only [List.length_append, List.length_cons, List.length_nil]); omega)) _ _ _ _⟩
def sp_law : Spec := fun ds S Q _ => ∃ ns : List Int, ds = [.scr (ns.map D.int)] ∧ ns.length ≤ 63 ∧ (S = fun _ => none) ∧ Q (.bl true) S
theorem law_end : ∀ ns : List Int, ns.length ≤ 63 → sp_law [.scr (ns.map D.int)] (fun _ => none) (fun d _ => d = .bl true) (fun _ _ => False) := fun ns h => ⟨ns, rfl, h, rfl, rfl⟩
theorem numT_143 {i : Int} (h : i.natAbs < 2 ^ 143) : (numT i).length ≤ 45 := by
  unfold numT sgL
  rw [List.length_append]
  have : (TL.numL i.natAbs).length ≤ 44 := TL.numL_len (by decide) (Nat.lt_trans h (by decide +kernel))
  split <;> simp <;> omega
theorem ok_T {l : List Nat} (h : l.length ≤ 110) : okTx (.str (T l)) = true := decide_eq_true (by rw [T_len]; exact h)
theorem w_four {Γ : Ctx} (h3 : Has Γ f_L_read 1 sp_read) (h4 : Has Γ f_L_told 2 sp_Ltold) (h5 : Has Γ f_L_alike 2 (sp_alike 4)) {Q : QE} {P : Post} (hP : P.rt = fun d S1 => ∃ S', XC.Sub S' S1 ∧ Q d S') (hq : Q (.bl true) fun _ => none)
    {s0 s1 y3 y4 y5 y6 y7 y8 : Option D} {xs : List D} {S : Store} (hx : xs.all okTx = true) (hl : xs.length ≤ 1000) : wpSs Γ t_law_4 P [s0, s1, some (.vls xs), y3, y4, y5, y6, y7, y8] S := by
  unfold t_law_4
  simp -implicitDefEqProofs only [wpSs, wpS, wpE, wpEs, wpO, wpC, wpT, wpTs, wpI, look_zero, look_succ, whenB_some, startD, List.set_cons_zero, List.set_cons_succ, at_eq, nxt_nx, nxt_rt, nxt_bk, nxt_ct, nxt_ex, loop_nx, loop_rt, loop_bk, loop_ct, loop_ex, exc_nx, exc_rt, exc_bk, exc_ct, exc_ex, List.nil_append, List.cons_append, List.length_cons, List.length_nil, Nat.reduceAdd, v_add_int, v_add_str, v_add_tup, v_add_vls, v_sub, v_mul, v_div, v_mod, v_pow, v_aadd, v_asub, v_aadds, v_cLt, v_cLtE, v_cGt, v_cGtE, v_cEq, v_cNe, v_cEqS, v_cNeS, v_cEqB, v_cNeB, v_is, v_isnt, v_isN_non, v_isN_bl, v_isN_int, v_isN_str, v_isN_tup, v_isN_vls, v_isN_scr, v_isN_loc, v_t_non, v_t_bl, v_t_int, v_t_tup, v_t_vls, v_len_tup, v_list_tup, v_listM_tup, v_tuple_tup, v_idx_tup, v_src_tup, v_len_vls, v_list_vls, v_listM_vls, v_tuple_vls, v_idx_vls, v_src_vls, v_len_scr, v_list_scr, v_listM_scr, v_tuple_scr, v_idx_scr, v_src_scr, v_sli_tup, v_sli_vls, v_sli_scr, v_abs, v_int, v_intb, v_max, v_min, v_i_non_int, v_i_non_bool, v_i_non_str, v_i_non_tuple, v_i_non_list, v_i_non_tl, v_i_bl_int, v_i_bl_bool, v_i_bl_str, v_i_bl_tuple, v_i_bl_list, v_i_bl_tl, v_i_int_int, v_i_int_bool, v_i_int_str, v_i_int_tuple, v_i_int_list, v_i_int_tl, v_i_str_int, v_i_str_bool, v_i_str_str, v_i_str_tuple, v_i_str_list, v_i_str_tl, v_i_tup_int, v_i_tup_bool, v_i_tup_str, v_i_tup_tuple, v_i_tup_list, v_i_tup_tl, v_i_vls_int, v_i_vls_bool, v_i_vls_str, v_i_vls_tuple, v_i_vls_list, v_i_vls_tl, v_i_scr_int, v_i_scr_bool, v_i_scr_str, v_i_scr_tuple, v_i_scr_list, v_i_scr_tl, v_range1, v_range2, v_newF, v_newT, at0, at1, at2, at3, at4, at5, sl0, sl1, sl2, sl3, sl4, sl5, sl6, sl7, sl8, true_and, eq_self]
  have key := for_over (G := fun _ => True) (tgt := wpT Γ (fun _ _ => False) (.nm 4)) (body := wpSs Γ t_law_3) (P := P.nxt fun ρ1 S1 => wpSs Γ t_law_1 P ρ1 S1) (fun d : D => d) xs (fun l1 l2 ρ S' => ∃ y4 y6 : Option D, ρ = [s0, s1, some (.vls xs), y3, y4, y5, y6, y7, y8] ∧ S' = S) (ρ := [s0, s1, some (.vls xs), y3, y4, y5, y6, y7, y8]) (S := S) ⟨y4, y6, rfl, rfl⟩ ?_ ?_
  · rw [List.map_id'] at key
    exact key
  · rintro ρ _ ⟨y4, y6, rfl, rfl⟩
    refine ⟨trivial, ?_⟩
    unfold t_law_1
    simp -implicitDefEqProofs only [wpSs, wpS, wpE, wpEs, wpO, wpC, wpT, wpTs, wpI, look_zero, look_succ, whenB_some, startD, List.set_cons_zero, List.set_cons_succ, at_eq, nxt_nx, nxt_rt, nxt_bk, nxt_ct, nxt_ex, loop_nx, loop_rt, loop_bk, loop_ct, loop_ex, exc_nx, exc_rt, exc_bk, exc_ct, exc_ex, List.nil_append, List.cons_append, List.length_cons, List.length_nil, Nat.reduceAdd, v_add_int, v_add_str, v_add_tup, v_add_vls, v_sub, v_mul, v_div, v_mod, v_pow, v_aadd, v_asub, v_aadds, v_cLt, v_cLtE, v_cGt, v_cGtE, v_cEq, v_cNe, v_cEqS, v_cNeS, v_cEqB, v_cNeB, v_is, v_isnt, v_isN_non, v_isN_bl, v_isN_int, v_isN_str, v_isN_tup, v_isN_vls, v_isN_scr, v_isN_loc, v_t_non, v_t_bl, v_t_int, v_t_tup, v_t_vls, v_len_tup, v_list_tup, v_listM_tup, v_tuple_tup, v_idx_tup, v_src_tup, v_len_vls, v_list_vls, v_listM_vls, v_tuple_vls, v_idx_vls, v_src_vls, v_len_scr, v_list_scr, v_listM_scr, v_tuple_scr, v_idx_scr, v_src_scr, v_sli_tup, v_sli_vls, v_sli_scr, v_abs, v_int, v_intb, v_max, v_min, v_i_non_int, v_i_non_bool, v_i_non_str, v_i_non_tuple, v_i_non_list, v_i_non_tl, v_i_bl_int, v_i_bl_bool, v_i_bl_str, v_i_bl_tuple, v_i_bl_list, v_i_bl_tl, v_i_int_int, v_i_int_bool, v_i_int_str, v_i_int_tuple, v_i_int_list, v_i_int_tl, v_i_str_int, v_i_str_bool, v_i_str_str, v_i_str_tuple, v_i_str_list, v_i_str_tl, v_i_tup_int, v_i_tup_bool, v_i_tup_str, v_i_tup_tuple, v_i_tup_list, v_i_tup_tl, v_i_vls_int, v_i_vls_bool, v_i_vls_str, v_i_vls_tuple, v_i_vls_list, v_i_vls_tl, v_i_scr_int, v_i_scr_bool, v_i_scr_str, v_i_scr_tuple, v_i_scr_list, v_i_scr_tl, v_range1, v_range2, v_newF, v_newT, at0, at1, at2, at3, at4, at5, sl0, sl1, sl2, sl3, sl4, sl5, sl6, sl7, sl8, true_and, eq_self, hP]
    exact fin_non hq
  · rintro l1 d l2 ρ S1 K e ⟨y4, y6, rfl, hS⟩ ih
    subst hS
    have hd : okTx d = true := List.all_eq_true.mp hx d (by rw [e]; simp)
    refine ⟨trivial, ?_⟩
    generalize hPo : Post.loop _ K _ = P2
    have hnx : P2.nx = K := by rw [← hPo]; rfl
    unfold t_law_3
    simp -implicitDefEqProofs only [wpSs, wpS, wpE, wpEs, wpO, wpC, wpT, wpTs, wpI, look_zero, look_succ, whenB_some, startD, List.set_cons_zero, List.set_cons_succ, at_eq, nxt_nx, nxt_rt, nxt_bk, nxt_ct, nxt_ex, loop_nx, loop_rt, loop_bk, loop_ct, loop_ex, exc_nx, exc_rt, exc_bk, exc_ct, exc_ex, List.nil_append, List.cons_append, List.length_cons, List.length_nil, Nat.reduceAdd, v_add_int, v_add_str, v_add_tup, v_add_vls, v_sub, v_mul, v_div, v_mod, v_pow, v_aadd, v_asub, v_aadds, v_cLt, v_cLtE, v_cGt, v_cGtE, v_cEq, v_cNe, v_cEqS, v_cNeS, v_cEqB, v_cNeB, v_is, v_isnt, v_isN_non, v_isN_bl, v_isN_int, v_isN_str, v_isN_tup, v_isN_vls, v_isN_scr, v_isN_loc, v_t_non, v_t_bl, v_t_int, v_t_tup, v_t_vls, v_len_tup, v_list_tup, v_listM_tup, v_tuple_tup, v_idx_tup, v_src_tup, v_len_vls, v_list_vls, v_listM_vls, v_tuple_vls, v_idx_vls, v_src_vls, v_len_scr, v_list_scr, v_listM_scr, v_tuple_scr, v_idx_scr, v_src_scr, v_sli_tup, v_sli_vls, v_sli_scr, v_abs, v_int, v_intb, v_max, v_min, v_i_non_int, v_i_non_bool, v_i_non_str, v_i_non_tuple, v_i_non_list, v_i_non_tl, v_i_bl_int, v_i_bl_bool, v_i_bl_str, v_i_bl_tuple, v_i_bl_list, v_i_bl_tl, v_i_int_int, v_i_int_bool, v_i_int_str, v_i_int_tuple, v_i_int_list, v_i_int_tl, v_i_str_int, v_i_str_bool, v_i_str_str, v_i_str_tuple, v_i_str_list, v_i_str_tl, v_i_tup_int, v_i_tup_bool, v_i_tup_str, v_i_tup_tuple, v_i_tup_list, v_i_tup_tl, v_i_vls_int, v_i_vls_bool, v_i_vls_str, v_i_vls_tuple, v_i_vls_list, v_i_vls_tl, v_i_scr_int, v_i_scr_bool, v_i_scr_str, v_i_scr_tuple, v_i_scr_list, v_i_scr_tl, v_range1, v_range2, v_newF, v_newT, at0, at1, at2, at3, at4, at5, sl0, sl1, sl2, sl3, sl4, sl5, sl6, sl7, sl8, true_and, eq_self]
    refine h3.call rfl ?_
    have two : wpSs Γ t_law_2 P2 [s0, s1, some (.vls xs), y3, some d, y5, some (dueOf d), y7, y8] S1 := by
      unfold t_law_2
      simp -implicitDefEqProofs only [wpSs, wpS, wpE, wpEs, wpO, wpC, wpT, wpTs, wpI, look_zero, look_succ, whenB_some, startD, List.set_cons_zero, List.set_cons_succ, at_eq, nxt_nx, nxt_rt, nxt_bk, nxt_ct, nxt_ex, loop_nx, loop_rt, loop_bk, loop_ct, loop_ex, exc_nx, exc_rt, exc_bk, exc_ct, exc_ex, List.nil_append, List.cons_append, List.length_cons, List.length_nil, Nat.reduceAdd, v_add_int, v_add_str, v_add_tup, v_add_vls, v_sub, v_mul, v_div, v_mod, v_pow, v_aadd, v_asub, v_aadds, v_cLt, v_cLtE, v_cGt, v_cGtE, v_cEq, v_cNe, v_cEqS, v_cNeS, v_cEqB, v_cNeB, v_is, v_isnt, v_isN_non, v_isN_bl, v_isN_int, v_isN_str, v_isN_tup, v_isN_vls, v_isN_scr, v_isN_loc, v_t_non, v_t_bl, v_t_int, v_t_tup, v_t_vls, v_len_tup, v_list_tup, v_listM_tup, v_tuple_tup, v_idx_tup, v_src_tup, v_len_vls, v_list_vls, v_listM_vls, v_tuple_vls, v_idx_vls, v_src_vls, v_len_scr, v_list_scr, v_listM_scr, v_tuple_scr, v_idx_scr, v_src_scr, v_sli_tup, v_sli_vls, v_sli_scr, v_abs, v_int, v_intb, v_max, v_min, v_i_non_int, v_i_non_bool, v_i_non_str, v_i_non_tuple, v_i_non_list, v_i_non_tl, v_i_bl_int, v_i_bl_bool, v_i_bl_str, v_i_bl_tuple, v_i_bl_list, v_i_bl_tl, v_i_int_int, v_i_int_bool, v_i_int_str, v_i_int_tuple, v_i_int_list, v_i_int_tl, v_i_str_int, v_i_str_bool, v_i_str_str, v_i_str_tuple, v_i_str_list, v_i_str_tl, v_i_tup_int, v_i_tup_bool, v_i_tup_str, v_i_tup_tuple, v_i_tup_list, v_i_tup_tl, v_i_vls_int, v_i_vls_bool, v_i_vls_str, v_i_vls_tuple, v_i_vls_list, v_i_vls_tl, v_i_scr_int, v_i_scr_bool, v_i_scr_str, v_i_scr_tuple, v_i_scr_list, v_i_scr_tl, v_range1, v_range2, v_newF, v_newT, at0, at1, at2, at3, at4, at5, sl0, sl1, sl2, sl3, sl4, sl5, sl6, sl7, sl8, true_and, eq_self]
      refine h4.call rfl ⟨d, false, rfl, hd, ?_⟩
      refine h5.call rfl ⟨_, rfl, due_nice d, ?_⟩
      simp -implicitDefEqProofs only [wpSs, wpS, wpE, wpEs, wpO, wpC, wpT, wpTs, wpI, look_zero, look_succ, whenB_some, startD, List.set_cons_zero, List.set_cons_succ, at_eq, nxt_nx, nxt_rt, nxt_bk, nxt_ct, nxt_ex, loop_nx, loop_rt, loop_bk, loop_ct, loop_ex, exc_nx, exc_rt, exc_bk, exc_ct, exc_ex, List.nil_append, List.cons_append, List.length_cons, List.length_nil, Nat.reduceAdd, v_add_int, v_add_str, v_add_tup, v_add_vls, v_sub, v_mul, v_div, v_mod, v_pow, v_aadd, v_asub, v_aadds, v_cLt, v_cLtE, v_cGt, v_cGtE, v_cEq, v_cNe, v_cEqS, v_cNeS, v_cEqB, v_cNeB, v_is, v_isnt, v_isN_non, v_isN_bl, v_isN_int, v_isN_str, v_isN_tup, v_isN_vls, v_isN_scr, v_isN_loc, v_t_non, v_t_bl, v_t_int, v_t_tup, v_t_vls, v_len_tup, v_list_tup, v_listM_tup, v_tuple_tup, v_idx_tup, v_src_tup, v_len_vls, v_list_vls, v_listM_vls, v_tuple_vls, v_idx_vls, v_src_vls, v_len_scr, v_list_scr, v_listM_scr, v_tuple_scr, v_idx_scr, v_src_scr, v_sli_tup, v_sli_vls, v_sli_scr, v_abs, v_int, v_intb, v_max, v_min, v_i_non_int, v_i_non_bool, v_i_non_str, v_i_non_tuple, v_i_non_list, v_i_non_tl, v_i_bl_int, v_i_bl_bool, v_i_bl_str, v_i_bl_tuple, v_i_bl_list, v_i_bl_tl, v_i_int_int, v_i_int_bool, v_i_int_str, v_i_int_tuple, v_i_int_list, v_i_int_tl, v_i_str_int, v_i_str_bool, v_i_str_str, v_i_str_tuple, v_i_str_list, v_i_str_tl, v_i_tup_int, v_i_tup_bool, v_i_tup_str, v_i_tup_tuple, v_i_tup_list, v_i_tup_tl, v_i_vls_int, v_i_vls_bool, v_i_vls_str, v_i_vls_tuple, v_i_vls_list, v_i_vls_tl, v_i_scr_int, v_i_scr_bool, v_i_scr_str, v_i_scr_tuple, v_i_scr_list, v_i_scr_tl, v_range1, v_range2, v_newF, v_newT, at0, at1, at2, at3, at4, at5, sl0, sl1, sl2, sl3, sl4, sl5, sl6, sl7, sl8, true_and, eq_self, Bool.not_true]
      refine br_false ?_
      refine h4.call rfl ⟨d, true, rfl, hd, ?_⟩
      refine h5.call rfl ⟨_, rfl, due_nice d, ?_⟩
      simp -implicitDefEqProofs only [wpSs, wpS, wpE, wpEs, wpO, wpC, wpT, wpTs, wpI, look_zero, look_succ, whenB_some, startD, List.set_cons_zero, List.set_cons_succ, at_eq, nxt_nx, nxt_rt, nxt_bk, nxt_ct, nxt_ex, loop_nx, loop_rt, loop_bk, loop_ct, loop_ex, exc_nx, exc_rt, exc_bk, exc_ct, exc_ex, List.nil_append, List.cons_append, List.length_cons, List.length_nil, Nat.reduceAdd, v_add_int, v_add_str, v_add_tup, v_add_vls, v_sub, v_mul, v_div, v_mod, v_pow, v_aadd, v_asub, v_aadds, v_cLt, v_cLtE, v_cGt, v_cGtE, v_cEq, v_cNe, v_cEqS, v_cNeS, v_cEqB, v_cNeB, v_is, v_isnt, v_isN_non, v_isN_bl, v_isN_int, v_isN_str, v_isN_tup, v_isN_vls, v_isN_scr, v_isN_loc, v_t_non, v_t_bl, v_t_int, v_t_tup, v_t_vls, v_len_tup, v_list_tup, v_listM_tup, v_tuple_tup, v_idx_tup, v_src_tup, v_len_vls, v_list_vls, v_listM_vls, v_tuple_vls, v_idx_vls, v_src_vls, v_len_scr, v_list_scr, v_listM_scr, v_tuple_scr, v_idx_scr, v_src_scr, v_sli_tup, v_sli_vls, v_sli_scr, v_abs, v_int, v_intb, v_max, v_min, v_i_non_int, v_i_non_bool, v_i_non_str, v_i_non_tuple, v_i_non_list, v_i_non_tl, v_i_bl_int, v_i_bl_bool, v_i_bl_str, v_i_bl_tuple, v_i_bl_list, v_i_bl_tl, v_i_int_int, v_i_int_bool, v_i_int_str, v_i_int_tuple, v_i_int_list, v_i_int_tl, v_i_str_int, v_i_str_bool, v_i_str_str, v_i_str_tuple, v_i_str_list, v_i_str_tl, v_i_tup_int, v_i_tup_bool, v_i_tup_str, v_i_tup_tuple, v_i_tup_list, v_i_tup_tl, v_i_vls_int, v_i_vls_bool, v_i_vls_str, v_i_vls_tuple, v_i_vls_list, v_i_vls_tl, v_i_scr_int, v_i_scr_bool, v_i_scr_str, v_i_scr_tuple, v_i_scr_list, v_i_scr_tl, v_range1, v_range2, v_newF, v_newT, at0, at1, at2, at3, at4, at5, sl0, sl1, sl2, sl3, sl4, sl5, sl6, sl7, sl8, true_and, eq_self, Bool.not_true]
      refine br_false ?_
      rw [hnx]
      exact ih _ _ ⟨_, _, rfl, rfl⟩
    rcases okTx_cases hd with ⟨l, e1, hl1, ed⟩ | ⟨hi, ed⟩
    · rw [ed] at two
      refine .inl ⟨l, by rw [e1], hl1, two⟩
    · rw [ed] at two
      exact .inr ⟨d, rfl, hi _, two⟩
theorem w_nine {Γ : Ctx} (hd : Has Γ f_L_drop 2 sp_drop) (h1 : Has Γ f_L_number 1 sp_number) (h2 : Has Γ f_L_spoilt 2 sp_spoilt) (h3 : Has Γ f_L_read 1 sp_read) (h4 : Has Γ f_L_told 2 sp_Ltold) (h5 : Has Γ f_L_alike 2 (sp_alike 4)) {Q : QE} {P : Post}
    (hP : P.rt = fun d S1 => ∃ S', XC.Sub S' S1 ∧ Q d S') (hq : Q (.bl true) fun _ => none) {ns : List Int} {a b : Nat} {xs : List D} {S : Store} (hx : xs.all okTx = true) (hl : xs.length ≤ 100) (sp0 : Spr a b S) :
    wpSs Γ t_law_9 P [some (.scr (ns.map D.int)), some (.loc a), some (.vls xs), none, none, none, none, none, none] S := by
  unfold t_law_9
  simp -implicitDefEqProofs only [wpSs, wpS, wpE, wpEs, wpO, wpC, wpT, wpTs, wpI, look_zero, look_succ, whenB_some, startD, List.set_cons_zero, List.set_cons_succ, at_eq, nxt_nx, nxt_rt, nxt_bk, nxt_ct, nxt_ex, loop_nx, loop_rt, loop_bk, loop_ct, loop_ex, exc_nx, exc_rt, exc_bk, exc_ct, exc_ex, List.nil_append, List.cons_append, List.length_cons, List.length_nil, Nat.reduceAdd, v_add_int, v_add_str, v_add_tup, v_add_vls, v_sub, v_mul, v_div, v_mod, v_pow, v_aadd, v_asub, v_aadds, v_cLt, v_cLtE, v_cGt, v_cGtE, v_cEq, v_cNe, v_cEqS, v_cNeS, v_cEqB, v_cNeB, v_is, v_isnt, v_isN_non, v_isN_bl, v_isN_int, v_isN_str, v_isN_tup, v_isN_vls, v_isN_scr, v_isN_loc, v_t_non, v_t_bl, v_t_int, v_t_tup, v_t_vls, v_len_tup, v_list_tup, v_listM_tup, v_tuple_tup, v_idx_tup, v_src_tup, v_len_vls, v_list_vls, v_listM_vls, v_tuple_vls, v_idx_vls, v_src_vls, v_len_scr, v_list_scr, v_listM_scr, v_tuple_scr, v_idx_scr, v_src_scr, v_sli_tup, v_sli_vls, v_sli_scr, v_abs, v_int, v_intb, v_max, v_min, v_i_non_int, v_i_non_bool, v_i_non_str, v_i_non_tuple, v_i_non_list, v_i_non_tl, v_i_bl_int, v_i_bl_bool, v_i_bl_str, v_i_bl_tuple, v_i_bl_list, v_i_bl_tl, v_i_int_int, v_i_int_bool, v_i_int_str, v_i_int_tuple, v_i_int_list, v_i_int_tl, v_i_str_int, v_i_str_bool, v_i_str_str, v_i_str_tuple, v_i_str_list, v_i_str_tl, v_i_tup_int, v_i_tup_bool, v_i_tup_str, v_i_tup_tuple, v_i_tup_list, v_i_tup_tl, v_i_vls_int, v_i_vls_bool, v_i_vls_str, v_i_vls_tuple, v_i_vls_list, v_i_vls_tl, v_i_scr_int, v_i_scr_bool, v_i_scr_str, v_i_scr_tuple, v_i_scr_list, v_i_scr_tl, v_range1, v_range2, v_newF, v_newT, at0, at1, at2, at3, at4, at5, sl0, sl1, sl2, sl3, sl4, sl5, sl6, sl7, sl8, true_and, eq_self]
  refine ⟨by decide, by decide, ?_⟩
  refine for_rng (fun i ρ S' => ∃ (xs : List D) (y3 y4 y5 y6 y7 y8 : Option D), ρ = [some (.scr (ns.map D.int)), some (.loc a), some (.vls xs), y3, y4, y5, y6, y7, y8] ∧ xs.all okTx = true ∧ xs.length ≤ 100 + 5 * i ∧ Spr a b S') ⟨xs, _, _, _, _, _, _, rfl, hx, by omega, sp0⟩ ?_ ?_
  · rintro ρ S1 ⟨xs, y3, y4, y5, y6, y7, y8, rfl, hx, hl, sp1⟩
    have e10 : Int.toNat 10 = 10 := rfl
    exact ⟨trivial, w_four h3 h4 h5 (P := P) hP hq hx (by rw [e10] at hl; omega)⟩
  · rintro i hi ρ S0 K ⟨xs, y3, y4, y5, y6, y7, y8, rfl, hx, hl, sp0⟩ ih
    have hi' : i < 10 := hi
    refine ⟨trivial, ?_⟩
    generalize hPo : Post.loop _ K _ = P2
    have hnx : P2.nx = K := by rw [← hPo]; rfl
    unfold t_law_8
    simp -implicitDefEqProofs only [wpSs, wpS, wpE, wpEs, wpO, wpC, wpT, wpTs, wpI, look_zero, look_succ, whenB_some, startD, List.set_cons_zero, List.set_cons_succ, at_eq, nxt_nx, nxt_rt, nxt_bk, nxt_ct, nxt_ex, loop_nx, loop_rt, loop_bk, loop_ct, loop_ex, exc_nx, exc_rt, exc_bk, exc_ct, exc_ex, List.nil_append, List.cons_append, List.length_cons, List.length_nil, Nat.reduceAdd, v_add_int, v_add_str, v_add_tup, v_add_vls, v_sub, v_mul, v_div, v_mod, v_pow, v_aadd, v_asub, v_aadds, v_cLt, v_cLtE, v_cGt, v_cGtE, v_cEq, v_cNe, v_cEqS, v_cNeS, v_cEqB, v_cNeB, v_is, v_isnt, v_isN_non, v_isN_bl, v_isN_int, v_isN_str, v_isN_tup, v_isN_vls, v_isN_scr, v_isN_loc, v_t_non, v_t_bl, v_t_int, v_t_tup, v_t_vls, v_len_tup, v_list_tup, v_listM_tup, v_tuple_tup, v_idx_tup, v_src_tup, v_len_vls, v_list_vls, v_listM_vls, v_tuple_vls, v_idx_vls, v_src_vls, v_len_scr, v_list_scr, v_listM_scr, v_tuple_scr, v_idx_scr, v_src_scr, v_sli_tup, v_sli_vls, v_sli_scr, v_abs, v_int, v_intb, v_max, v_min, v_i_non_int, v_i_non_bool, v_i_non_str, v_i_non_tuple, v_i_non_list, v_i_non_tl, v_i_bl_int, v_i_bl_bool, v_i_bl_str, v_i_bl_tuple, v_i_bl_list, v_i_bl_tl, v_i_int_int, v_i_int_bool, v_i_int_str, v_i_int_tuple, v_i_int_list, v_i_int_tl, v_i_str_int, v_i_str_bool, v_i_str_str, v_i_str_tuple, v_i_str_list, v_i_str_tl, v_i_tup_int, v_i_tup_bool, v_i_tup_str, v_i_tup_tuple, v_i_tup_list, v_i_tup_tl, v_i_vls_int, v_i_vls_bool, v_i_vls_str, v_i_vls_tuple, v_i_vls_list, v_i_vls_tl, v_i_scr_int, v_i_scr_bool, v_i_scr_str, v_i_scr_tuple, v_i_scr_list, v_i_scr_tl, v_range1, v_range2, v_newF, v_newT, at0, at1, at2, at3, at4, at5, sl0, sl1, sl2, sl3, sl4, sl5, sl6, sl7, sl8, true_and, eq_self]
    refine h1.call rfl ⟨a, b, rfl, sp0, fun r S1 hs sp1 f1 => ?_⟩
    refine hd.call rfl ⟨a, b, _, rfl, by first | decide | omega, by first | decide | exact small8 (by omega) (by omega), sp1, fun f S2 f_0 f_1 sp2 f2 => ?_⟩
    have i0 : ∀ S, idxD S (rD r) (.int 0) = some (.int r.num) := fun _ => rfl
    have i1 : ∀ S, idxD S (rD r) (.int 1) = some (.int r.den) := fun _ => rfl
    have hn : (r.num * (1 + f)).natAbs < 2 ^ 143 := by
      rw [Int.natAbs_mul]
      have h1 := hs.1
      have h2 : (1 + f).natAbs ≤ 4 := by omega
      calc r.num.natAbs * (1 + f).natAbs ≤ r.num.natAbs * 4 := Nat.mul_le_mul_left _ h2
        _ < 2 ^ 143 := by omega
    have hdn : ((r.den : Int) * (1 + f)).natAbs < 2 ^ 143 := by
      rw [Int.natAbs_mul, Int.natAbs_natCast]
      have h1 := hs.2
      have h2 : (1 + f).natAbs ≤ 4 := by omega
      calc r.den * (1 + f).natAbs ≤ r.den * 4 := Nat.mul_le_mul_left _ h2
        _ < 2 ^ 143 := by omega
    have lg' : ∀ {n : Nat}, n < 2 ^ 143 → n.log2 < 1920 := fun h => Nat.lt_trans (log_of h (by decide)) (by decide)
    have hr1 : r.num.natAbs < 2 ^ 143 := Nat.lt_trans hs.1 (by decide)
    have hr2 : ((r.den : Int)).natAbs < 2 ^ 143 := by rw [Int.natAbs_natCast]; exact Nat.lt_trans hs.2 (by decide)
    have mo : ∀ x : Int, MulOk x (1 + f) := fun x => .right (by omega) (by omega)
    have l1 := numT_143 hn
    have l2 := numT_143 hdn
    have l3 := numT_143 hr1
    have l4 := numT_143 hr2
    unfold t_law_7
    simp -implicitDefEqProofs only [wpSs, wpS, wpE, wpEs, wpO, wpC, wpT, wpTs, wpI, look_zero, look_succ, whenB_some, startD, List.set_cons_zero, List.set_cons_succ, at_eq, nxt_nx, nxt_rt, nxt_bk, nxt_ct, nxt_ex, loop_nx, loop_rt, loop_bk, loop_ct, loop_ex, exc_nx, exc_rt, exc_bk, exc_ct, exc_ex, List.nil_append, List.cons_append, List.length_cons, List.length_nil, Nat.reduceAdd, v_add_int, v_add_str, v_add_tup, v_add_vls, v_sub, v_mul, v_div, v_mod, v_pow, v_aadd, v_asub, v_aadds, v_cLt, v_cLtE, v_cGt, v_cGtE, v_cEq, v_cNe, v_cEqS, v_cNeS, v_cEqB, v_cNeB, v_is, v_isnt, v_isN_non, v_isN_bl, v_isN_int, v_isN_str, v_isN_tup, v_isN_vls, v_isN_scr, v_isN_loc, v_t_non, v_t_bl, v_t_int, v_t_tup, v_t_vls, v_len_tup, v_list_tup, v_listM_tup, v_tuple_tup, v_idx_tup, v_src_tup, v_len_vls, v_list_vls, v_listM_vls, v_tuple_vls, v_idx_vls, v_src_vls, v_len_scr, v_list_scr, v_listM_scr, v_tuple_scr, v_idx_scr, v_src_scr, v_sli_tup, v_sli_vls, v_sli_scr, v_abs, v_int, v_intb, v_max, v_min, v_i_non_int, v_i_non_bool, v_i_non_str, v_i_non_tuple, v_i_non_list, v_i_non_tl, v_i_bl_int, v_i_bl_bool, v_i_bl_str, v_i_bl_tuple, v_i_bl_list, v_i_bl_tl, v_i_int_int, v_i_int_bool, v_i_int_str, v_i_int_tuple, v_i_int_list, v_i_int_tl, v_i_str_int, v_i_str_bool, v_i_str_str, v_i_str_tuple, v_i_str_list, v_i_str_tl, v_i_tup_int, v_i_tup_bool, v_i_tup_str, v_i_tup_tuple, v_i_tup_list, v_i_tup_tl, v_i_vls_int, v_i_vls_bool, v_i_vls_str, v_i_vls_tuple, v_i_vls_list, v_i_vls_tl, v_i_scr_int, v_i_scr_bool, v_i_scr_str, v_i_scr_tuple, v_i_scr_list, v_i_scr_tl, v_range1, v_range2, v_newF, v_newT, at0, at1, at2, at3, at4, at5, sl0, sl1, sl2, sl3, sl4, sl5, sl6, sl7, sl8, true_and, eq_self, i0, i1, v_strI, str_num, e_slash, T_add, v_add_str, T_len]
    refine ⟨mo _, lg' hn, le_sl (by (try simp only [List.length_append, List.length_cons, List.length_nil]); omega), mo _, lg' hdn, le_sl (by (try simp only [List.length_append, List.length_cons, List.length_nil]); omega), ?_⟩
    have five : ∀ l1 l2 : List Nat, l1.length ≤ 108 → l2.length ≤ 108 → wpSs Γ t_law_5 P2 [some (.scr (ns.map D.int)), some (.loc a), some (.vls xs), some (.int i), some (.str (T l1)), some (.str (T l2)), y6, some (rD r), some (.int (1 + f))] S2 := by
      intro l1 l2 hl1 hl2
      unfold t_law_5
      simp -implicitDefEqProofs only [wpSs, wpS, wpE, wpEs, wpO, wpC, wpT, wpTs, wpI, look_zero, look_succ, whenB_some, startD, List.set_cons_zero, List.set_cons_succ, at_eq, nxt_nx, nxt_rt, nxt_bk, nxt_ct, nxt_ex, loop_nx, loop_rt, loop_bk, loop_ct, loop_ex, exc_nx, exc_rt, exc_bk, exc_ct, exc_ex, List.nil_append, List.cons_append, List.length_cons, List.length_nil, Nat.reduceAdd, v_add_int, v_add_str, v_add_tup, v_add_vls, v_sub, v_mul, v_div, v_mod, v_pow, v_aadd, v_asub, v_aadds, v_cLt, v_cLtE, v_cGt, v_cGtE, v_cEq, v_cNe, v_cEqS, v_cNeS, v_cEqB, v_cNeB, v_is, v_isnt, v_isN_non, v_isN_bl, v_isN_int, v_isN_str, v_isN_tup, v_isN_vls, v_isN_scr, v_isN_loc, v_t_non, v_t_bl, v_t_int, v_t_tup, v_t_vls, v_len_tup, v_list_tup, v_listM_tup, v_tuple_tup, v_idx_tup, v_src_tup, v_len_vls, v_list_vls, v_listM_vls, v_tuple_vls, v_idx_vls, v_src_vls, v_len_scr, v_list_scr, v_listM_scr, v_tuple_scr, v_idx_scr, v_src_scr, v_sli_tup, v_sli_vls, v_sli_scr, v_abs, v_int, v_intb, v_max, v_min, v_i_non_int, v_i_non_bool, v_i_non_str, v_i_non_tuple, v_i_non_list, v_i_non_tl, v_i_bl_int, v_i_bl_bool, v_i_bl_str, v_i_bl_tuple, v_i_bl_list, v_i_bl_tl, v_i_int_int, v_i_int_bool, v_i_int_str, v_i_int_tuple, v_i_int_list, v_i_int_tl, v_i_str_int, v_i_str_bool, v_i_str_str, v_i_str_tuple, v_i_str_list, v_i_str_tl, v_i_tup_int, v_i_tup_bool, v_i_tup_str, v_i_tup_tuple, v_i_tup_list, v_i_tup_tl, v_i_vls_int, v_i_vls_bool, v_i_vls_str, v_i_vls_tuple, v_i_vls_list, v_i_vls_tl, v_i_scr_int, v_i_scr_bool, v_i_scr_str, v_i_scr_tuple, v_i_scr_list, v_i_scr_tl, v_range1, v_range2, v_newF, v_newT, at0, at1, at2, at3, at4, at5, sl0, sl1, sl2, sl3, sl4, sl5, sl6, sl7, sl8, true_and, eq_self]
      refine h2.call rfl ⟨a, b, l1, rfl, hl1, sp2, fun m1 S3 hm1 sp3 f3 => ?_⟩
      refine h2.call rfl ⟨a, b, l2, rfl, hl2, sp3, fun m2 S4 hm2 sp4 f4 => ?_⟩
      refine h2.call rfl ⟨a, b, l2, rfl, hl2, sp4, fun m3 S5 hm3 sp5 f5 => ?_⟩
      simp -implicitDefEqProofs only [wpSs, wpS, wpE, wpEs, wpO, wpC, wpT, wpTs, wpI, look_zero, look_succ, whenB_some, startD, List.set_cons_zero, List.set_cons_succ, at_eq, nxt_nx, nxt_rt, nxt_bk, nxt_ct, nxt_ex, loop_nx, loop_rt, loop_bk, loop_ct, loop_ex, exc_nx, exc_rt, exc_bk, exc_ct, exc_ex, List.nil_append, List.cons_append, List.length_cons, List.length_nil, Nat.reduceAdd, v_add_int, v_add_str, v_add_tup, v_add_vls, v_sub, v_mul, v_div, v_mod, v_pow, v_aadd, v_asub, v_aadds, v_cLt, v_cLtE, v_cGt, v_cGtE, v_cEq, v_cNe, v_cEqS, v_cNeS, v_cEqB, v_cNeB, v_is, v_isnt, v_isN_non, v_isN_bl, v_isN_int, v_isN_str, v_isN_tup, v_isN_vls, v_isN_scr, v_isN_loc, v_t_non, v_t_bl, v_t_int, v_t_tup, v_t_vls, v_len_tup, v_list_tup, v_listM_tup, v_tuple_tup, v_idx_tup, v_src_tup, v_len_vls, v_list_vls, v_listM_vls, v_tuple_vls, v_idx_vls, v_src_vls, v_len_scr, v_list_scr, v_listM_scr, v_tuple_scr, v_idx_scr, v_src_scr, v_sli_tup, v_sli_vls, v_sli_scr, v_abs, v_int, v_intb, v_max, v_min, v_i_non_int, v_i_non_bool, v_i_non_str, v_i_non_tuple, v_i_non_list, v_i_non_tl, v_i_bl_int, v_i_bl_bool, v_i_bl_str, v_i_bl_tuple, v_i_bl_list, v_i_bl_tl, v_i_int_int, v_i_int_bool, v_i_int_str, v_i_int_tuple, v_i_int_list, v_i_int_tl, v_i_str_int, v_i_str_bool, v_i_str_str, v_i_str_tuple, v_i_str_list, v_i_str_tl, v_i_tup_int, v_i_tup_bool, v_i_tup_str, v_i_tup_tuple, v_i_tup_list, v_i_tup_tl, v_i_vls_int, v_i_vls_bool, v_i_vls_str, v_i_vls_tuple, v_i_vls_list, v_i_vls_tl, v_i_scr_int, v_i_scr_bool, v_i_scr_str, v_i_scr_tuple, v_i_scr_list, v_i_scr_tl, v_range1, v_range2, v_newF, v_newT, at0, at1, at2, at3, at4, at5, sl0, sl1, sl2, sl3, sl4, sl5, sl6, sl7, sl8, true_and, eq_self]
      refine ⟨le_sl (by omega), ?_⟩
      rw [hnx]
      refine ih _ _ ⟨_, _, _, _, _, _, _, rfl, ?_, by rw [List.length_append]; simp only [List.length_cons, List.length_nil]; omega, sp5⟩
      rw [List.all_append, hx, Bool.true_and]
      simp only [List.all_cons, List.all_nil, Bool.and_true, ok_T (show l1.length ≤ 110 by omega), ok_T (show l2.length ≤ 110 by omega), ok_T hm1, ok_T hm2, ok_T hm3]
    unfold t_law_6
    simp -implicitDefEqProofs only [wpSs, wpS, wpE, wpEs, wpO, wpC, wpT, wpTs, wpI, look_zero, look_succ, whenB_some, startD, List.set_cons_zero, List.set_cons_succ, at_eq, nxt_nx, nxt_rt, nxt_bk, nxt_ct, nxt_ex, loop_nx, loop_rt, loop_bk, loop_ct, loop_ex, exc_nx, exc_rt, exc_bk, exc_ct, exc_ex, List.nil_append, List.cons_append, List.length_cons, List.length_nil, Nat.reduceAdd, v_add_int, v_add_str, v_add_tup, v_add_vls, v_sub, v_mul, v_div, v_mod, v_pow, v_aadd, v_asub, v_aadds, v_cLt, v_cLtE, v_cGt, v_cGtE, v_cEq, v_cNe, v_cEqS, v_cNeS, v_cEqB, v_cNeB, v_is, v_isnt, v_isN_non, v_isN_bl, v_isN_int, v_isN_str, v_isN_tup, v_isN_vls, v_isN_scr, v_isN_loc, v_t_non, v_t_bl, v_t_int, v_t_tup, v_t_vls, v_len_tup, v_list_tup, v_listM_tup, v_tuple_tup, v_idx_tup, v_src_tup, v_len_vls, v_list_vls, v_listM_vls, v_tuple_vls, v_idx_vls, v_src_vls, v_len_scr, v_list_scr, v_listM_scr, v_tuple_scr, v_idx_scr, v_src_scr, v_sli_tup, v_sli_vls, v_sli_scr, v_abs, v_int, v_intb, v_max, v_min, v_i_non_int, v_i_non_bool, v_i_non_str, v_i_non_tuple, v_i_non_list, v_i_non_tl, v_i_bl_int, v_i_bl_bool, v_i_bl_str, v_i_bl_tuple, v_i_bl_list, v_i_bl_tl, v_i_int_int, v_i_int_bool, v_i_int_str, v_i_int_tuple, v_i_int_list, v_i_int_tl, v_i_str_int, v_i_str_bool, v_i_str_str, v_i_str_tuple, v_i_str_list, v_i_str_tl, v_i_tup_int, v_i_tup_bool, v_i_tup_str, v_i_tup_tuple, v_i_tup_list, v_i_tup_tl, v_i_vls_int, v_i_vls_bool, v_i_vls_str, v_i_vls_tuple, v_i_vls_list, v_i_vls_tl, v_i_scr_int, v_i_scr_bool, v_i_scr_str, v_i_scr_tuple, v_i_scr_list, v_i_scr_tl, v_range1, v_range2, v_newF, v_newT, at0, at1, at2, at3, at4, at5, sl0, sl1, sl2, sl3, sl4, sl5, sl6, sl7, sl8, true_and, eq_self, i0, i1, v_strI, str_num, e_slash, T_add, v_add_str, T_len]
    refine br_dec (fun _ => ?_) fun _ => ?_
    · exact ⟨lg' hr1, five _ _ (by (try simp only [List.length_append, List.length_cons, List.length_nil]); omega) (by (try simp only [List.length_append, List.length_cons, List.length_nil]); omega)⟩
    · exact ⟨lg' hr1, le_sl (by (try simp only [List.length_append, List.length_cons, List.length_nil]); omega), lg' hr2, le_sl (by (try simp only [List.length_append, List.length_cons, List.length_nil]); omega), five _ _ (by (try simp only [List.length_append, List.length_cons, List.length_nil]); omega) (by (try simp only [List.length_append, List.length_cons, List.length_nil]); omega)⟩
theorem w_law {Γ : Ctx} (hd : Has Γ f_L_drop 2 sp_drop) (h0 : Has Γ f_L_spring 1 sp_spring) (h1 : Has Γ f_L_number 1 sp_number) (h2 : Has Γ f_L_spoilt 2 sp_spoilt) (h3 : Has Γ f_L_read 1 sp_read) (h4 : Has Γ f_L_told 2 sp_Ltold) (h5 : Has Γ f_L_alike 2 (sp_alike 4)) : ∀ ds S Q E, sp_law ds S Q E → wpFn Γ c_law ds S Q E := by
  rintro _ _ Q E ⟨ns, rfl, hn, rfl, hq⟩
  unfold wpFn c_law t_law_12
  simp -implicitDefEqProofs only [wpSs, wpS, wpE, wpEs, wpO, wpC, wpT, wpTs, wpI, look_zero, look_succ, whenB_some, startD, List.set_cons_zero, List.set_cons_succ, at_eq, nxt_nx, nxt_rt, nxt_bk, nxt_ct, nxt_ex, loop_nx, loop_rt, loop_bk, loop_ct, loop_ex, exc_nx, exc_rt, exc_bk, exc_ct, exc_ex, List.nil_append, List.cons_append, List.length_cons, List.length_nil, Nat.reduceAdd, v_add_int, v_add_str, v_add_tup, v_add_vls, v_sub, v_mul, v_div, v_mod, v_pow, v_aadd, v_asub, v_aadds, v_cLt, v_cLtE, v_cGt, v_cGtE, v_cEq, v_cNe, v_cEqS, v_cNeS, v_cEqB, v_cNeB, v_is, v_isnt, v_isN_non, v_isN_bl, v_isN_int, v_isN_str, v_isN_tup, v_isN_vls, v_isN_scr, v_isN_loc, v_t_non, v_t_bl, v_t_int, v_t_tup, v_t_vls, v_len_tup, v_list_tup, v_listM_tup, v_tuple_tup, v_idx_tup, v_src_tup, v_len_vls, v_list_vls, v_listM_vls, v_tuple_vls, v_idx_vls, v_src_vls, v_len_scr, v_list_scr, v_listM_scr, v_tuple_scr, v_idx_scr, v_src_scr, v_sli_tup, v_sli_vls, v_sli_scr, v_abs, v_int, v_intb, v_max, v_min, v_i_non_int, v_i_non_bool, v_i_non_str, v_i_non_tuple, v_i_non_list, v_i_non_tl, v_i_bl_int, v_i_bl_bool, v_i_bl_str, v_i_bl_tuple, v_i_bl_list, v_i_bl_tl, v_i_int_int, v_i_int_bool, v_i_int_str, v_i_int_tuple, v_i_int_list, v_i_int_tl, v_i_str_int, v_i_str_bool, v_i_str_str, v_i_str_tuple, v_i_str_list, v_i_str_tl, v_i_tup_int, v_i_tup_bool, v_i_tup_str, v_i_tup_tuple, v_i_tup_list, v_i_tup_tl, v_i_vls_int, v_i_vls_bool, v_i_vls_str, v_i_vls_tuple, v_i_vls_list, v_i_vls_tl, v_i_scr_int, v_i_scr_bool, v_i_scr_str, v_i_scr_tuple, v_i_scr_list, v_i_scr_tl, v_range1, v_range2, v_newF, v_newT, at0, at1, at2, at3, at4, at5, sl0, sl1, sl2, sl3, sl4, sl5, sl6, sl7, sl8, true_and, eq_self]
  refine h0.call rfl ⟨ns, rfl, hn, fun a b S0 sp0 => ?_⟩
  unfold t_law_11
  simp -implicitDefEqProofs only [wpSs, wpS, wpE, wpEs, wpO, wpC, wpT, wpTs, wpI, look_zero, look_succ, whenB_some, startD, List.set_cons_zero, List.set_cons_succ, at_eq, nxt_nx, nxt_rt, nxt_bk, nxt_ct, nxt_ex, loop_nx, loop_rt, loop_bk, loop_ct, loop_ex, exc_nx, exc_rt, exc_bk, exc_ct, exc_ex, List.nil_append, List.cons_append, List.length_cons, List.length_nil, Nat.reduceAdd, v_add_int, v_add_str, v_add_tup, v_add_vls, v_sub, v_mul, v_div, v_mod, v_pow, v_aadd, v_asub, v_aadds, v_cLt, v_cLtE, v_cGt, v_cGtE, v_cEq, v_cNe, v_cEqS, v_cNeS, v_cEqB, v_cNeB, v_is, v_isnt, v_isN_non, v_isN_bl, v_isN_int, v_isN_str, v_isN_tup, v_isN_vls, v_isN_scr, v_isN_loc, v_t_non, v_t_bl, v_t_int, v_t_tup, v_t_vls, v_len_tup, v_list_tup, v_listM_tup, v_tuple_tup, v_idx_tup, v_src_tup, v_len_vls, v_list_vls, v_listM_vls, v_tuple_vls, v_idx_vls, v_src_vls, v_len_scr, v_list_scr, v_listM_scr, v_tuple_scr, v_idx_scr, v_src_scr, v_sli_tup, v_sli_vls, v_sli_scr, v_abs, v_int, v_intb, v_max, v_min, v_i_non_int, v_i_non_bool, v_i_non_str, v_i_non_tuple, v_i_non_list, v_i_non_tl, v_i_bl_int, v_i_bl_bool, v_i_bl_str, v_i_bl_tuple, v_i_bl_list, v_i_bl_tl, v_i_int_int, v_i_int_bool, v_i_int_str, v_i_int_tuple, v_i_int_list, v_i_int_tl, v_i_str_int, v_i_str_bool, v_i_str_str, v_i_str_tuple, v_i_str_list, v_i_str_tl, v_i_tup_int, v_i_tup_bool, v_i_tup_str, v_i_tup_tuple, v_i_tup_list, v_i_tup_tl, v_i_vls_int, v_i_vls_bool, v_i_vls_str, v_i_vls_tuple, v_i_vls_list, v_i_vls_tl, v_i_scr_int, v_i_scr_bool, v_i_scr_str, v_i_scr_tuple, v_i_scr_list, v_i_scr_tl, v_range1, v_range2, v_newF, v_newT, at0, at1, at2, at3, at4, at5, sl0, sl1, sl2, sl3, sl4, sl5, sl6, sl7, sl8, true_and, eq_self]
  refine ⟨by decide, ?_⟩
  unfold t_law_10
  simp -implicitDefEqProofs only [wpSs, wpS, wpE, wpEs, wpO, wpC, wpT, wpTs, wpI, look_zero, look_succ, whenB_some, startD, List.set_cons_zero, List.set_cons_succ, at_eq, nxt_nx, nxt_rt, nxt_bk, nxt_ct, nxt_ex, loop_nx, loop_rt, loop_bk, loop_ct, loop_ex, exc_nx, exc_rt, exc_bk, exc_ct, exc_ex, List.nil_append, List.cons_append, List.length_cons, List.length_nil, Nat.reduceAdd, v_add_int, v_add_str, v_add_tup, v_add_vls, v_sub, v_mul, v_div, v_mod, v_pow, v_aadd, v_asub, v_aadds, v_cLt, v_cLtE, v_cGt, v_cGtE, v_cEq, v_cNe, v_cEqS, v_cNeS, v_cEqB, v_cNeB, v_is, v_isnt, v_isN_non, v_isN_bl, v_isN_int, v_isN_str, v_isN_tup, v_isN_vls, v_isN_scr, v_isN_loc, v_t_non, v_t_bl, v_t_int, v_t_tup, v_t_vls, v_len_tup, v_list_tup, v_listM_tup, v_tuple_tup, v_idx_tup, v_src_tup, v_len_vls, v_list_vls, v_listM_vls, v_tuple_vls, v_idx_vls, v_src_vls, v_len_scr, v_list_scr, v_listM_scr, v_tuple_scr, v_idx_scr, v_src_scr, v_sli_tup, v_sli_vls, v_sli_scr, v_abs, v_int, v_intb, v_max, v_min, v_i_non_int, v_i_non_bool, v_i_non_str, v_i_non_tuple, v_i_non_list, v_i_non_tl, v_i_bl_int, v_i_bl_bool, v_i_bl_str, v_i_bl_tuple, v_i_bl_list, v_i_bl_tl, v_i_int_int, v_i_int_bool, v_i_int_str, v_i_int_tuple, v_i_int_list, v_i_int_tl, v_i_str_int, v_i_str_bool, v_i_str_str, v_i_str_tuple, v_i_str_list, v_i_str_tl, v_i_tup_int, v_i_tup_bool, v_i_tup_str, v_i_tup_tuple, v_i_tup_list, v_i_tup_tl, v_i_vls_int, v_i_vls_bool, v_i_vls_str, v_i_vls_tuple, v_i_vls_list, v_i_vls_tl, v_i_scr_int, v_i_scr_bool, v_i_scr_str, v_i_scr_tuple, v_i_scr_list, v_i_scr_tl, v_range1, v_range2, v_newF, v_newT, at0, at1, at2, at3, at4, at5, sl0, sl1, sl2, sl3, sl4, sl5, sl6, sl7, sl8, true_and, eq_self, v_mul_str, v_add_str]
  refine ⟨by decide, by decide, by decide, by decide +kernel, by decide, by decide, by decide, by decide +kernel, by decide, ?_⟩
  refine ⟨by decide, ?_⟩
  refine w_nine hd h1 h2 h3 h4 h5 ?_ hq ?_ ?_ sp0
  · rfl
  · decide +kernel
  · decide +kernel
end XC.Kk05
end

section
set_option Elab.async false
set_option linter.all false
set_option maxRecDepth 100000
set_option maxHeartbeats 4000000
namespace XC.Kk05
open PySem PySem.Spec PyProof.Rows L2 XC
abbrev Pg : Program := PySem.Challenge.pw_exactclash_k05_breaks_of_fraction_texts
def top (i : Nat) : Stmt := Pg.main.body.getD i (.Pass ⟨0, 0, 0, 0⟩)
theorem k_common : chkSs ⟨n_common, u_common, uc_common, uk_common, ux_common, uf_common, false⟩ (defScope (top f_common)) c_common.body (defBody (top f_common)) = true := by decide +kernel
theorem s_common : FnScope n_common p_common (defScope (top f_common)) := ⟨rfl, rfl, rfl, by decide +kernel, rfl, by decide +kernel, by decide +kernel⟩
theorem o_common : PoS (Str.ofString "common") (top f_common) p_common := fun _ _ _ _ _ _ us hl => match us, hl with | [_, _], _ => rfl
theorem k_digits_from : chkSs ⟨n_digits_from, u_digits_from, uc_digits_from, uk_digits_from, ux_digits_from, uf_digits_from, false⟩ (defScope (top f_digits_from)) c_digits_from.body (defBody (top f_digits_from)) = true := by decide +kernel
theorem s_digits_from : FnScope n_digits_from p_digits_from (defScope (top f_digits_from)) := ⟨rfl, rfl, rfl, by decide +kernel, rfl, by decide +kernel, by decide +kernel⟩
theorem o_digits_from : PoS (Str.ofString "digits_from") (top f_digits_from) p_digits_from := fun _ _ _ _ _ _ us hl => match us, hl with | [_, _], _ => rfl
theorem k_fraction_told : chkSs ⟨n_fraction_told, u_fraction_told, uc_fraction_told, uk_fraction_told, ux_fraction_told, uf_fraction_told, false⟩ (defScope (top f_fraction_told)) c_fraction_told.body (defBody (top f_fraction_told)) = true := by decide +kernel
theorem s_fraction_told : FnScope n_fraction_told p_fraction_told (defScope (top f_fraction_told)) := ⟨rfl, rfl, rfl, by decide +kernel, rfl, by decide +kernel, by decide +kernel⟩
theorem o_fraction_told : PoS (Str.ofString "fraction_told") (top f_fraction_told) p_fraction_told := fun _ _ _ _ _ _ us hl => match us, hl with | [_], _ => rfl
theorem k_L_spring : chkSs ⟨n_L_spring, u_L_spring, uc_L_spring, uk_L_spring, ux_L_spring, uf_L_spring, false⟩ (defScope (top f_L_spring)) c_L_spring.body (defBody (top f_L_spring)) = true := by decide +kernel
theorem s_L_spring : FnScope n_L_spring p_L_spring (defScope (top f_L_spring)) := ⟨rfl, rfl, rfl, by decide +kernel, rfl, by decide +kernel, by decide +kernel⟩
theorem o_L_spring : PoS (Str.ofString "_law_spring") (top f_L_spring) p_L_spring := fun _ _ _ _ _ _ us hl => match us, hl with | [_], _ => rfl
theorem k_L_drop : chkSs ⟨n_L_drop, u_L_drop, uc_L_drop, uk_L_drop, ux_L_drop, uf_L_drop, false⟩ (defScope (top f_L_drop)) c_L_drop.body (defBody (top f_L_drop)) = true := by decide +kernel
theorem s_L_drop : FnScope n_L_drop p_L_drop (defScope (top f_L_drop)) := ⟨rfl, rfl, rfl, by decide +kernel, rfl, by decide +kernel, by decide +kernel⟩
theorem o_L_drop : PoS (Str.ofString "_law_drop") (top f_L_drop) p_L_drop := fun _ _ _ _ _ _ us hl => match us, hl with | [_, _], _ => rfl
theorem k_L_kinds : chkSs ⟨n_L_kinds, u_L_kinds, uc_L_kinds, uk_L_kinds, ux_L_kinds, uf_L_kinds, false⟩ (defScope (top f_L_kinds)) c_L_kinds.body (defBody (top f_L_kinds)) = true := by decide +kernel
theorem s_L_kinds : FnScope n_L_kinds p_L_kinds (defScope (top f_L_kinds)) := ⟨rfl, rfl, rfl, by decide +kernel, rfl, by decide +kernel, by decide +kernel⟩
theorem o_L_kinds : PoS (Str.ofString "_law_kinds") (top f_L_kinds) p_L_kinds := fun _ _ _ _ _ _ us hl => match us, hl with | [_], _ => rfl
theorem k_L_alike : chkSs ⟨n_L_alike, u_L_alike, uc_L_alike, uk_L_alike, ux_L_alike, uf_L_alike, false⟩ (defScope (top f_L_alike)) c_L_alike.body (defBody (top f_L_alike)) = true := by decide +kernel
theorem s_L_alike : FnScope n_L_alike p_L_alike (defScope (top f_L_alike)) := ⟨rfl, rfl, rfl, by decide +kernel, rfl, by decide +kernel, by decide +kernel⟩
theorem o_L_alike : PoS (Str.ofString "_law_alike") (top f_L_alike) p_L_alike := fun _ _ _ _ _ _ us hl => match us, hl with | [_, _], _ => rfl
theorem k_L_low : chkSs ⟨n_L_low, u_L_low, uc_L_low, uk_L_low, ux_L_low, uf_L_low, false⟩ (defScope (top f_L_low)) c_L_low.body (defBody (top f_L_low)) = true := by decide +kernel
theorem s_L_low : FnScope n_L_low p_L_low (defScope (top f_L_low)) := ⟨rfl, rfl, rfl, by decide +kernel, rfl, by decide +kernel, by decide +kernel⟩
theorem o_L_low : PoS (Str.ofString "_law_low") (top f_L_low) p_L_low := fun _ _ _ _ _ _ us hl => match us, hl with | [_, _], _ => rfl
theorem k_L_number : chkSs ⟨n_L_number, u_L_number, uc_L_number, uk_L_number, ux_L_number, uf_L_number, false⟩ (defScope (top f_L_number)) c_L_number.body (defBody (top f_L_number)) = true := by decide +kernel
theorem s_L_number : FnScope n_L_number p_L_number (defScope (top f_L_number)) := ⟨rfl, rfl, rfl, by decide +kernel, rfl, by decide +kernel, by decide +kernel⟩
theorem o_L_number : PoS (Str.ofString "_law_number") (top f_L_number) p_L_number := fun _ _ _ _ _ _ us hl => match us, hl with | [_], _ => rfl
theorem k_L_read : chkSs ⟨n_L_read, u_L_read, uc_L_read, uk_L_read, ux_L_read, uf_L_read, false⟩ (defScope (top f_L_read)) c_L_read.body (defBody (top f_L_read)) = true := by decide +kernel
theorem s_L_read : FnScope n_L_read p_L_read (defScope (top f_L_read)) := ⟨rfl, rfl, rfl, by decide +kernel, rfl, by decide +kernel, by decide +kernel⟩
theorem o_L_read : PoS (Str.ofString "_law_read") (top f_L_read) p_L_read := fun _ _ _ _ _ _ us hl => match us, hl with | [_], _ => rfl
theorem k_L_told : chkSs ⟨n_L_told, u_L_told, uc_L_told, uk_L_told, ux_L_told, uf_L_told, false⟩ (defScope (top f_L_told)) c_L_told.body (defBody (top f_L_told)) = true := by decide +kernel
theorem s_L_told : FnScope n_L_told p_L_told (defScope (top f_L_told)) := ⟨rfl, rfl, rfl, by decide +kernel, rfl, by decide +kernel, by decide +kernel⟩
theorem o_L_told : PoS (Str.ofString "_law_told") (top f_L_told) p_L_told := fun _ _ _ _ _ _ us hl => match us, hl with | [_, _], _ => rfl
theorem k_L_spoilt : chkSs ⟨n_L_spoilt, u_L_spoilt, uc_L_spoilt, uk_L_spoilt, ux_L_spoilt, uf_L_spoilt, false⟩ (defScope (top f_L_spoilt)) c_L_spoilt.body (defBody (top f_L_spoilt)) = true := by decide +kernel
theorem s_L_spoilt : FnScope n_L_spoilt p_L_spoilt (defScope (top f_L_spoilt)) := ⟨rfl, rfl, rfl, by decide +kernel, rfl, by decide +kernel, by decide +kernel⟩
theorem o_L_spoilt : PoS (Str.ofString "_law_spoilt") (top f_L_spoilt) p_L_spoilt := fun _ _ _ _ _ _ us hl => match us, hl with | [_, _], _ => rfl
theorem k_law : chkSs ⟨n_law, u_law, uc_law, uk_law, ux_law, uf_law, false⟩ (defScope (top f_law)) c_law.body (defBody (top f_law)) = true := by decide +kernel
theorem s_law : FnScope n_law p_law (defScope (top f_law)) := ⟨rfl, rfl, rfl, by decide +kernel, rfl, by decide +kernel, by decide +kernel⟩
theorem o_law : PoS (Str.ofString "law") (top f_law) p_law := fun _ _ _ _ _ _ us hl => match us, hl with | [_], _ => rfl
theorem kw_fraction_told_0 : KwS (Str.ofString "fraction_told") (top f_fraction_told) p_fraction_told 0 [Str.ofString "text"] [0] := ⟨rfl, fun _ _ _ _ _ _ s us ws vs hu hw hv => by
  match us, hu, ws, hw with
  | [], _, [b0], _ =>
    obtain rfl : [b0] = vs := Option.some.inj hv
    exact .of_eq rfl⟩
def xl : List (Nat × Str × Option Str) := [(f_InvalidText, Str.ofString "InvalidText", some (Str.ofString "index"))]
def subs : List ((Nat × Nat) × Bool) := [((f_InvalidText, f_InvalidText), true)]
section
variable {P : Program} {w : World} {K : PySem.W.Frag} {mg : Str → Option Value} {base : Heap} {cl : Nat → Addr} {h : Heap}
theorem whole (X : K.In h) (G : h.Ns mainGlobals mg) {C_InvalidText I_InvalidText cc_InvalidText cd_InvalidText : Addr} (d_common : DK K (Str.ofString "common") (top f_common)) (d_digits_from : DK K (Str.ofString "digits_from") (top f_digits_from)) (d_fraction_told : DK K (Str.ofString "fraction_told") (top f_fraction_told)) (d_L_spring : DK K (Str.ofString "_law_spring") (top f_L_spring)) (d_L_drop : DK K (Str.ofString "_law_drop") (top f_L_drop)) (d_L_kinds : DK K (Str.ofString "_law_kinds") (top f_L_kinds)) (d_L_alike : DK K (Str.ofString "_law_alike") (top f_L_alike)) (d_L_low : DK K (Str.ofString "_law_low") (top f_L_low)) (d_L_number : DK K (Str.ofString "_law_number") (top f_L_number)) (d_L_read : DK K (Str.ofString "_law_read") (top f_L_read)) (d_L_told : DK K (Str.ofString "_law_told") (top f_L_told)) (d_L_spoilt : DK K (Str.ofString "_law_spoilt") (top f_L_spoilt)) (d_law : DK K (Str.ofString "law") (top f_law)) (e_InvalidText : FK P K (Str.ofString "InvalidText") (Str.ofString "index") C_InvalidText I_InvalidText cc_InvalidText cd_InvalidText) (s_InvalidText_InvalidText : PySem.W.subIn K (.ref C_InvalidText) (.ref C_InvalidText) = some true) (c_DIGITS : CKS K (Str.ofString "DIGITS") (Str.ofString "0123456789")) (hb : ∀ x : Str, x ∈ bltNames → mg x = none) : Kp P w K mg base cl (xcOf K xl) 6 (Str.ofString "law") (top f_law) p_law (sp_law) := by
  have hsub : ∀ p ∈ subs, PySem.W.exmOne K (xcOf K xl p.1.1).1 (xcOf K xl p.1.2).1 = some p.2 := List.forall_mem_cons.mpr ⟨exm_of e_InvalidText.eb e_InvalidText.eb s_InvalidText_InvalidText rfl rfl, fun _ h => nomatch h⟩
  have q_common : Kp P w K mg base cl (xcOf K xl) 1 (Str.ofString "common") (top f_common) p_common (sp_gcd) := kp_ok (Γ := mkG [] [] []) (T := ⟨n_common, u_common, uc_common, uk_common, ux_common, uf_common, false⟩) rfl d_common X G o_common s_common (modG_mk (fun _ h => nomatch h) (fun _ h => nomatch h) hb (fun _ h => nomatch h) sub_none (fld_of _ (by first | rfl | decide +kernel))) k_common rfl (w_common)
  have q_digits_from : Kp P w K mg base cl (xcOf K xl) 2 (Str.ofString "digits_from") (top f_digits_from) p_digits_from (sp_digits) := kp_ok (Γ := mkG [] [(g_DIGITS, .str (Str.ofString "0123456789"))] []) (T := ⟨n_digits_from, u_digits_from, uc_digits_from, uk_digits_from, ux_digits_from, uf_digits_from, false⟩) rfl d_digits_from X G o_digits_from s_digits_from (modG_mk (fun _ h => nomatch h) (List.forall_mem_cons.mpr ⟨c_DIGITS.con X G rfl rfl, fun _ h => nomatch h⟩) hb (List.forall_mem_cons.mpr ⟨e_InvalidText.at X G rfl (by decide), fun _ h => nomatch h⟩) sub_none (fld_of _ (by first | rfl | decide +kernel))) k_digits_from rfl (w_digits_from rfl)
  have q_fraction_told : Kp P w K mg base cl (xcOf K xl) 3 (Str.ofString "fraction_told") (top f_fraction_told) p_fraction_told (sp_told) := kp_ok (Γ := mkG [(f_common, 2, (sp_gcd)), (f_digits_from, 2, (sp_digits))] [] []) (T := ⟨n_fraction_told, u_fraction_told, uc_fraction_told, uk_fraction_told, ux_fraction_told, uf_fraction_told, false⟩) rfl d_fraction_told X G o_fraction_told s_fraction_told (modG_mk (List.forall_mem_cons.mpr ⟨⟨_, _, Kp.mono q_common (by decide), rfl, kws_none rfl⟩, List.forall_mem_cons.mpr ⟨⟨_, _, Kp.mono q_digits_from (by decide), rfl, kws_none rfl⟩, fun _ h => nomatch h⟩⟩) (fun _ h => nomatch h) hb (List.forall_mem_cons.mpr ⟨e_InvalidText.at X G rfl (by decide), fun _ h => nomatch h⟩) sub_none (fld_of _ (by first | rfl | decide +kernel))) k_fraction_told rfl (w_fraction_told ⟨rfl, rfl⟩ ⟨rfl, rfl⟩)
  have q_L_spring : Kp P w K mg base cl (xcOf K xl) 1 (Str.ofString "_law_spring") (top f_L_spring) p_L_spring (sp_spring) := kp_ok (Γ := mkG [] [] []) (T := ⟨n_L_spring, u_L_spring, uc_L_spring, uk_L_spring, ux_L_spring, uf_L_spring, false⟩) rfl d_L_spring X G o_L_spring s_L_spring (modG_mk (fun _ h => nomatch h) (fun _ h => nomatch h) hb (fun _ h => nomatch h) sub_none (fld_of _ (by first | rfl | decide +kernel))) k_L_spring rfl (w_L_spring)
  have q_L_drop : Kp P w K mg base cl (xcOf K xl) 1 (Str.ofString "_law_drop") (top f_L_drop) p_L_drop (sp_drop) := kp_ok (Γ := mkG [] [] []) (T := ⟨n_L_drop, u_L_drop, uc_L_drop, uk_L_drop, ux_L_drop, uf_L_drop, false⟩) rfl d_L_drop X G o_L_drop s_L_drop (modG_mk (fun _ h => nomatch h) (fun _ h => nomatch h) hb (fun _ h => nomatch h) sub_none (fld_of _ (by first | rfl | decide +kernel))) k_L_drop rfl (w_L_drop)
  have q_L_kinds : Kp P w K mg base cl (xcOf K xl) 1 (Str.ofString "_law_kinds") (top f_L_kinds) p_L_kinds (sp_kinds) := kp_ok (Γ := mkG [] [] []) (T := ⟨n_L_kinds, u_L_kinds, uc_L_kinds, uk_L_kinds, ux_L_kinds, uf_L_kinds, false⟩) rfl d_L_kinds X G o_L_kinds s_L_kinds (modG_mk (fun _ h => nomatch h) (fun _ h => nomatch h) hb (fun _ h => nomatch h) sub_none (fld_of _ (by first | rfl | decide +kernel))) k_L_kinds rfl (w_L_kinds)
  have q_L_alike : Kp P w K mg base cl (xcOf K xl) 1 (Str.ofString "_law_alike") (top f_L_alike) p_L_alike (sp_alike 0) := kp_zero d_L_alike X G o_L_alike s_L_alike (alike_zero)
  have q_L_alike_1 : Kp P w K mg base cl (xcOf K xl) 2 (Str.ofString "_law_alike") (top f_L_alike) p_L_alike (sp_alike 1) := kp_ok (Γ := mkG [(f_L_alike, 2, (sp_alike 0)), (f_L_kinds, 1, (sp_kinds))] [] []) (T := ⟨n_L_alike, u_L_alike, uc_L_alike, uk_L_alike, ux_L_alike, uf_L_alike, false⟩) rfl d_L_alike X G o_L_alike s_L_alike (modG_mk (List.forall_mem_cons.mpr ⟨⟨_, _, Kp.mono q_L_alike (by decide), rfl, kws_none rfl⟩, List.forall_mem_cons.mpr ⟨⟨_, _, Kp.mono q_L_kinds (by decide), rfl, kws_none rfl⟩, fun _ h => nomatch h⟩⟩) (fun _ h => nomatch h) hb (fun _ h => nomatch h) sub_none (fld_of _ (by first | rfl | decide +kernel))) k_L_alike rfl (w_L_alike 0 ⟨rfl, rfl⟩ ⟨rfl, rfl⟩)
  have q_L_alike_2 : Kp P w K mg base cl (xcOf K xl) 3 (Str.ofString "_law_alike") (top f_L_alike) p_L_alike (sp_alike 2) := kp_ok (Γ := mkG [(f_L_alike, 2, (sp_alike 1)), (f_L_kinds, 1, (sp_kinds))] [] []) (T := ⟨n_L_alike, u_L_alike, uc_L_alike, uk_L_alike, ux_L_alike, uf_L_alike, false⟩) rfl d_L_alike X G o_L_alike s_L_alike (modG_mk (List.forall_mem_cons.mpr ⟨⟨_, _, Kp.mono q_L_alike_1 (by decide), rfl, kws_none rfl⟩, List.forall_mem_cons.mpr ⟨⟨_, _, Kp.mono q_L_kinds (by decide), rfl, kws_none rfl⟩, fun _ h => nomatch h⟩⟩) (fun _ h => nomatch h) hb (fun _ h => nomatch h) sub_none (fld_of _ (by first | rfl | decide +kernel))) k_L_alike rfl (w_L_alike 1 ⟨rfl, rfl⟩ ⟨rfl, rfl⟩)
  have q_L_alike_3 : Kp P w K mg base cl (xcOf K xl) 4 (Str.ofString "_law_alike") (top f_L_alike) p_L_alike (sp_alike 3) := kp_ok (Γ := mkG [(f_L_alike, 2, (sp_alike 2)), (f_L_kinds, 1, (sp_kinds))] [] []) (T := ⟨n_L_alike, u_L_alike, uc_L_alike, uk_L_alike, ux_L_alike, uf_L_alike, false⟩) rfl d_L_alike X G o_L_alike s_L_alike (modG_mk (List.forall_mem_cons.mpr ⟨⟨_, _, Kp.mono q_L_alike_2 (by decide), rfl, kws_none rfl⟩, List.forall_mem_cons.mpr ⟨⟨_, _, Kp.mono q_L_kinds (by decide), rfl, kws_none rfl⟩, fun _ h => nomatch h⟩⟩) (fun _ h => nomatch h) hb (fun _ h => nomatch h) sub_none (fld_of _ (by first | rfl | decide +kernel))) k_L_alike rfl (w_L_alike 2 ⟨rfl, rfl⟩ ⟨rfl, rfl⟩)
  have q_L_alike_4 : Kp P w K mg base cl (xcOf K xl) 5 (Str.ofString "_law_alike") (top f_L_alike) p_L_alike (sp_alike 4) := kp_ok (Γ := mkG [(f_L_alike, 2, (sp_alike 3)), (f_L_kinds, 1, (sp_kinds))] [] []) (T := ⟨n_L_alike, u_L_alike, uc_L_alike, uk_L_alike, ux_L_alike, uf_L_alike, false⟩) rfl d_L_alike X G o_L_alike s_L_alike (modG_mk (List.forall_mem_cons.mpr ⟨⟨_, _, Kp.mono q_L_alike_3 (by decide), rfl, kws_none rfl⟩, List.forall_mem_cons.mpr ⟨⟨_, _, Kp.mono q_L_kinds (by decide), rfl, kws_none rfl⟩, fun _ h => nomatch h⟩⟩) (fun _ h => nomatch h) hb (fun _ h => nomatch h) sub_none (fld_of _ (by first | rfl | decide +kernel))) k_L_alike rfl (w_L_alike 3 ⟨rfl, rfl⟩ ⟨rfl, rfl⟩)
  have q_L_low : Kp P w K mg base cl (xcOf K xl) 1 (Str.ofString "_law_low") (top f_L_low) p_L_low (sp_low 9000) := kp_ok (Γ := mkG [] [] []) (T := ⟨n_L_low, u_L_low, uc_L_low, uk_L_low, ux_L_low, uf_L_low, false⟩) rfl d_L_low X G o_L_low s_L_low (modG_mk (fun _ h => nomatch h) (fun _ h => nomatch h) hb (fun _ h => nomatch h) sub_none (fld_of _ (by first | rfl | decide +kernel))) k_L_low rfl (w_L_low)
  have q_L_number : Kp P w K mg base cl (xcOf K xl) 2 (Str.ofString "_law_number") (top f_L_number) p_L_number (sp_number) := kp_ok (Γ := mkG [(f_L_low, 2, (sp_low 9000)), (f_L_drop, 2, (sp_drop))] [] []) (T := ⟨n_L_number, u_L_number, uc_L_number, uk_L_number, ux_L_number, uf_L_number, false⟩) rfl d_L_number X G o_L_number s_L_number (modG_mk (List.forall_mem_cons.mpr ⟨⟨_, _, Kp.mono q_L_low (by decide), rfl, kws_none rfl⟩, List.forall_mem_cons.mpr ⟨⟨_, _, Kp.mono q_L_drop (by decide), rfl, kws_none rfl⟩, fun _ h => nomatch h⟩⟩) (fun _ h => nomatch h) hb (fun _ h => nomatch h) sub_none (fld_of _ (by first | rfl | decide +kernel))) k_L_number rfl (w_L_number ⟨rfl, rfl⟩ ⟨rfl, rfl⟩)
  have q_L_read : Kp P w K mg base cl (xcOf K xl) 2 (Str.ofString "_law_read") (top f_L_read) p_L_read (sp_read) := kp_ok (Γ := mkG [(f_L_low, 2, (sp_low 9000))] [] []) (T := ⟨n_L_read, u_L_read, uc_L_read, uk_L_read, ux_L_read, uf_L_read, false⟩) rfl d_L_read X G o_L_read s_L_read (modG_mk (List.forall_mem_cons.mpr ⟨⟨_, _, Kp.mono q_L_low (by decide), rfl, kws_none rfl⟩, fun _ h => nomatch h⟩) (fun _ h => nomatch h) hb (fun _ h => nomatch h) sub_none (fld_of _ (by first | rfl | decide +kernel))) k_L_read rfl (w_L_read ⟨rfl, rfl⟩)
  have q_L_told : Kp P w K mg base cl (xcOf K xl) 4 (Str.ofString "_law_told") (top f_L_told) p_L_told (sp_Ltold) := kp_ok (Γ := mkG [(f_fraction_told, 1, (sp_told))] [] subs) (T := ⟨n_L_told, u_L_told, uc_L_told, uk_L_told, ux_L_told, uf_L_told, false⟩) rfl d_L_told X G o_L_told s_L_told (modG_mk (List.forall_mem_cons.mpr ⟨⟨_, _, Kp.mono q_fraction_told (by decide), rfl, kws_all (List.forall_mem_cons.mpr ⟨fun _ => kw_fraction_told_0, fun _ h => nomatch h⟩)⟩, fun _ h => nomatch h⟩) (fun _ h => nomatch h) hb (List.forall_mem_cons.mpr ⟨e_InvalidText.at X G rfl (by decide), fun _ h => nomatch h⟩) (sub_all _ hsub) (fld_of _ (by first | rfl | decide +kernel))) k_L_told rfl (w_L_told rfl ⟨rfl, rfl⟩)
  have q_L_spoilt : Kp P w K mg base cl (xcOf K xl) 2 (Str.ofString "_law_spoilt") (top f_L_spoilt) p_L_spoilt (sp_spoilt) := kp_ok (Γ := mkG [(f_L_drop, 2, (sp_drop))] [] []) (T := ⟨n_L_spoilt, u_L_spoilt, uc_L_spoilt, uk_L_spoilt, ux_L_spoilt, uf_L_spoilt, false⟩) rfl d_L_spoilt X G o_L_spoilt s_L_spoilt (modG_mk (List.forall_mem_cons.mpr ⟨⟨_, _, Kp.mono q_L_drop (by decide), rfl, kws_none rfl⟩, fun _ h => nomatch h⟩) (fun _ h => nomatch h) hb (fun _ h => nomatch h) sub_none (fld_of _ (by first | rfl | decide +kernel))) k_L_spoilt rfl (w_L_spoilt ⟨rfl, rfl⟩)
  have q_law : Kp P w K mg base cl (xcOf K xl) 6 (Str.ofString "law") (top f_law) p_law (sp_law) := kp_ok (Γ := mkG [(f_L_alike, 2, (sp_alike 4)), (f_L_told, 2, (sp_Ltold)), (f_L_read, 1, (sp_read)), (f_L_spoilt, 2, (sp_spoilt)), (f_L_number, 1, (sp_number)), (f_L_drop, 2, (sp_drop)), (f_L_spring, 1, (sp_spring))] [] []) (T := ⟨n_law, u_law, uc_law, uk_law, ux_law, uf_law, false⟩) rfl d_law X G o_law s_law (modG_mk (List.forall_mem_cons.mpr ⟨⟨_, _, Kp.mono q_L_alike_4 (by decide), rfl, kws_none rfl⟩, List.forall_mem_cons.mpr ⟨⟨_, _, Kp.mono q_L_told (by decide), rfl, kws_none rfl⟩, List.forall_mem_cons.mpr ⟨⟨_, _, Kp.mono q_L_read (by decide), rfl, kws_none rfl⟩, List.forall_mem_cons.mpr ⟨⟨_, _, Kp.mono q_L_spoilt (by decide), rfl, kws_none rfl⟩, List.forall_mem_cons.mpr ⟨⟨_, _, Kp.mono q_L_number (by decide), rfl, kws_none rfl⟩, List.forall_mem_cons.mpr ⟨⟨_, _, Kp.mono q_L_drop (by decide), rfl, kws_none rfl⟩, List.forall_mem_cons.mpr ⟨⟨_, _, Kp.mono q_L_spring (by decide), rfl, kws_none rfl⟩, fun _ h => nomatch h⟩⟩⟩⟩⟩⟩⟩) (fun _ h => nomatch h) hb (fun _ h => nomatch h) sub_none (fld_of _ (by first | rfl | decide +kernel))) k_law rfl (w_law ⟨rfl, rfl⟩ ⟨rfl, rfl⟩ ⟨rfl, rfl⟩ ⟨rfl, rfl⟩ ⟨rfl, rfl⟩ ⟨rfl, rfl⟩ ⟨rfl, rfl⟩)
  exact q_law
end
theorem blt_all {mg : Str → Option Value} (b0 : mg "len" = none) (b1 : mg "abs" = none) (b2 : mg "int" = none) (b3 : mg "bool" = none) (b4 : mg "str" = none) (b5 : mg "list" = none) (b6 : mg "tuple" = none) (b7 : mg "all" = none) (b8 : mg "any" = none) (b9 : mg "max" = none) (b10 : mg "min" = none) (b11 : mg "sum" = none) (b12 : mg "repr" = none) (b13 : mg "sorted" = none) (b14 : mg "set" = none) (b15 : mg "dict" = none) (b16 : mg "isinstance" = none) (b17 : mg "range" = none) (b18 : mg "enumerate" = none) (b19 : mg "zip" = none) (b20 : mg "reversed" = none) : ∀ x : Str, x ∈ bltNames → mg x = none := by
  intro x hx
  simp only [bltNames, List.mem_cons, List.not_mem_nil, or_false] at hx
  rcases hx with rfl | rfl | rfl | rfl | rfl | rfl | rfl | rfl | rfl | rfl | rfl | rfl | rfl | rfl | rfl | rfl | rfl | rfl | rfl | rfl | rfl
  · exact b0
  · exact b1
  · exact b2
  · exact b3
  · exact b4
  · exact b5
  · exact b6
  · exact b7
  · exact b8
  · exact b9
  · exact b10
  · exact b11
  · exact b12
  · exact b13
  · exact b14
  · exact b15
  · exact b16
  · exact b17
  · exact b18
  · exact b19
  · exact b20
end XC.Kk05
open PySem PySem.W PyProof.Rows
set_option maxRecDepth 100000 in
set_option maxHeartbeats 0 in
theorem PySem.Challenge.cw_exactclash_k05_breaks_of_fraction_texts_holds : PySem.Challenge.rw_exactclash_k05_breaks_of_fraction_texts.Holds := by
  w_on; o_law; k_head; (case hw => w_witness2)
  k_fill
  refine XC.law_walk (l := PySem.Challenge.rw_exactclash_k05_breaks_of_fraction_texts) (sp := XC.Kk05.sp_law) (k := 6) (cl := fun _ _ => 0) (xl := XC.Kk05.xl) (st := XC.Kk05.top XC.Kk05.f_law) rfl rfl ⟨rfl, by decide, by decide⟩ XC.Kk05.law_end XC.Kk05.o_law (fun w h Y => PySem.W.kIn_of Y) ?F
  case F =>
    intro w mg h X G base
    refine' XC.Kk05.whole X G ?d0 ?d1 ?d2 ?d3 ?d4 ?d5 ?d6 ?d7 ?d8 ?d9 ?d10 ?d11 ?d12 ?f0 ?s0 ?c0 ?b
    (case d0 =>
      refine' XC.dk_of ?a ?l ?c ?k
      (case a => k_is); (case l => k_is); (case c => k_is); (case k => k_is))
    (case d1 =>
      refine' XC.dk_of ?a ?l ?c ?k
      (case a => k_is); (case l => k_is); (case c => k_is); (case k => k_is))
    (case d2 =>
      refine' XC.dk_of ?a ?l ?c ?k
      (case a => k_is); (case l => k_is); (case c => k_is); (case k => k_is))
    (case d3 =>
      refine' XC.dk_of ?a ?l ?c ?k
      (case a => k_is); (case l => k_is); (case c => k_is); (case k => k_is))
    (case d4 =>
      refine' XC.dk_of ?a ?l ?c ?k
      (case a => k_is); (case l => k_is); (case c => k_is); (case k => k_is))
    (case d5 =>
      refine' XC.dk_of ?a ?l ?c ?k
      (case a => k_is); (case l => k_is); (case c => k_is); (case k => k_is))
    (case d6 =>
      refine' XC.dk_of ?a ?l ?c ?k
      (case a => k_is); (case l => k_is); (case c => k_is); (case k => k_is))
    (case d7 =>
      refine' XC.dk_of ?a ?l ?c ?k
      (case a => k_is); (case l => k_is); (case c => k_is); (case k => k_is))
    (case d8 =>
      refine' XC.dk_of ?a ?l ?c ?k
      (case a => k_is); (case l => k_is); (case c => k_is); (case k => k_is))
    (case d9 =>
      refine' XC.dk_of ?a ?l ?c ?k
      (case a => k_is); (case l => k_is); (case c => k_is); (case k => k_is))
    (case d10 =>
      refine' XC.dk_of ?a ?l ?c ?k
      (case a => k_is); (case l => k_is); (case c => k_is); (case k => k_is))
    (case d11 =>
      refine' XC.dk_of ?a ?l ?c ?k
      (case a => k_is); (case l => k_is); (case c => k_is); (case k => k_is))
    (case d12 =>
      refine' XC.dk_of ?a ?l ?c ?k
      (case a => k_is); (case l => k_is); (case c => k_is); (case k => k_is))
    (case f0 =>
      refine' XC.fk_of ⟨?ya0, ?yk0, ?yb0, ?yt0, ?yi0⟩ ?su0 ?cls0 ?hbm0 ?sa0 ?ga0 ?gg0 ?noN0 ?iC0 ?tC0 ?hdC0 ?fn0 ?cd0 ?sv0 ?subV0 ?mro0 ?opq0 ?cell0 ?code0 ?hvs0 ?hfile0 ?top0 ?hbd0 ?hsc0 rfl rfl rfl (by decide) (by decide)
      (case ya0 => k_is); (case yk0 => k_is); (case yb0 => k_is); (case yt0 => k_is); (case yi0 => k_is); (case su0 => k_is); (case cls0 => k_is); (case hbm0 => decide +kernel); (case sa0 => k_is); (case ga0 => k_is); (case gg0 => k_is); (case noN0 => k_is); (case iC0 => k_is); (case tC0 => k_is); (case hdC0 => k_is); (case fn0 => k_is); (case cd0 => k_is); (case sv0 => ks_is); (case subV0 => first | rfl | k_is); (case mro0 => first | rfl | k_is); (case opq0 => k_is); (case cell0 => k_is); (case code0 => k_is); (case hvs0 => rfl); (case hfile0 => first | rfl | decide +kernel); (case top0 => first | rfl | decide +kernel); (case hbd0 => exact fun s x v => BindsTo.of_eq (by first | rfl | with_unfolding_all rfl)); (case hsc0 => exact ⟨_, fun env => by rfl⟩))
    (case s0 => first | rfl | k_is)
    (case c0 =>
      refine' XC.cks_of ?ca0
      (case ca0 => k_is))
    (case b =>
      refine' XC.Kk05.blt_all (PySem.W.mg_none_of X G ?b0) (PySem.W.mg_none_of X G ?b1) (PySem.W.mg_none_of X G ?b2) (PySem.W.mg_none_of X G ?b3) (PySem.W.mg_none_of X G ?b4) (PySem.W.mg_none_of X G ?b5) (PySem.W.mg_none_of X G ?b6) (PySem.W.mg_none_of X G ?b7) (PySem.W.mg_none_of X G ?b8) (PySem.W.mg_none_of X G ?b9) (PySem.W.mg_none_of X G ?b10) (PySem.W.mg_none_of X G ?b11) (PySem.W.mg_none_of X G ?b12) (PySem.W.mg_none_of X G ?b13) (PySem.W.mg_none_of X G ?b14) (PySem.W.mg_none_of X G ?b15) (PySem.W.mg_none_of X G ?b16) (PySem.W.mg_none_of X G ?b17) (PySem.W.mg_none_of X G ?b18) (PySem.W.mg_none_of X G ?b19) (PySem.W.mg_none_of X G ?b20)
      (case b0 => k_is)
      (case b1 => k_is)
      (case b2 => k_is)
      (case b3 => k_is)
      (case b4 => k_is)
      (case b5 => k_is)
      (case b6 => k_is)
      (case b7 => k_is)
      (case b8 => k_is)
      (case b9 => k_is)
      (case b10 => k_is)
      (case b11 => k_is)
      (case b12 => k_is)
      (case b13 => k_is)
      (case b14 => k_is)
      (case b15 => k_is)
      (case b16 => k_is)
      (case b17 => k_is)
      (case b18 => k_is)
      (case b19 => k_is)
      (case b20 => k_is))
end
