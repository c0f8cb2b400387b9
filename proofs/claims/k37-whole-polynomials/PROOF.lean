import PyProof.Rows.All
import Wide.All
import OpenK.AllK
import Wide.FinOn
import HandS.ForMost
import HandS.IsInst
import HandS.Flow
import PySem.Challenge.RW_sumwires_k37_whole_polynomials
set_option Elab.async false
set_option linter.all false
set_option maxRecDepth 100000
set_option maxHeartbeats 4000000
namespace Sw
open PySem PySem.Spec PyProof.Rows L2

/-! ### data: what a value of the program is, without addresses -/
inductive D where
  | non | bl (b : Bool) | int (i : Int) | str (x : Str)
  | lst (xs : List D) | tup (xs : List D) | box (i : Nat) | scr (ns : List Int) | fre (xs : List D)
inductive Cell where
  | live (xs : List D) | frz (xs : List D) | dead
abbrev Store := List Cell
abbrev Env := List (Option D)

/-! ### the text as the evaluator has it -/
inductive Bop where | add | sub | mul | fdiv | mod | pow
  deriving DecidableEq
inductive Cop where | eq | ne | lt | le | gt | ge | isN | isNN | inn | nin
  deriving DecidableEq
inductive Bi where | len | abs | int | max2 | min2 | maxL | minL | list | tuple | sum | any | all | isInt | isBool | isList | isTup | isStr
  deriving DecidableEq
mutual
inductive Tg where
  | name (i : Nat) | tup (ts : Tgs)
inductive Tgs where
  | nil | cons (t : Tg) (ts : Tgs)
end
mutual
inductive E where
  | nop | var (i : Nat) | cI (i : Int) | cS (s : Str) | cB (b : Bool) | cN
  | bin (o : Bool) (op : Bop) (a b : E) | neg (a : E)
  | cmp (op : Cop) (a b : E) | chain (o1 o2 : Cop) (a b c : E)
  | band (es : Es) | bor (es : Es) | bnot (a : E) | ifE (c a b : E)
  | idx (a i : E) | slice (o : Bool) (a lo hi : E)
  | lst (o : Bool) (es : Es) | tup (es : Es)
  | call (f : Nat) (o : Bool) (es : Es) | bi (b : Bi) (o : Bool) (es : Es) | isi (b : Bi) (a : E)
  | comp (o : Bool) (elt : E) (tg : Tg) (it : It) (cond : E) (own : List Nat)
  | app (a e : E) | frz (e : E) | glob (x : Str) (d : D) | stk
inductive Es where
  | nil | cons (e : E) (es : Es)
inductive It where
  | list (e : E) | rng (es : Es) | enum (e : E) | zip (a b : E) | rev (e : E)
end
mutual
inductive St where
  | set (i : Nat) (e : E) | setT (tg : Tg) (e : E) | par (i j : Nat) (a b : E) | aug (i : Nat) (op : Bop) (e : E)
  | setIx (a i e : E) | augIx (a i : E) (op : Bop) (e : E) | expr (e : E)
  | ifS (c : E) (a b : Sts) | whileS (c : E) (b : Sts) | forS (tg : Tg) (it : It) (b : Sts)
  | ret (e : E) | retN | brk | cont | pass | stk
inductive Sts where
  | nil | cons (s : St) (ss : Sts)
end

/-! ### the store -/
def getBox (S : Store) (i : Nat) : Option (List D) := match S[i]? with
  | some (.live ds) => some ds
  | some (.frz ds) => some ds
  | _ => none
/-- a list -/
def seqL (S : Store) : D → Option (List D)
  | .lst ds => some ds
  | .box i => getBox S i
  | _ => none
/-- a list, a tuple, the script: to be read -/
def seqR (S : Store) : D → Option (List D)
  | .lst ds => some ds
  | .box i => getBox S i
  | .scr ns => some (ns.map .int)
  | .tup ds => some ds
  | _ => none
/-- what a loop may walk: nothing that may still change -/
def seqW (S : Store) : D → Option (List D)
  | .lst ds => some ds
  | .box i => match S[i]? with
    | some (.frz ds) => some ds
    | _ => none
  | .scr ns => some (ns.map .int)
  | _ => none
def mk (o : Bool) (ds : List D) (S : Store) : D × Store := match o with
  | true => (.box S.length, S ++ [.live ds])
  | false => (.lst ds, S)

def frzA (f : D → Store → Option (D × Store)) : List D → Store → Option (List D × Store)
  | [], S => some ([], S)
  | d :: ds, S => match f d S with
    | some (d', S1) => match frzA f ds S1 with
      | some (ds', S2) => some (d' :: ds', S2)
      | none => none
    | none => none
def frzD : Nat → D → Store → Option (D × Store)
  | 0, _, _ => none
  | n + 1, .box i, S => match S[i]? with
    | some (.live ds) => match frzA (frzD n) ds S with
      | some (ds', S1) => match S1[i]? with
        | some (.live _) => some (.lst ds', S1.set i (.frz ds'))
        | _ => none
      | none => none
    | some (.frz ds) => some (.lst ds, S)
    | _ => none
  | n + 1, .tup ds, S => match frzA (frzD n) ds S with
    | some (ds', S1) => some (.tup ds', S1)
    | none => none
  | _ + 1, d, S => some (d, S)
/-- a def's new lists, packed -/
def packD : Nat → Nat → D → Store → Option (D × Store)
  | 0, _, _, _ => none
  | k + 1, n, .box i, S => if i < n then some (.box i, S) else match S[i]? with
    | some (.live ds) => match frzA (packD k n) ds (S.set i .dead) with
      | some (ds', S1) => some (.fre ds', S1)
      | none => none
    | some (.frz ds) => some (.lst ds, S)
    | _ => none
  | k + 1, n, .tup ds, S => match frzA (packD k n) ds S with
    | some (ds', S1) => some (.tup ds', S1)
    | none => none
  | _ + 1, _, d, S => some (d, S)
mutual
/-- a def's new lists, told never to change -/
def unfre : D → D
  | .fre ds => .lst (unfres ds)
  | .tup ds => .tup (unfres ds)
  | d => d
def unfres : List D → List D
  | [] => []
  | d :: ds => unfre d :: unfres ds
end
mutual
/-- .. taken into the store -/
def thaw : D → Store → D × Store
  | .fre ds, S => (.box (thaws ds S).2.length, (thaws ds S).2 ++ [.live (thaws ds S).1])
  | .tup ds, S => (.tup (thaws ds S).1, (thaws ds S).2)
  | d, S => (d, S)
def thaws : List D → Store → List D × Store
  | [], S => ([], S)
  | d :: ds, S => ((thaw d S).1 :: (thaws ds (thaw d S).2).1, (thaws ds (thaw d S).2).2)
end
mutual
/-- no list of the store from number n on is named -/
def bnd (n : Nat) : D → Bool
  | .box i => decide (i < n)
  | .lst ds => bnds n ds
  | .tup ds => bnds n ds
  | .fre ds => bnds n ds
  | _ => true
def bnds (n : Nat) : List D → Bool
  | [] => true
  | d :: ds => bnd n d && bnds n ds
end

/-! ### values -/
def datA (f : D → Option PyData) : List D → Option (List PyData)
  | [] => some []
  | d :: ds => match f d with
    | some x => match datA f ds with
      | some xs => some (x :: xs)
      | none => none
    | none => none
def dat : Nat → Store → D → Option PyData
  | 0, _, _ => none
  | _ + 1, _, .non => some .none
  | _ + 1, _, .bl b => some (.bool b)
  | _ + 1, _, .int i => some (.int i)
  | _ + 1, _, .str x => some (.str x)
  | n + 1, S, .lst ds => (datA (dat n S) ds).map .list
  | n + 1, S, .tup ds => (datA (dat n S) ds).map .tuple
  | n + 1, S, .box i => match getBox S i with
    | some ds => (datA (dat n S) ds).map .list
    | none => none
  | _ + 1, _, _ => none
def flat : D → Option V
  | .non => some .non
  | .bl b => some (.bl b)
  | .int i => some (.int i)
  | .str x => some (.str x)
  | _ => none
def flats : List D → Option (List V)
  | [] => some []
  | d :: ds => match flat d with
    | some x => match flats ds with
      | some xs => some (x :: xs)
      | none => none
    | none => none
def dInts : List D → Option (List Int)
  | [] => some []
  | .int i :: ds => match dInts ds with
    | some xs => some (i :: xs)
    | none => none
  | _ => none
def dBools : List D → Option (List Bool)
  | [] => some []
  | .bl i :: ds => match dBools ds with
    | some xs => some (i :: xs)
    | none => none
  | _ => none
def numBin : Bop → Int → Int → Option Int
  | .add, i, j => some (i + j)
  | .sub, i, j => some (i - j)
  | .mul, i, j => if (-(2 ^ 64) < i ∧ i < 2 ^ 64) ∨ (-(2 ^ 64) < j ∧ j < 2 ^ 64) then some (i * j) else none
  | .fdiv, i, j => if j ≠ 0 ∧ j.natAbs < 1073741824 then some (i.fdiv j) else none
  | .mod, i, j => if j ≠ 0 then some (i.fmod j) else none
  | .pow, i, j => if 0 ≤ j ∧ j ≤ 1000000 ∧ i.natAbs < 2 ^ 64 then some (i ^ j.toNat) else none
def binD (o : Bool) (op : Bop) (a b : D) (S : Store) : Option (D × Store) :=
  match a, b with
  | .int i, .int j => match numBin op i j with
    | some k => some (.int k, S)
    | none => none
  | .str x, .str y => if op = .add ∧ x.length + y.length ≤ sizeLine then some (.str (x ++ y), S) else none
  | .tup xs, .tup ys => if op = .add ∧ xs ≠ [] ∧ ys ≠ [] ∧ xs.length + ys.length ≤ sizeLine then some (.tup (xs ++ ys), S) else none
  | a, .int k => match seqL S a with
    | some xs => if op = .mul ∧ -(2 ^ 63) ≤ k ∧ k < 2 ^ 63 ∧ xs.length * k.toNat ≤ sizeLine then some (mk o (List.replicate k.toNat xs).flatten S) else none
    | none => none
  | a, b => match seqL S a, seqL S b with
    | some xs, some ys => if op = .add ∧ xs.length + ys.length ≤ sizeLine then some (mk o (xs ++ ys) S) else none
    | _, _ => none
def isNonD : D → Bool
  | .non => true
  | _ => false
def eqD (S : Store) (a b : D) : Option Bool := match dat 16 S a, dat 16 S b with
  | some x, some y => if SeqAt.shaped x = true ∧ SeqAt.shaped y = true then some (PyData.eqv x y) else none
  | _, _ => none
def inD (S : Store) (a b : D) : Option Bool := match flat a, seqR S b with
  | some x, some ds => match flats ds with
    | some xs => some (inV x xs)
    | none => none
  | _, _ => none
def cmpD (S : Store) : Cop → D → D → Option Bool
  | .eq, a, b => eqD S a b
  | .ne, a, b => (eqD S a b).map (!·)
  | .lt, .int i, .int j => some (decide (i < j))
  | .le, .int i, .int j => some (decide (i ≤ j))
  | .gt, .int i, .int j => some (decide (j < i))
  | .ge, .int i, .int j => some (decide (j ≤ i))
  | .isN, a, .non => some (isNonD a)
  | .isNN, a, .non => some (!isNonD a)
  | .inn, a, b => inD S a b
  | .nin, a, b => (inD S a b).map (!·)
  | _, _, _ => none
def truD (S : Store) : D → Option Bool
  | .non => some false
  | .bl b => some b
  | .int i => some (i != 0)
  | .str x => if x.length ≤ sizeLine then some ((x.length : Int) != 0) else none
  | d => match seqR S d with
    | some ds => some (!ds.isEmpty)
    | none => none
def truO : Option (D × Store) → Option (Bool × Store)
  | some (d, S1) => (truD S1 d).map fun k => (k, S1)
  | none => none
def idxD (S : Store) (a i : D) : Option D := match i with
  | .int k => match a with
    | .str z => match atI z.cps.toList k with
      | some c => if z.length ≤ sizeLine then some (.str ⟨#[c]⟩) else none
      | none => none
    | a => match seqR S a with
      | some ds => atI ds k
      | none => none
  | _ => none
def partD : D → Option (Option Int)
  | .int i => some (some i)
  | _ => none
def cutD {α : Type} (xs : List α) (lo hi : Option Int) : List α := (xs.drop (HT.sIx xs.length 0 lo)).take (HT.sIx xs.length xs.length hi - HT.sIx xs.length 0 lo)
def sliceD (o : Bool) (a : D) (lo hi : Option Int) (S : Store) : Option (D × Store) := match a with
  | .tup ds => if ¬ (HT.sIx ds.length 0 lo = 0 ∧ HT.sIx ds.length ds.length hi = ds.length) then some (.tup (cutD ds lo hi), S) else none
  | .scr ns => some (mk o (cutD (ns.map D.int) lo hi) S)
  | a => match seqL S a with
    | some ds => some (mk o (cutD ds lo hi) S)
    | none => none
def maxI : List Int → Int
  | [] => 0
  | [x] => x
  | x :: y :: r => max x (maxI (y :: r))
def minI : List Int → Int
  | [] => 0
  | [x] => x
  | x :: y :: r => min x (minI (y :: r))
def isTy : Bi → D → Option Bool
  | .isInt, .int _ => some true
  | .isInt, .bl _ => some true
  | .isBool, .bl _ => some true
  | .isStr, .str _ => some true
  | .isList, .lst _ => some true
  | .isList, .box _ => some true
  | .isTup, .tup _ => some true
  | _, .scr _ => none
  | _, .fre _ => none
  | _, _ => some false
def lenD (S : Store) : List D → Option (D × Store)
  | [.str z] => if z.length ≤ sizeLine then some (.int z.length, S) else none
  | [d] => match seqR S d with
    | some ds => some (.int ds.length, S)
    | none => none
  | _ => none
def absD (S : Store) : List D → Option (D × Store)
  | [.int i] => some (.int (if i < 0 then -i else i), S)
  | _ => none
def intD (S : Store) : List D → Option (D × Store)
  | [.int i] => some (.int i, S)
  | [.bl k] => some (.int (if k then 1 else 0), S)
  | _ => none
def max2D (S : Store) : List D → Option (D × Store)
  | [.int i, .int j] => some (.int (if j > i then j else i), S)
  | _ => none
def min2D (S : Store) : List D → Option (D × Store)
  | [.int i, .int j] => some (.int (if j < i then j else i), S)
  | _ => none
def onInts (S : Store) (g : List Int → Option (D × Store)) : List D → Option (D × Store)
  | [d] => match seqL S d with
    | some ds => match dInts ds with
      | some ns => g ns
      | none => none
    | none => none
  | _ => none
def onBools (S : Store) (g : List Bool → Option (D × Store)) : List D → Option (D × Store)
  | [d] => match seqL S d with
    | some ds => match dBools ds with
      | some ns => g ns
      | none => none
    | none => none
  | _ => none
def listD (o : Bool) (S : Store) : List D → Option (D × Store)
  | [d] => match seqR S d with
    | some ds => some (mk o ds S)
    | none => none
  | _ => none
def tupleD (S : Store) : List D → Option (D × Store)
  | [d] => match seqL S d with
    | some ds => some (.tup ds, S)
    | none => none
  | _ => none
def isD (S : Store) (b : Bi) : List D → Option (D × Store)
  | [d] => (isTy b d).map fun k => (.bl k, S)
  | _ => none
def biD (o : Bool) (S : Store) (b : Bi) (ds : List D) : Option (D × Store) := match b with
  | .len => lenD S ds
  | .abs => absD S ds
  | .int => intD S ds
  | .max2 => max2D S ds
  | .min2 => min2D S ds
  | .maxL => onInts S (fun ns => if 0 < ns.length then some (.int (maxI ns), S) else none) ds
  | .minL => onInts S (fun ns => if 0 < ns.length then some (.int (minI ns), S) else none) ds
  | .list => listD o S ds
  | .tuple => tupleD S ds
  | .sum => onInts S (fun ns => some (.int ns.sum, S)) ds
  | .any => onBools S (fun bs => some (.bl (bs.any id), S)) ds
  | .all => onBools S (fun bs => some (.bl (bs.all id), S)) ds
  | .isInt => isD S .isInt ds
  | .isBool => isD S .isBool ds
  | .isList => isD S .isList ds
  | .isTup => isD S .isTup ds
  | .isStr => isD S .isStr ds

mutual
/-- the same datum, looked at -/
def eqB : D → D → Bool
  | .non, b => match b with
    | .non => true
    | _ => false
  | .bl x, b => match b with
    | .bl y => x == y
    | _ => false
  | .int x, b => match b with
    | .int y => decide (x = y)
    | _ => false
  | .str x, b => match b with
    | .str y => decide (x = y)
    | _ => false
  | .lst x, b => match b with
    | .lst y => eqBs x y
    | _ => false
  | .tup x, b => match b with
    | .tup y => eqBs x y
    | _ => false
  | .box x, b => match b with
    | .box y => decide (x = y)
    | _ => false
  | .scr x, b => match b with
    | .scr y => decide (x = y)
    | _ => false
  | .fre x, b => match b with
    | .fre y => eqBs x y
    | _ => false
def eqBs : List D → List D → Bool
  | [], b => match b with
    | [] => true
    | _ :: _ => false
  | x :: xs, b => match b with
    | [] => false
    | y :: ys => eqB x y && eqBs xs ys
end
/-- what a loop walks: the items, and the list that has to stay as it is meanwhile -/
structure Wk where
  ds : List D
  w : Option Nat
def okW (S : Store) (k : Wk) : Bool := match k.w with
  | none => true
  | some i => match S[i]? with
    | some (.live ds) => eqBs ds k.ds
    | _ => false
def seqK (S : Store) (d : D) : Option Wk := match d with
  | .tup ds => some ⟨ds, none⟩
  | .box i => match S[i]? with
    | some (.frz ds) => some ⟨ds, none⟩
    | some (.live ds) => some ⟨ds, some i⟩
    | _ => none
  | .lst ds => some ⟨ds, none⟩
  | .scr ns => some ⟨ns.map .int, none⟩
  | _ => none

/-! ### targets -/
mutual
def asg : Tg → D → Env → Option Env
  | .name i, d, ρ => some (ρ.set i (some d))
  | .tup ts, .tup ds, ρ => asgs ts ds ρ
  | .tup _, _, _ => none
def asgs : Tgs → List D → Env → Option Env
  | .nil, [], ρ => some ρ
  | .cons t ts, d :: ds, ρ => match asg t d ρ with
    | some ρ1 => asgs ts ds ρ1
    | none => none
  | _, _, _ => none
end
def wipeE (ρ : Env) : List Nat → Env
  | [] => ρ
  | v :: vs => (wipeE ρ vs).set v none

/-! ### what a loop walks -/
def rngI (lo : Int) (n : Nat) : List D := (List.range n).map fun i => .int (lo + (i : Nat))
def rngC (lo c : Int) (n : Nat) : List D := (List.range n).map fun i => .int (lo + (i : Nat) * c)
def inRg (i : Int) : Prop := -(2 ^ 62) ≤ i ∧ i < 2 ^ 62
instance (i : Int) : Decidable (inRg i) := inferInstanceAs (Decidable (_ ∧ _))
def rngD : List D → Option (List D)
  | [.int j] => if inRg j then some (rngI 0 j.toNat) else none
  | [.int i, .int j] => if inRg i ∧ inRg j then some (rngI i (j - i).toNat) else none
  | [.int i, .int j, .int c] => if inRg i ∧ inRg j ∧ c = -1 then some (rngC i (-1) (i - j).toNat) else none
  | _ => none
def enumD (ds : List D) : List D := (List.range ds.length).map fun i => .tup [.int (i : Nat), ds.getD i .non]
def zipD : List D → List D → List D
  | x :: xs, y :: ys => .tup [x, y] :: zipD xs ys
  | _, _ => []

/-! ### the evaluator -/
/-- the turns of a comprehension: the step gives the item's element, none where the test is false -/
def compL (k : Wk) (step : D → Store → Option (Option D × Store)) : List D → Store → Option (List D × Store)
  | [], S => some ([], S)
  | d :: ds, S => match step d S with
    | some (r, S1) => if okW S1 k = true then match compL k step ds S1 with
      | some (rs, S2) => some (r.toList ++ rs, S2)
      | none => none
      else none
    | none => none
abbrev Fns := Nat → List D → Store → Option (D × Store)
mutual
def evalE (c : Fns) : E → Env → Store → Option (D × Store)
  | .nop, _, _ => none
  | .var i, ρ, S => match ρ[i]? with
    | some (some d) => some (d, S)
    | _ => none
  | .cI i, _, S => some (.int i, S)
  | .cS s, _, S => some (.str s, S)
  | .cB b, _, S => some (.bl b, S)
  | .cN, _, S => some (.non, S)
  | .bin o op a b, ρ, S => match evalE c a ρ S with
    | some (x, S1) => match evalE c b ρ S1 with
      | some (y, S2) => binD o op x y S2
      | none => none
    | none => none
  | .neg a, ρ, S => match evalE c a ρ S with
    | some (.int i, S1) => some (.int (-i), S1)
    | _ => none
  | .cmp op a b, ρ, S => match evalE c a ρ S with
    | some (x, S1) => match evalE c b ρ S1 with
      | some (y, S2) => (cmpD S2 op x y).map fun k => (.bl k, S2)
      | none => none
    | none => none
  | .chain o1 o2 a b d, ρ, S => match evalE c a ρ S with
    | some (x, S1) => match evalE c b ρ S1 with
      | some (y, S2) => match cmpD S2 o1 x y with
        | some true => match evalE c d ρ S2 with
          | some (z, S3) => (cmpD S3 o2 y z).map fun k => (.bl k, S3)
          | none => none
        | some false => some (.bl false, S2)
        | none => none
      | none => none
    | none => none
  | .band es, ρ, S => evalAnd c es ρ S
  | .bor es, ρ, S => evalOr c es ρ S
  | .bnot a, ρ, S => match evalE c a ρ S with
    | some (d, S1) => (truD S1 d).map fun k => (.bl (!k), S1)
    | none => none
  | .ifE t a b, ρ, S => match evalT c t ρ S with
    | some (true, S1) => evalE c a ρ S1
    | some (false, S1) => evalE c b ρ S1
    | none => none
  | .idx a i, ρ, S => match evalE c a ρ S with
    | some (x, S1) => match evalE c i ρ S1 with
      | some (y, S2) => (idxD S2 x y).map fun d => (d, S2)
      | none => none
    | none => none
  | .slice o a lo hi, ρ, S => match evalE c a ρ S with
    | some (x, S1) => match evalO c lo ρ S1 with
      | some (l, S2) => match evalO c hi ρ S2 with
        | some (h, S3) => sliceD o x l h S3
        | none => none
      | none => none
    | none => none
  | .lst o es, ρ, S => match evalEs c es ρ S with
    | some (ds, S1) => if ds.length ≤ sizeLine then some (mk o ds S1) else none
    | none => none
  | .tup es, ρ, S => match evalEs c es ρ S with
    | some (ds, S1) => if ds.length ≤ sizeLine then some (.tup ds, S1) else none
    | none => none
  | .call f o es, ρ, S => match evalEs c es ρ S with
    | some (ds, S1) => match c f ds S1 with
      | some (r, S2) => match o with
        | true => some (thaw r S2)
        | false => some (unfre r, S2)
      | none => none
    | none => none
  | .bi b o es, ρ, S => match evalEs c es ρ S with
    | some (ds, S1) => biD o S1 b ds
    | none => none
  | .isi b a, ρ, S => match evalE c a ρ S with
    | some (d, S1) => (isTy b d).map fun k => (.bl k, S1)
    | none => none
  | .comp o elt tg it cond own, ρ, S => match evalI c it ρ S with
    | some (wk, S1) => match compL wk (fun d S' => match asg tg d (wipeE ρ own) with
        | some ρ1 => match evalC c cond ρ1 S' with
          | some (true, S2) => match evalE c elt ρ1 S2 with
            | some (y, S3) => some (some y, S3)
            | none => none
          | some (false, S2) => some (none, S2)
          | none => none
        | none => none) wk.ds S1 with
      | some (ys, S2) => if wk.ds.length < sizeLine then some (mk o ys S2) else none
      | none => none
    | none => none
  | .app a e, ρ, S => match evalE c a ρ S with
    | some (.box i, S1) => match evalE c e ρ S1 with
      | some (y, S2) => match S2[i]? with
        | some (.live ds) => if ds.length < sizeLine ∧ bnd 0 y = true then some (.non, S2.set i (.live (ds ++ [y]))) else none
        | _ => none
      | none => none
    | _ => none
  | .frz e, ρ, S => match evalE c e ρ S with
    | some (d, S1) => frzD 8 d S1
    | none => none
  | .glob _ d, _, S => some (d, S)
  | .stk, _, _ => none
/-- a test -/
def evalT (c : Fns) : E → Env → Store → Option (Bool × Store)
  | .ifE _ _ _, _, _ => none
  | .frz _, _, _ => none
  | .band es, ρ, S => evalAndT c es ρ S
  | .bor es, ρ, S => evalOrT c es ρ S
  | .bnot a, ρ, S => match evalT c a ρ S with
    | some (k, S1) => some (!k, S1)
    | none => none
  | e, ρ, S => truO (evalE c e ρ S)
/-- a comprehension's test -/
def evalC (c : Fns) : E → Env → Store → Option (Bool × Store)
  | .nop, _, S => some (true, S)
  | e, ρ, S => evalT c e ρ S
/-- a part of a slice -/
def evalO (c : Fns) : E → Env → Store → Option (Option Int × Store)
  | .nop, _, S => some (none, S)
  | e, ρ, S => match evalE c e ρ S with
    | some (.int i, S1) => some (some i, S1)
    | _ => none
def evalEs (c : Fns) : Es → Env → Store → Option (List D × Store)
  | .nil, _, S => some ([], S)
  | .cons e es, ρ, S => match evalE c e ρ S with
    | some (d, S1) => match evalEs c es ρ S1 with
      | some (ds, S2) => some (d :: ds, S2)
      | none => none
    | none => none
/-- and, or as values: truths -/
def evalAnd (c : Fns) : Es → Env → Store → Option (D × Store)
  | .nil, _, _ => none
  | .cons e .nil, ρ, S => evalE c e ρ S
  | .cons e es, ρ, S => match evalE c e ρ S with
    | some (d, S1) => match truD S1 d with
      | some true => evalAnd c es ρ S1
      | some false => some (d, S1)
      | none => none
    | none => none
def evalOr (c : Fns) : Es → Env → Store → Option (D × Store)
  | .nil, _, _ => none
  | .cons e .nil, ρ, S => evalE c e ρ S
  | .cons e es, ρ, S => match evalE c e ρ S with
    | some (d, S1) => match truD S1 d with
      | some false => evalOr c es ρ S1
      | some true => some (d, S1)
      | none => none
    | none => none
def evalAndT (c : Fns) : Es → Env → Store → Option (Bool × Store)
  | .nil, _, _ => none
  | .cons e .nil, ρ, S => evalT c e ρ S
  | .cons e es, ρ, S => match evalT c e ρ S with
    | some (true, S1) => evalAndT c es ρ S1
    | some (false, S1) => some (false, S1)
    | none => none
def evalOrT (c : Fns) : Es → Env → Store → Option (Bool × Store)
  | .nil, _, _ => none
  | .cons e .nil, ρ, S => evalT c e ρ S
  | .cons e es, ρ, S => match evalT c e ρ S with
    | some (false, S1) => evalOrT c es ρ S1
    | some (true, S1) => some (true, S1)
    | none => none
def evalI (c : Fns) : It → Env → Store → Option (Wk × Store)
  | .list e, ρ, S => match evalE c e ρ S with
    | some (d, S1) => (seqK S1 d).map fun k => (k, S1)
    | none => none
  | .rng es, ρ, S => match evalEs c es ρ S with
    | some (ds, S1) => (rngD ds).map fun xs => (⟨xs, none⟩, S1)
    | none => none
  | .enum e, ρ, S => match evalE c e ρ S with
    | some (d, S1) => (seqW S1 d).map fun ds => (⟨enumD ds, none⟩, S1)
    | none => none
  | .zip a b, ρ, S => match evalE c a ρ S with
    | some (x, S1) => match evalE c b ρ S1 with
      | some (y, S2) => match seqW S2 x, seqW S2 y with
        | some xs, some ys => some (⟨zipD xs ys, none⟩, S2)
        | _, _ => none
      | none => none
    | none => none
  | .rev e, ρ, S => match evalE c e ρ S with
    | some (d, S1) => (seqW S1 d).map fun ds => (⟨ds.reverse, none⟩, S1)
    | none => none
end

inductive Flow' where
  | nx | bk | ct | ret (d : D)
def whileL (t : Env → Store → Option (Bool × Store)) (b : Env → Store → Option (Flow' × Env × Store)) : Nat → Env → Store → Option (Flow' × Env × Store)
  | 0, _, _ => none
  | n + 1, ρ, S => match t ρ S with
    | some (false, S1) => some (.nx, ρ, S1)
    | some (true, S1) => match b ρ S1 with
      | some (.nx, ρ1, S2) => whileL t b n ρ1 S2
      | some (.ct, ρ1, S2) => whileL t b n ρ1 S2
      | some (.bk, ρ1, S2) => some (.nx, ρ1, S2)
      | some (.ret d, ρ1, S2) => some (.ret d, ρ1, S2)
      | none => none
    | none => none
def forL (k : Wk) (b : D → Env → Store → Option (Flow' × Env × Store)) : List D → Env → Store → Option (Flow' × Env × Store)
  | [], ρ, S => some (.nx, ρ, S)
  | d :: ds, ρ, S => match b d ρ S with
    | some (.nx, ρ1, S2) => if okW S2 k = true then forL k b ds ρ1 S2 else none
    | some (.ct, ρ1, S2) => if okW S2 k = true then forL k b ds ρ1 S2 else none
    | some (.bk, ρ1, S2) => some (.nx, ρ1, S2)
    | some (.ret d, ρ1, S2) => some (.ret d, ρ1, S2)
    | none => none
def augI : Bop → Int → Int → Option Int
  | .add, x, y => some (x + y)
  | .sub, x, y => some (x - y)
  | _, _, _ => none
def setIxD (S : Store) (a i y : D) : Option Store := match a, i with
  | .box b, .int k => match S[b]? with
    | some (.live ds) => match ixN ds.length k with
      | some j => if bnd 0 y = true then some (S.set b (.live (ds.set j y))) else none
      | none => none
    | _ => none
  | _, _ => none
mutual
def exec (c : Fns) (N : Nat) : Sw.St → Env → Store → Option (Flow' × Env × Store)
  | .set i e, ρ, S => match evalE c e ρ S with
    | some (d, S1) => some (.nx, ρ.set i (some d), S1)
    | none => none
  | .setT tg e, ρ, S => match evalE c e ρ S with
    | some (d, S1) => (asg tg d ρ).map fun ρ1 => (.nx, ρ1, S1)
    | none => none
  | .par i j a b, ρ, S => match evalE c a ρ S with
    | some (x, S1) => match evalE c b ρ S1 with
      | some (y, S2) => some (.nx, (ρ.set i (some x)).set j (some y), S2)
      | none => none
    | none => none
  | .aug i op e, ρ, S => match ρ[i]? with
    | some (some (.int x)) => match evalE c e ρ S with
      | some (.int y, S1) => match augI op x y with
        | some z => some (.nx, ρ.set i (some (.int z)), S1)
        | none => none
      | _ => none
    | _ => none
  | .setIx a i e, ρ, S => match evalE c e ρ S with
    | some (y, S1) => match evalE c a ρ S1 with
      | some (x, S2) => match evalE c i ρ S2 with
        | some (k, S3) => (setIxD S3 x k y).map fun S4 => (.nx, ρ, S4)
        | none => none
      | none => none
    | none => none
  | .augIx a i op e, ρ, S => match evalE c a ρ S with
    | some (x, S1) => match evalE c i ρ S1 with
      | some (k, S2) => match idxD S2 x k with
        | some (.int v) => match evalE c e ρ S2 with
          | some (.int y, S3) => match augI op v y with
            | some z => (setIxD S3 x k (.int z)).map fun S4 => (.nx, ρ, S4)
            | none => none
          | _ => none
        | _ => none
      | none => none
    | none => none
  | .expr e, ρ, S => match evalE c e ρ S with
    | some (_, S1) => some (.nx, ρ, S1)
    | none => none
  | .ifS t a b, ρ, S => match evalT c t ρ S with
    | some (true, S1) => execs c N a ρ S1
    | some (false, S1) => execs c N b ρ S1
    | none => none
  | .whileS t b, ρ, S => whileL (evalT c t) (execs c N b) N ρ S
  | .forS tg it b, ρ, S => match evalI c it ρ S with
    | some (wk, S1) => forL wk (fun d ρ S => match asg tg d ρ with
        | some ρ1 => execs c N b ρ1 S
        | none => none) wk.ds ρ S1
    | none => none
  | .ret e, ρ, S => match evalE c e ρ S with
    | some (d, S1) => some (.ret d, ρ, S1)
    | none => none
  | .retN, ρ, S => some (.ret .non, ρ, S)
  | .brk, ρ, S => some (.bk, ρ, S)
  | .cont, ρ, S => some (.ct, ρ, S)
  | .pass, ρ, S => some (.nx, ρ, S)
  | .stk, _, _ => none
def execs (c : Fns) (N : Nat) : Sts → Env → Store → Option (Flow' × Env × Store)
  | .nil, ρ, S => some (.nx, ρ, S)
  | .cons s ss, ρ, S => match exec c N s ρ S with
    | some (.nx, ρ1, S1) => execs c N ss ρ1 S1
    | some r => some r
    | none => none
end
structure FD where
  np : Nat
  ns : Nat
  body : Sts
/-- what a def hands back: its new lists packed, the store as long as it was -/
def exitD (n : Nat) (d : D) (S : Store) : Option (D × Store) := match packD 8 n d S with
  | some (r, S1) => if bnd n r = true then some (r, S1.take n) else none
  | none => none
def runF (c : Fns) (N : Nat) (fd : FD) (args : List D) (S : Store) : Option (D × Store) :=
  if args.length = fd.np then
    match execs c N fd.body (args.map some ++ List.replicate (fd.ns - fd.np) none) S with
    | some (.ret d, _, S1) => exitD S.length d S1
    | some (.nx, _, S1) => exitD S.length .non S1
    | _ => none
  else none
/-- k calls deep -/
def callK (fs : Nat → Option FD) (N : Nat) : Nat → Fns
  | 0 => fun _ _ _ => none
  | k + 1 => fun f args S => match fs f with
    | some fd => runF (callK fs N k) N fd args S
    | none => none
/-! ### the same datum -/
mutual
theorem eqB_ok : ∀ {a b : D}, eqB a b = true → a = b
  | .non, b, h => by cases b <;> simp [eqB] at h ⊢
  | .bl x, b, h => by cases b <;> simp [eqB] at h ⊢; exact h
  | .int x, b, h => by cases b <;> simp [eqB] at h ⊢; exact h
  | .str x, b, h => by cases b <;> simp [eqB] at h ⊢; exact h
  | .lst x, b, h => by cases b <;> simp only [eqB] at h <;> first | cases h | exact congrArg _ (eqBs_ok h)
  | .tup x, b, h => by cases b <;> simp only [eqB] at h <;> first | cases h | exact congrArg _ (eqBs_ok h)
  | .box x, b, h => by cases b <;> simp [eqB] at h ⊢; exact h
  | .scr x, b, h => by cases b <;> simp [eqB] at h ⊢; exact h
  | .fre x, b, h => by cases b <;> simp only [eqB] at h <;> first | cases h | exact congrArg _ (eqBs_ok h)
theorem eqBs_ok : ∀ {a b : List D}, eqBs a b = true → a = b
  | [], b, h => by
    cases b with
    | nil => rfl
    | cons _ _ => simp [eqBs] at h
  | x :: xs, b, h => by
    cases b with
    | nil => simp [eqBs] at h
    | cons y ys =>
      simp only [eqBs, Bool.and_eq_true] at h
      rw [eqB_ok h.1, eqBs_ok h.2]
end
mutual
theorem eqB_rfl : ∀ a : D, eqB a a = true
  | .non => by simp [eqB]
  | .bl x => by simp [eqB]
  | .int x => by simp [eqB]
  | .str x => by simp [eqB]
  | .lst x => by simp [eqB, eqBs_rfl x]
  | .tup x => by simp [eqB, eqBs_rfl x]
  | .box x => by simp [eqB]
  | .scr x => by simp [eqB]
  | .fre x => by simp [eqB, eqBs_rfl x]
theorem eqBs_rfl : ∀ a : List D, eqBs a a = true
  | [] => by simp [eqBs]
  | x :: xs => by simp [eqBs, eqB_rfl x, eqBs_rfl xs]
end
instance : DecidableEq D := fun a b => if h : eqB a b = true then isTrue (eqB_ok h) else isFalse fun e => h (by rw [e]; exact eqB_rfl b)
theorem eqB_dec (a b : D) : eqB a b = decide (a = b) := by
  cases h : eqB a b with
  | true => rw [decide_eq_true (eqB_ok h)]
  | false => rw [decide_eq_false fun e => by rw [e, eqB_rfl] at h; cases h]
end Sw

set_option Elab.async false
set_option linter.all false
set_option maxRecDepth 100000
set_option maxHeartbeats 4000000
namespace Sw
open PySem PySem.Spec PyProof.Rows L2

/-! ### the ghost: where the data stands -/
structure Gh where
  H : Hp
  S : Store
  β : Nat → Addr
  Rs : Addr → Prop
def Gh.Own (G : Gh) (a : Addr) : Prop := ∃ i ds, G.S[i]? = some (.live ds) ∧ G.β i = a
def KTup (K : PySem.W.Frag) (a : Addr) (xs : List V) : Prop :=
  ∃ (o : Obj) (its : Array Value) (n : Nat), K.lookup a = some o ∧ o.cls = .type "tuple" ∧ o.data = .seq its n ∧ its.size ≤ sizeLine ∧ Vals xs its.toList
def TupAt (K : PySem.W.Frag) (H : Hp) (a : Addr) (xs : List V) : Prop := H a = some (.tup xs) ∨ KTup K a xs
theorem TupAt.sq {K : PySem.W.Frag} {H : Hp} {a : Addr} {xs : List V} (h : TupAt K H a xs) : SqT K H a xs := by
  rcases h with h | h
  · exact .inl (.inl h)
  · exact .inr h
/-- the script: told of as frozen, or one of the module's own lists -/
def ScrAt (K : PySem.W.Frag) (H : Hp) (a : Addr) (xs : List V) : Prop := (∃ o, H a = some (.frz o (.lst xs))) ∨
  ∃ (o : Obj) (its : Array Value) (n : Nat), K.lookup a = some o ∧ o.cls = .type "list" ∧ o.dict = none ∧ o.data = .seq its n ∧ its.size ≤ sizeLine ∧ Vals xs its.toList
theorem ScrAt.sq {K : PySem.W.Frag} {H : Hp} {a : Addr} {xs : List V} (h : ScrAt K H a xs) : SqL K H a xs := by
  rcases h with ⟨o, h⟩ | h
  · exact .inl (.inr ⟨o, h⟩)
  · exact .inr h
mutual
inductive Rep (K : PySem.W.Frag) (G : Gh) : D → V → Prop
  | non : Rep K G .non .non
  | bl (b : Bool) : Rep K G (.bl b) (.bl b)
  | int (i : Int) : Rep K G (.int i) (.int i)
  | str (x : Str) : Rep K G (.str x) (.str x)
  | lst {a : Addr} {vs : List V} {ds : List D} : G.H a = some (.lst vs) → ¬ G.Own a → ¬ G.Rs a → Reps K G ds vs → Rep K G (.lst ds) (.ref a)
  | tup {a : Addr} {vs : List V} {ds : List D} : TupAt K G.H a vs → Reps K G ds vs → Rep K G (.tup ds) (.ref a)
  | box {i : Nat} : i < G.S.length → Rep K G (.box i) (.ref (G.β i))
  | scr {a : Addr} {ns : List Int} : ScrAt K G.H a (ns.map .int) → Rep K G (.scr ns) (.ref a)
inductive Reps (K : PySem.W.Frag) (G : Gh) : List D → List V → Prop
  | nil : Reps K G [] []
  | cons {d : D} {v : V} {ds : List D} {vs : List V} : Rep K G d v → Reps K G ds vs → Reps K G (d :: ds) (v :: vs)
end
structure Wf (K : PySem.W.Frag) (G : Gh) : Prop where
  live : ∀ i ds, G.S[i]? = some (.live ds) → ∃ vs, G.H (G.β i) = some (.lst vs) ∧ Reps K G ds vs
  frz : ∀ i ds, G.S[i]? = some (.frz ds) → ∃ vs, G.H (G.β i) = some (.lst vs) ∧ ¬ G.Own (G.β i) ∧ ¬ G.Rs (G.β i) ∧ Reps K G ds vs
  inj : ∀ i j ds es, G.S[i]? = some (.live ds) → G.S[j]? = some (.live es) → G.β i = G.β j → i = j
  nrs : ∀ i ds, G.S[i]? = some (.live ds) → ¬ G.Rs (G.β i)
  rs : ∀ a, G.Rs a → ∃ vs, G.H a = some (.lst vs)
  there : ∀ i, i < G.S.length → ∃ vs, G.H (G.β i) = some (.lst vs)
def cellB (n : Nat) : Cell → Prop
  | .live ds => bnds n ds = true
  | .frz ds => bnds n ds = true
  | .dead => True
def Bd (n : Nat) (S : Store) : Prop := ∀ i c, i < n → S[i]? = some c → cellB n c
structure Stp (G G' : Gh) : Prop where
  len : G.S.length ≤ G'.S.length
  beta : ∀ i, i < G.S.length → G'.β i = G.β i
  keep : ∀ a o, G.H a = some o → ¬ G.Own a → G'.H a = some o ∧ ¬ G'.Own a
  dom : ∀ a o, G.H a = some o → ∃ o', G'.H a = some o'
  new : ∀ i, G.S.length ≤ i → i < G'.S.length → G.H (G'.β i) = none
  rs : G'.Rs = G.Rs
  bd : ∀ n, n ≤ G.S.length → Bd n G.S → Bd n G'.S
section
variable {K : PySem.W.Frag} {G G' G1 G2 : Gh}
theorem Stp.refl (G : Gh) : Stp G G := ⟨Nat.le_refl _, fun _ _ => rfl, fun _ _ h n => ⟨h, n⟩, fun _ o h => ⟨o, h⟩, fun i h1 h2 => by omega, rfl, fun _ _ h => h⟩
theorem Stp.trans (a : Stp G G1) (b : Stp G1 G2) : Stp G G2 where
  len := Nat.le_trans a.len b.len
  beta := fun i h => (b.beta i (Nat.lt_of_lt_of_le h a.len)).trans (a.beta i h)
  keep := fun x o h n => let ⟨h1, n1⟩ := a.keep x o h n; b.keep x o h1 n1
  dom := fun x o h => let ⟨o1, h1⟩ := a.dom x o h; b.dom x o1 h1
  new := fun i h1 h2 => by
    by_cases hi : i < G1.S.length
    · rw [b.beta i hi]
      exact a.new i h1 hi
    · have := b.new i (by omega) h2
      cases q : G.H (G2.β i) with
      | none => rfl
      | some o =>
        obtain ⟨o', e⟩ := a.dom _ o q
        rw [this] at e
        cases e
  rs := b.rs.trans a.rs
  bd := fun n h q => b.bd n (Nat.le_trans h a.len) (a.bd n h q)
theorem Reps.length : ∀ {ds : List D} {vs : List V}, Reps K G ds vs → ds.length = vs.length
  | _, _, .nil => rfl
  | _, _, .cons _ t => by rw [List.length_cons, List.length_cons, Reps.length t]
theorem Reps.get : ∀ {ds : List D} {vs : List V} {i : Nat} {d : D}, Reps K G ds vs → ds[i]? = some d → ∃ v, vs[i]? = some v ∧ Rep K G d v
  | _, _, _, _, .nil, e => by simp at e
  | _, _, 0, _, .cons r _, e => by
    simp at e
    subst e
    exact ⟨_, rfl, r⟩
  | _, _, i + 1, d, .cons _ t, e => by
    obtain ⟨v, h1, h2⟩ := Reps.get (i := i) (d := d) t (by simpa using e)
    exact ⟨v, by simpa using h1, h2⟩
theorem Reps.append : ∀ {ds es : List D} {vs ws : List V}, Reps K G ds vs → Reps K G es ws → Reps K G (ds ++ es) (vs ++ ws)
  | _, _, _, _, .nil, s => s
  | _, _, _, _, .cons r t, s => .cons r (Reps.append t s)
theorem Reps.take : ∀ {ds : List D} {vs : List V} (n : Nat), Reps K G ds vs → Reps K G (ds.take n) (vs.take n)
  | _, _, 0, _ => .nil
  | _, _, _ + 1, .nil => .nil
  | _, _, n + 1, .cons r t => .cons r (Reps.take n t)
theorem Reps.drop : ∀ {ds : List D} {vs : List V} (n : Nat), Reps K G ds vs → Reps K G (ds.drop n) (vs.drop n)
  | _, _, 0, r => r
  | _, _, _ + 1, .nil => .nil
  | _, _, n + 1, .cons _ t => Reps.drop n t
theorem Reps.set {d : D} {v : V} (r : Rep K G d v) : ∀ {ds : List D} {vs : List V} (i : Nat), Reps K G ds vs → Reps K G (ds.set i d) (vs.set i v)
  | _, _, _, .nil => .nil
  | _, _, 0, .cons _ t => .cons r t
  | _, _, i + 1, .cons q t => .cons q (Reps.set r i t)
theorem Reps.rep {ds : List D} {vs : List V} (h : Reps K G ds vs) : ∀ k : Nat, Reps K G (List.replicate k ds).flatten (List.replicate k vs).flatten
  | 0 => .nil
  | k + 1 => by
    rw [List.replicate_succ, List.replicate_succ, List.flatten_cons, List.flatten_cons]
    exact h.append (Reps.rep h k)
theorem Reps.reverse : ∀ {ds : List D} {vs : List V}, Reps K G ds vs → Reps K G ds.reverse vs.reverse
  | _, _, .nil => .nil
  | _, _, .cons r t => by
    rw [List.reverse_cons, List.reverse_cons]
    exact (Reps.reverse t).append (.cons r .nil)
theorem Reps.intsOf (ns : List Int) : Reps K G (ns.map .int) (ns.map .int) := by
  induction ns with
  | nil => exact .nil
  | cons n r ih => exact .cons (.int n) ih
/-- what a datum leans on -/
structure Move (K : PySem.W.Frag) (G G' : Gh) : Prop where
  lst : ∀ a vs, G.H a = some (.lst vs) → ¬ G.Own a → ¬ G.Rs a → G'.H a = some (.lst vs) ∧ ¬ G'.Own a ∧ ¬ G'.Rs a
  tup : ∀ a vs, G.H a = some (.tup vs) → G'.H a = some (.tup vs)
  frz : ∀ a o u, G.H a = some (.frz o u) → G'.H a = some (.frz o u)
  len : G.S.length ≤ G'.S.length
  beta : ∀ i, i < G.S.length → G'.β i = G.β i
mutual
theorem Rep.move (m : Move K G G') : ∀ {d : D} {v : V}, Rep K G d v → Rep K G' d v
  | _, _, .non => .non
  | _, _, .bl b => .bl b
  | _, _, .int i => .int i
  | _, _, .str x => .str x
  | _, _, .lst h1 h2 h3 r => let ⟨e1, e2, e3⟩ := m.lst _ _ h1 h2 h3; .lst e1 e2 e3 (Reps.move m r)
  | _, _, .tup h r => .tup (h.elim (fun h => .inl (m.tup _ _ h)) .inr) (Reps.move m r)
  | _, _, .box (i := i) h => by
    rw [← m.beta i h]
    exact .box (Nat.lt_of_lt_of_le h m.len)
  | _, _, .scr h => .scr (h.elim (fun ⟨o, h⟩ => .inl ⟨o, m.frz _ _ _ h⟩) .inr)
theorem Reps.move (m : Move K G G') : ∀ {ds : List D} {vs : List V}, Reps K G ds vs → Reps K G' ds vs
  | _, _, .nil => .nil
  | _, _, .cons r t => .cons (Rep.move m r) (Reps.move m t)
end
theorem Wf.own_lst (w : Wf K G) {a : Addr} (o : G.Own a) : ∃ vs, G.H a = some (.lst vs) := by
  obtain ⟨i, ds, e, rfl⟩ := o
  obtain ⟨vs, h, _⟩ := w.live i ds e
  exact ⟨vs, h⟩
theorem Wf.not_own (w : Wf K G) {a : Addr} {o : HO} (h : G.H a = some o) (n : ∀ vs, o ≠ .lst vs) : ¬ G.Own a := fun z => by
  obtain ⟨vs, e⟩ := w.own_lst z
  rw [h] at e
  exact n vs (Option.some.inj e)
theorem Stp.move (s : Stp G G') (w : Wf K G) : Move K G G' where
  lst := fun a vs h n r => let ⟨e1, e2⟩ := s.keep a _ h n; ⟨e1, e2, by rw [s.rs]; exact r⟩
  tup := fun a vs h => (s.keep a _ h (w.not_own h fun _ q => nomatch q)).1
  frz := fun a o u h => (s.keep a _ h (w.not_own h fun _ q => nomatch q)).1
  len := s.len
  beta := s.beta
theorem Rep.step {d : D} {v : V} (r : Rep K G d v) (s : Stp G G') (w : Wf K G) : Rep K G' d v := r.move (s.move w)
theorem Reps.step {ds : List D} {vs : List V} (r : Reps K G ds vs) (s : Stp G G') (w : Wf K G) : Reps K G' ds vs := r.move (s.move w)
theorem Rep.scal {d : D} {v : V} (r : Rep K G d v) {x : V} (h : flat d = some x) : v = x := by
  cases r <;> first | (cases h; rfl) | cases h
theorem Rep.isNon {d : D} {v : V} (r : Rep K G d v) : decide (v = .non) = isNonD d := by
  cases r <;> rfl
theorem Reps.flats : ∀ {ds : List D} {vs xs : List V}, Reps K G ds vs → Sw.flats ds = some xs → vs = xs
  | _, _, _, .nil, h => by
    cases h
    rfl
  | d :: ds, _, _, .cons r t, h => by
    unfold Sw.flats at h
    cases e : flat d with
    | none => rw [e] at h; cases h
    | some x =>
      rw [e] at h
      cases e2 : Sw.flats ds with
      | none => rw [e2] at h; cases h
      | some ys =>
        rw [e2] at h
        cases h
        rw [r.scal e, Reps.flats t e2]
theorem flat_flatV {d : D} {x : V} (h : flat d = some x) : flatV x = true := by
  cases d <;> first | (cases h; rfl) | cases h
theorem flats_flatV : ∀ {ds : List D} {xs : List V}, Sw.flats ds = some xs → xs.all flatV = true
  | [], _, h => by
    cases h
    rfl
  | d :: ds, _, h => by
    unfold Sw.flats at h
    cases e : flat d with
    | none => rw [e] at h; cases h
    | some x =>
      rw [e] at h
      cases e2 : Sw.flats ds with
      | none => rw [e2] at h; cases h
      | some ys =>
        rw [e2] at h
        cases h
        rw [List.all_cons, flat_flatV e, flats_flatV e2]
        rfl
theorem Reps.dInts : ∀ {ds : List D} {vs : List V} {ns : List Int}, Reps K G ds vs → Sw.dInts ds = some ns → vs = ns.map V.int
  | _, _, _, .nil, h => by
    cases h
    rfl
  | d :: ds, _, _, .cons r t, h => by
    cases d with
    | int i =>
      unfold Sw.dInts at h
      cases e2 : Sw.dInts ds with
      | none => rw [e2] at h; cases h
      | some ys =>
        rw [e2] at h
        cases h
        rw [Reps.dInts t e2]
        cases r
        rfl
    | _ => unfold Sw.dInts at h; cases h
theorem Reps.dBools : ∀ {ds : List D} {vs : List V} {ns : List Bool}, Reps K G ds vs → Sw.dBools ds = some ns → vs = ns.map V.bl
  | _, _, _, .nil, h => by
    cases h
    rfl
  | d :: ds, _, _, .cons r t, h => by
    cases d with
    | bl i =>
      unfold Sw.dBools at h
      cases e2 : Sw.dBools ds with
      | none => rw [e2] at h; cases h
      | some ys =>
        rw [e2] at h
        cases h
        rw [Reps.dBools t e2]
        cases r
        rfl
    | _ => unfold Sw.dBools at h; cases h
theorem Wf.box (w : Wf K G) {i : Nat} {ds : List D} (h : getBox G.S i = some ds) : ∃ vs, G.H (G.β i) = some (.lst vs) ∧ Reps K G ds vs := by
  unfold getBox at h
  split at h
  · rename_i es e
    cases h
    exact w.live i _ e
  · rename_i es e
    cases h
    obtain ⟨vs, h1, _, _, h2⟩ := w.frz i _ e
    exact ⟨vs, h1, h2⟩
  · cases h
/-- a list's own reading -/
theorem Rep.seqL (w : Wf K G) {d : D} {v : V} {ds : List D} (r : Rep K G d v) (h : Sw.seqL G.S d = some ds) : ∃ a vs, v = .ref a ∧ G.H a = some (.lst vs) ∧ Reps K G ds vs := by
  cases r with
  | lst h1 h2 h3 t =>
    cases h
    exact ⟨_, _, rfl, h1, t⟩
  | box hi =>
    obtain ⟨vs, h1, h2⟩ := w.box (show getBox G.S _ = some ds from h)
    exact ⟨_, vs, rfl, h1, h2⟩
  | _ => cases h
theorem Rep.seqR (w : Wf K G) {d : D} {v : V} {ds : List D} (r : Rep K G d v) (h : Sw.seqR G.S d = some ds) : ∃ a vs, v = .ref a ∧ (SqL K G.H a vs ∨ SqT K G.H a vs) ∧ Reps K G ds vs := by
  cases r with
  | lst h1 h2 h3 t =>
    cases h
    exact ⟨_, _, rfl, .inl (SqL.of h1), t⟩
  | box hi =>
    obtain ⟨vs, h1, h2⟩ := w.box (show getBox G.S _ = some ds from h)
    exact ⟨_, vs, rfl, .inl (SqL.of h1), h2⟩
  | tup h1 t =>
    cases h
    exact ⟨_, _, rfl, .inr h1.sq, t⟩
  | scr h1 =>
    cases h
    exact ⟨_, _, rfl, .inl h1.sq, Reps.intsOf _⟩
  | _ => cases h
/-- what a loop walks stays: in every later heap the same list stands there -/
theorem Rep.seqW (w : Wf K G) {d : D} {v : V} {ds : List D} (r : Rep K G d v) (h : Sw.seqW G.S d = some ds) :
    ∃ a vs, v = .ref a ∧ Reps K G ds vs ∧ ∀ G', Stp G G' → SqL K G'.H a vs := by
  cases r with
  | lst h1 h2 h3 t =>
    cases h
    exact ⟨_, _, rfl, t, fun G' s => SqL.of (s.keep _ _ h1 h2).1⟩
  | @box i hi =>
    rcases e : G.S[i]? with _ | (es | es | _)
    · simp only [Sw.seqW, e] at h
      cases h
    · simp only [Sw.seqW, e] at h
      cases h
    · simp only [Sw.seqW, e] at h
      cases h
      obtain ⟨vs, h1, h2, h3, h4⟩ := w.frz _ _ e
      exact ⟨_, vs, rfl, h4, fun G' s => SqL.of (s.keep _ _ h1 h2).1⟩
    · simp only [Sw.seqW, e] at h
      cases h
  | scr h1 =>
    cases h
    exact ⟨_, _, rfl, Reps.intsOf _, fun G' s => ScrAt.sq (h1.elim (fun ⟨o, h1⟩ => .inl ⟨o, (s.keep _ _ h1 (w.not_own h1 fun _ q => nomatch q)).1⟩) .inr)⟩
  | _ => cases h

/-! ### what the program does to the heap -/
/-- a new tracked thing that is no list of the store -/
theorem free_not_own (w : Wf K G) {p : Addr} (hp : G.H p = none) : ¬ G.Own p := fun z => by
  obtain ⟨vs, e⟩ := w.own_lst z
  rw [hp] at e
  cases e
theorem free_not_rs (w : Wf K G) {p : Addr} (hp : G.H p = none) : ¬ G.Rs p := fun z => by
  obtain ⟨o, e⟩ := w.rs p z
  rw [hp] at e
  cases e
abbrev Gh.put (G : Gh) (p : Addr) (o : HO) : Gh := { G with H := upd G.H p o }
theorem stp_put {p : Addr} {o : HO} (hp : G.H p = none) : Stp G (G.put p o) where
  len := Nat.le_refl _
  beta := fun _ _ => rfl
  keep := fun a u h n => ⟨by show upd G.H p o a = some u; rw [upd_ne (ne_of_none h hp)]; exact h, n⟩
  dom := fun a u h => ⟨u, by show upd G.H p o a = some u; rw [upd_ne (ne_of_none h hp)]; exact h⟩
  new := fun i h1 h2 => by
    have : G.S.length ≤ i := h1
    have : i < G.S.length := h2
    omega
  rs := rfl
  bd := fun _ _ h => h
theorem wf_put (w : Wf K G) {p : Addr} {o : HO} (hp : G.H p = none) : Wf K (G.put p o) := by
  have st : Stp G (G.put p o) := stp_put hp
  have mv := st.move w
  have up : ∀ {a u}, G.H a = some u → (G.put p o).H a = some u := fun {a u} h => by
    show upd G.H p o a = some u
    rw [upd_ne (ne_of_none h hp)]
    exact h
  refine ⟨fun i ds e => ?_, fun i ds e => ?_, w.inj, w.nrs, fun a h => ?_, fun i h => ?_⟩
  · obtain ⟨vs, h1, h2⟩ := w.live i ds e
    exact ⟨vs, up h1, h2.move mv⟩
  · obtain ⟨vs, h1, h2, h3, h4⟩ := w.frz i ds e
    exact ⟨vs, up h1, h2, h3, h4.move mv⟩
  · obtain ⟨o', e⟩ := w.rs a h
    exact ⟨o', up e⟩
  · obtain ⟨o', e⟩ := w.there i h
    exact ⟨o', up e⟩
theorem new_lst (w : Wf K G) {p : Addr} {ds : List D} {vs : List V} (hp : G.H p = none) (r : Reps K G ds vs) : Rep K (G.put p (.lst vs)) (.lst ds) (.ref p) :=
  .lst upd_same (free_not_own w hp) (free_not_rs w hp) (r.step (stp_put hp) w)
theorem new_tup (w : Wf K G) {p : Addr} {ds : List D} {vs : List V} (hp : G.H p = none) (r : Reps K G ds vs) : Rep K (G.put p (.tup vs)) (.tup ds) (.ref p) :=
  .tup (.inl upd_same) (r.step (stp_put hp) w)
/-- a list of the store made of one that is there and known to none -/
abbrev Gh.grow (G : Gh) (a : Addr) (ds : List D) : Gh := { G with S := G.S ++ [.live ds], β := fun i => if i = G.S.length then a else G.β i }
theorem get_snoc {α : Type} (S : List α) (c : α) (i : Nat) : (S ++ [c])[i]? = if i = S.length then some c else S[i]? := by
  by_cases h : i = S.length
  · rw [if_pos h, h, List.getElem?_append_right (Nat.le_refl _)]
    simp
  · rw [if_neg h]
    by_cases h2 : i < S.length
    · rw [List.getElem?_append_left h2]
    · rw [List.getElem?_eq_none (by simp; omega), List.getElem?_eq_none (by omega)]
theorem own_grow {a b : Addr} {ds : List D} (w : Wf K G) : (G.grow a ds).Own b ↔ b = a ∨ G.Own b := by
  constructor
  · rintro ⟨i, es, e, rfl⟩
    have e' : (if i = G.S.length then some (Cell.live ds) else G.S[i]?) = some (.live es) := by
      rw [← get_snoc]
      exact e
    by_cases h : i = G.S.length
    · left
      show (if i = G.S.length then a else G.β i) = a
      rw [if_pos h]
    · rw [if_neg h] at e'
      right
      refine ⟨i, es, e', ?_⟩
      show G.β i = (if i = G.S.length then a else G.β i)
      rw [if_neg h]
  · rintro (rfl | ⟨i, es, e, rfl⟩)
    · refine ⟨G.S.length, ds, ?_, ?_⟩
      · show (G.S ++ [.live ds])[G.S.length]? = _
        rw [get_snoc, if_pos rfl]
      · show (if G.S.length = G.S.length then _ else _) = _
        rw [if_pos rfl]
    · have hi : i < G.S.length := (List.getElem?_eq_some_iff.mp e).1
      refine ⟨i, es, ?_, ?_⟩
      · show (G.S ++ [.live ds])[i]? = _
        rw [get_snoc, if_neg (by omega)]
        exact e
      · show (if i = G.S.length then a else G.β i) = _
        rw [if_neg (by omega)]
/-- the list at p, new: as a list of the store -/
theorem new_box (w : Wf K G) {p : Addr} {ds : List D} {vs : List V} (hp : G.H p = none) (r : Reps K G ds vs) :
    Stp G ((G.put p (.lst vs)).grow p ds) ∧ Wf K ((G.put p (.lst vs)).grow p ds) ∧ Rep K ((G.put p (.lst vs)).grow p ds) (.box G.S.length) (.ref p) := by
  have w1 : Wf K (G.put p (.lst vs)) := wf_put w hp
  have s1 : Stp G (G.put p (.lst vs)) := stp_put hp
  have up : ∀ {a u}, G.H a = some u → upd G.H p (.lst vs) a = some u := fun {a u} h => by
    rw [upd_ne (ne_of_none h hp)]
    exact h
  have st : Stp G ((G.put p (.lst vs)).grow p ds) := by
    refine ⟨by show G.S.length ≤ (G.S ++ [_]).length; simp, fun i hi => ?_, fun a o h n => ⟨up h, fun z => ?_⟩, fun a o h => ⟨o, up h⟩, fun i h1 h2 => ?_, rfl, ?_⟩
    · show (if i = G.S.length then p else G.β i) = _
      rw [if_neg (by omega)]
    · rcases (own_grow w1).mp z with rfl | z
      · rw [hp] at h
        cases h
      · exact n z
    · have h2' : i < (G.S ++ [Cell.live ds]).length := h2
      have e : i = G.S.length := by
        simp at h2'
        omega
      show G.H (if i = G.S.length then p else G.β i) = none
      rw [if_pos e]
      exact hp
    · intro n hn hb i c hi e
      have e' : (if i = G.S.length then some (Cell.live ds) else G.S[i]?) = some c := by
        rw [← get_snoc]
        exact e
      rw [if_neg (by omega)] at e'
      exact hb i c hi e'
  have mv := st.move w
  refine ⟨st, ⟨fun i es e => ?_, fun i es e => ?_, fun i j es fs e1 e2 e3 => ?_, fun i es e => ?_, fun a h => ?_, fun i h => ?_⟩, ?_⟩
  · have e' : (if i = G.S.length then some (Cell.live ds) else G.S[i]?) = some (.live es) := by
      rw [← get_snoc]
      exact e
    show ∃ ws, upd G.H p (.lst vs) (if i = G.S.length then p else G.β i) = some (.lst ws) ∧ _
    by_cases h : i = G.S.length
    · rw [if_pos h] at e' ⊢
      cases e'
      exact ⟨vs, upd_same, r.move mv⟩
    · rw [if_neg h] at e' ⊢
      obtain ⟨ws, h1, h2⟩ := w.live i es e'
      exact ⟨ws, up h1, h2.move mv⟩
  · have e' : (if i = G.S.length then some (Cell.live ds) else G.S[i]?) = some (.frz es) := by
      rw [← get_snoc]
      exact e
    by_cases h : i = G.S.length
    · rw [if_pos h] at e'
      cases e'
    · rw [if_neg h] at e'
      obtain ⟨ws, h1, h2, h3, h4⟩ := w.frz i es e'
      have eb : ((G.put p (.lst vs)).grow p ds).β i = G.β i := by
        show (if i = G.S.length then p else G.β i) = _
        rw [if_neg h]
      rw [eb]
      refine ⟨ws, up h1, (st.keep _ _ h1 h2).2, h3, h4.move mv⟩
  · have e1' : (if i = G.S.length then some (Cell.live ds) else G.S[i]?) = some (.live es) := by
      rw [← get_snoc]
      exact e1
    have e2' : (if j = G.S.length then some (Cell.live ds) else G.S[j]?) = some (.live fs) := by
      rw [← get_snoc]
      exact e2
    have e3' : (if i = G.S.length then p else G.β i) = (if j = G.S.length then p else G.β j) := e3
    by_cases h : i = G.S.length
    · by_cases h' : j = G.S.length
      · rw [h, h']
      · rw [if_neg h'] at e2' e3'
        rw [if_pos h] at e3'
        obtain ⟨ws, q, _⟩ := w.live j fs e2'
        rw [← e3', hp] at q
        cases q
    · rw [if_neg h] at e1' e3'
      by_cases h' : j = G.S.length
      · rw [if_pos h'] at e3'
        obtain ⟨ws, q, _⟩ := w.live i es e1'
        rw [e3', hp] at q
        cases q
      · rw [if_neg h'] at e2' e3'
        exact w.inj i j es fs e1' e2' e3'
  · have e' : (if i = G.S.length then some (Cell.live ds) else G.S[i]?) = some (.live es) := by
      rw [← get_snoc]
      exact e
    show ¬ G.Rs (if i = G.S.length then p else G.β i)
    by_cases h : i = G.S.length
    · rw [if_pos h]
      exact free_not_rs w hp
    · rw [if_neg h] at e' ⊢
      exact w.nrs i es e'
  · obtain ⟨o, e⟩ := w.rs a h
    exact ⟨o, up e⟩
  · show ∃ us, upd G.H p (.lst vs) (if i = G.S.length then p else G.β i) = some (.lst us)
    have h' : i < (G.S ++ [Cell.live ds]).length := h
    by_cases q : i = G.S.length
    · rw [if_pos q]
      exact ⟨_, upd_same⟩
    · rw [if_neg q]
      obtain ⟨o, e⟩ := w.there i (by simp at h'; omega)
      exact ⟨o, up e⟩
  · have e : ((G.put p (.lst vs)).grow p ds).β G.S.length = p := by
      show (if G.S.length = G.S.length then p else _) = p
      rw [if_pos rfl]
    have q : Rep K ((G.put p (.lst vs)).grow p ds) (.box G.S.length) (.ref (((G.put p (.lst vs)).grow p ds).β G.S.length)) := .box (by show G.S.length < (G.S ++ [_]).length; simp)
    rw [e] at q
    exact q
/-- a list of the store is written -/
abbrev Gh.wr (G : Gh) (i : Nat) (ds : List D) (vs : List V) : Gh := { G with H := upd G.H (G.β i) (.lst vs), S := G.S.set i (.live ds) }
theorem get_set {α : Type} (S : List α) (c : α) (i j : Nat) (h : i < S.length) : (S.set i c)[j]? = if j = i then some c else S[j]? := by
  by_cases e : j = i
  · subst e
    rw [if_pos rfl, List.getElem?_set_self h]
  · rw [if_neg e, List.getElem?_set_ne (Ne.symm e)]
theorem own_wr {i : Nat} {ds es : List D} {vs : List V} {a : Addr} (h : G.S[i]? = some (.live es)) : (G.wr i ds vs).Own a ↔ G.Own a := by
  have hi : i < G.S.length := (List.getElem?_eq_some_iff.mp h).1
  constructor
  · rintro ⟨j, fs, e, rfl⟩
    have e' : (if j = i then some (Cell.live ds) else G.S[j]?) = some (.live fs) := by
      rw [← get_set _ _ _ _ hi]
      exact e
    by_cases q : j = i
    · subst q
      exact ⟨j, es, h, rfl⟩
    · rw [if_neg q] at e'
      exact ⟨j, fs, e', rfl⟩
  · rintro ⟨j, fs, e, rfl⟩
    by_cases q : j = i
    · subst q
      exact ⟨j, ds, by show (G.S.set j (.live ds))[j]? = _; rw [get_set _ _ _ _ hi, if_pos rfl], rfl⟩
    · exact ⟨j, fs, by show (G.S.set i (.live ds))[j]? = _; rw [get_set _ _ _ _ hi, if_neg q]; exact e, rfl⟩
theorem write_box (w : Wf K G) {i : Nat} {ds es : List D} {vs : List V} (h : G.S[i]? = some (.live es)) (r : Reps K G ds vs) (hb : ∀ n, bnds n es = true → bnds n ds = true) : Stp G (G.wr i ds vs) ∧ Wf K (G.wr i ds vs) := by
  have hi : i < G.S.length := (List.getElem?_eq_some_iff.mp h).1
  obtain ⟨us, hu, _⟩ := w.live i es h
  have up : ∀ {a o}, G.H a = some o → ¬ G.Own a → upd G.H (G.β i) (.lst vs) a = some o := fun {a o} q n => by
    rw [upd_ne (fun z => n (by rw [z]; exact ⟨i, es, h, rfl⟩))]
    exact q
  have st : Stp G (G.wr i ds vs) := by
    refine ⟨by show G.S.length ≤ (G.S.set i _).length; simp, fun _ _ => rfl, fun a o q n => ⟨up q n, fun z => n ((own_wr h).mp z)⟩, fun a o q => ?_, fun j h1 h2 => ?_, rfl, fun n hn q j c hj e => ?_⟩
    · show ∃ o', upd G.H (G.β i) (.lst vs) a = some o'
      by_cases z : a = G.β i
      · rw [z]
        exact ⟨_, upd_same⟩
      · rw [upd_ne z]
        exact ⟨o, q⟩
    · have h2' : j < (G.S.set i (.live ds)).length := h2
      simp at h2'
      omega
    · have e' : (if j = i then some (Cell.live ds) else G.S[j]?) = some c := by
        rw [← get_set _ _ _ _ hi]
        exact e
      by_cases z : j = i
      · rw [if_pos z] at e'
        cases e'
        exact hb n (q i _ (by omega) h)
      · rw [if_neg z] at e'
        exact q j c hj e'
  have mv := st.move w
  refine ⟨st, fun j fs e => ?_, fun j fs e => ?_, fun j k fs gs e1 e2 e3 => ?_, fun j fs e => ?_, fun a q => ?_, fun j q => ?_⟩
  · have e' : (if j = i then some (Cell.live ds) else G.S[j]?) = some (.live fs) := by
      rw [← get_set _ _ _ _ hi]
      exact e
    show ∃ ws, upd G.H (G.β i) (.lst vs) (G.β j) = some (.lst ws) ∧ _
    by_cases q : j = i
    · rw [if_pos q] at e'
      cases e'
      rw [q]
      exact ⟨vs, upd_same, r.move mv⟩
    · rw [if_neg q] at e'
      obtain ⟨ws, h1, h2⟩ := w.live j fs e'
      exact ⟨ws, by rw [upd_ne (fun z => q (w.inj j i fs es e' h z))]; exact h1, h2.move mv⟩
  · have e' : (if j = i then some (Cell.live ds) else G.S[j]?) = some (.frz fs) := by
      rw [← get_set _ _ _ _ hi]
      exact e
    by_cases q : j = i
    · rw [if_pos q] at e'
      cases e'
    · rw [if_neg q] at e'
      obtain ⟨ws, h1, h2, h3, h4⟩ := w.frz j fs e'
      exact ⟨ws, up h1 h2, fun z => h2 ((own_wr h).mp z), h3, h4.move mv⟩
  · have e1' : (if j = i then some (Cell.live ds) else G.S[j]?) = some (.live fs) := by
      rw [← get_set _ _ _ _ hi]
      exact e1
    have e2' : (if k = i then some (Cell.live ds) else G.S[k]?) = some (.live gs) := by
      rw [← get_set _ _ _ _ hi]
      exact e2
    have l1 : ∃ fs', G.S[j]? = some (.live fs') := by
      by_cases q : j = i
      · rw [q]; exact ⟨es, h⟩
      · rw [if_neg q] at e1'; exact ⟨fs, e1'⟩
    have l2 : ∃ fs', G.S[k]? = some (.live fs') := by
      by_cases q : k = i
      · rw [q]; exact ⟨es, h⟩
      · rw [if_neg q] at e2'; exact ⟨gs, e2'⟩
    obtain ⟨f1, q1⟩ := l1
    obtain ⟨f2, q2⟩ := l2
    exact w.inj j k f1 f2 q1 q2 e3
  · have e' : (if j = i then some (Cell.live ds) else G.S[j]?) = some (.live fs) := by
      rw [← get_set _ _ _ _ hi]
      exact e
    show ¬ G.Rs (G.β j)
    by_cases q : j = i
    · rw [q]
      exact w.nrs i es h
    · rw [if_neg q] at e'
      exact w.nrs j fs e'
  · obtain ⟨o, e⟩ := w.rs a q
    refine ⟨o, up e fun ⟨j, fs, e1, e2⟩ => w.nrs j fs e1 (by rw [e2]; exact q)⟩
  · have q' : j < (G.S.set i (.live ds)).length := q
    obtain ⟨us, e⟩ := w.there j (by simpa using q')
    show ∃ us, upd G.H (G.β i) (.lst vs) (G.β j) = some (.lst us)
    by_cases z : G.β j = G.β i
    · rw [z]
      exact ⟨_, upd_same⟩
    · rw [upd_ne z]
      exact ⟨us, e⟩
/-- a list of the store is told never to change again: nothing happens -/
abbrev Gh.ice (G : Gh) (i : Nat) (ds : List D) : Gh := { G with S := G.S.set i (.frz ds) }
theorem ice_box (w : Wf K G) {i : Nat} {ds es : List D} {vs : List V} (h : G.S[i]? = some (.live es)) (hv : G.H (G.β i) = some (.lst vs)) (r : Reps K G ds vs) (hb : ∀ n, i < n → n ≤ G.S.length → Bd n G.S → bnds n ds = true) :
    Stp G (G.ice i ds) ∧ Wf K (G.ice i ds) ∧ Rep K (G.ice i ds) (.lst ds) (.ref (G.β i)) := by
  have hi : i < G.S.length := (List.getElem?_eq_some_iff.mp h).1
  have le : ∀ a, (G.ice i ds).Own a → G.Own a ∧ a ≠ G.β i := by
    rintro a ⟨j, fs, e, rfl⟩
    have e' : (if j = i then some (Cell.frz ds) else G.S[j]?) = some (.live fs) := by
      rw [← get_set _ _ _ _ hi]
      exact e
    by_cases q : j = i
    · rw [if_pos q] at e'
      cases e'
    · rw [if_neg q] at e'
      exact ⟨⟨j, fs, e', rfl⟩, fun z => q (w.inj j i fs es e' h z)⟩
  have st : Stp G (G.ice i ds) := by
    refine ⟨by show G.S.length ≤ (G.S.set i _).length; simp, fun _ _ => rfl, fun a o q n => ⟨q, fun z => n (le a z).1⟩, fun a o q => ⟨o, q⟩, fun j h1 h2 => ?_, rfl, fun n hn q j c hj e => ?_⟩
    · have h2' : j < (G.S.set i (.frz ds)).length := h2
      simp at h2'
      omega
    · have e' : (if j = i then some (Cell.frz ds) else G.S[j]?) = some c := by
        rw [← get_set _ _ _ _ hi]
        exact e
      by_cases z : j = i
      · rw [if_pos z] at e'
        cases e'
        exact hb n (by omega) hn q
      · rw [if_neg z] at e'
        exact q j c hj e'
  have mv := st.move w
  refine ⟨st, ⟨fun j fs e => ?_, fun j fs e => ?_, fun j k fs gs e1 e2 e3 => ?_, fun j fs e => ?_, w.rs, fun j q => ?_⟩, ?_⟩
  · have e' : (if j = i then some (Cell.frz ds) else G.S[j]?) = some (.live fs) := by
      rw [← get_set _ _ _ _ hi]
      exact e
    by_cases q : j = i
    · rw [if_pos q] at e'
      cases e'
    · rw [if_neg q] at e'
      obtain ⟨ws, h1, h2⟩ := w.live j fs e'
      exact ⟨ws, h1, h2.move mv⟩
  · have e' : (if j = i then some (Cell.frz ds) else G.S[j]?) = some (.frz fs) := by
      rw [← get_set _ _ _ _ hi]
      exact e
    by_cases q : j = i
    · rw [if_pos q] at e'
      cases e'
      subst q
      exact ⟨vs, hv, fun z => (le _ z).2 rfl, w.nrs j es h, r.move mv⟩
    · rw [if_neg q] at e'
      obtain ⟨ws, h1, h2, h3, h4⟩ := w.frz j fs e'
      exact ⟨ws, h1, fun z => h2 (le _ z).1, h3, h4.move mv⟩
  · have e1' : (if j = i then some (Cell.frz ds) else G.S[j]?) = some (.live fs) := by
      rw [← get_set _ _ _ _ hi]
      exact e1
    have e2' : (if k = i then some (Cell.frz ds) else G.S[k]?) = some (.live gs) := by
      rw [← get_set _ _ _ _ hi]
      exact e2
    by_cases q : j = i
    · rw [if_pos q] at e1'
      cases e1'
    · by_cases q2 : k = i
      · rw [if_pos q2] at e2'
        cases e2'
      · rw [if_neg q] at e1'
        rw [if_neg q2] at e2'
        exact w.inj j k fs gs e1' e2' e3
  · have e' : (if j = i then some (Cell.frz ds) else G.S[j]?) = some (.live fs) := by
      rw [← get_set _ _ _ _ hi]
      exact e
    by_cases q : j = i
    · rw [if_pos q] at e'
      cases e'
    · rw [if_neg q] at e'
      exact w.nrs j fs e'
  · have q' : j < (G.S.set i (.frz ds)).length := q
    exact w.there j (by simpa using q')
  · exact .lst hv (fun z => (le _ z).2 rfl) (w.nrs i es h) (r.move mv)
end
end Sw

set_option Elab.async false
set_option linter.all false
set_option maxRecDepth 100000
set_option maxHeartbeats 4000000
namespace Sw
open PySem PySem.Spec PyProof.Rows L2

section
variable {K : PySem.W.Frag} {G G' G1 G2 : Gh}
/-! ### freezing -/
structure FrOk (S S' : Store) : Prop where
  frz : ∀ (j : Nat) (ds : List D), S[j]? = some (Cell.frz ds) → S'[j]? = some (.frz ds)
  live : ∀ (j : Nat) (ds : List D), S[j]? = some (Cell.live ds) → S'[j]? = some (.live ds) ∨ ∃ es, S'[j]? = some (.frz es)
theorem FrOk.refl (S : Store) : FrOk S S := ⟨fun _ _ h => h, fun _ _ h => .inl h⟩
theorem FrOk.trans {S S1 S2 : Store} (a : FrOk S S1) (b : FrOk S1 S2) : FrOk S S2 := ⟨fun j ds h => b.frz j ds (a.frz j ds h), fun j ds h => by
  rcases a.live j ds h with h | ⟨es, h⟩
  · exact b.live j ds h
  · exact .inr ⟨es, b.frz j es h⟩⟩
def GoodF (K : PySem.W.Frag) (f : D → Store → Option (D × Store)) : Prop := ∀ d S d' S', f d S = some (d', S') → ∀ G v, G.S = S → Wf K G → Rep K G d v →
  ∃ G', G'.S = S' ∧ G'.H = G.H ∧ Stp G G' ∧ Wf K G' ∧ Rep K G' d' v ∧ FrOk S S' ∧ ∀ m S'', bnd m d = true → FrOk S' S'' → Bd m S'' → bnd m d' = true
def GoodA (K : PySem.W.Frag) (f : List D → Store → Option (List D × Store)) : Prop := ∀ d S d' S', f d S = some (d', S') → ∀ G v, G.S = S → Wf K G → Reps K G d v →
  ∃ G', G'.S = S' ∧ G'.H = G.H ∧ Stp G G' ∧ Wf K G' ∧ Reps K G' d' v ∧ FrOk S S' ∧ ∀ m S'', bnds m d = true → FrOk S' S'' → Bd m S'' → bnds m d' = true
theorem bnds_cons {m : Nat} {d : D} {ds : List D} : bnds m (d :: ds) = true ↔ bnd m d = true ∧ bnds m ds = true := by
  rw [bnds, Bool.and_eq_true]
theorem frzA_ok {f : D → Store → Option (D × Store)} (hf : GoodF K f) : GoodA K (frzA f) := by
  intro ds
  induction ds with
  | nil =>
    intro S d' S' h G v hS w r
    cases h
    cases r
    exact ⟨G, hS, rfl, .refl G, w, .nil, .refl S, fun _ _ h _ _ => h⟩
  | cons d ds ih =>
    intro S d' S' h G v hS w r
    rw [frzA] at h
    split at h
    · rename_i d1 S1 e1
      split at h
      · rename_i ds2 S2 e2
        cases h
        cases r with
        | cons r rs =>
          obtain ⟨G1, hS1, hH1, st1, w1, r1, f1, b1⟩ := hf d S d1 S1 e1 G _ hS w r
          obtain ⟨G2, hS2, hH2, st2, w2, r2, f2, b2⟩ := ih S1 ds2 _ e2 G1 _ hS1 w1 (rs.step st1 w)
          refine ⟨G2, hS2, hH2.trans hH1, st1.trans st2, w2, .cons (r1.step st2 w1) r2, f1.trans f2, fun m S'' hb fr bd => ?_⟩
          rw [bnds_cons] at hb ⊢
          exact ⟨b1 m S'' hb.1 (f2.trans fr) bd, b2 m S'' hb.2 fr bd⟩
      · cases h
    · cases h
theorem frzD_ok : ∀ n, GoodF K (frzD n)
  | 0 => fun d S d' S' h => by
    unfold frzD at h
    cases h
  | n + 1 => fun d S d' S' h G v hS w r => by
    have same : some (d, S) = some (d', S') → ∃ G', G'.S = S' ∧ G'.H = G.H ∧ Stp G G' ∧ Wf K G' ∧ Rep K G' d' v ∧ FrOk S S' ∧ ∀ m S'', bnd m d = true → FrOk S' S'' → Bd m S'' → bnd m d' = true := fun h => by
      cases h
      exact ⟨G, hS, rfl, .refl G, w, r, .refl S, fun _ _ h _ _ => h⟩
    cases d with
    | box i =>
      rw [frzD] at h
      split at h
      · rename_i ds e
        split at h
        · rename_i ds' S1 e1
          split at h
          · rename_i es e2
            cases h
            subst hS
            obtain ⟨vs, hv, rs⟩ := w.live i ds e
            obtain ⟨G1, hS1, hH1, st1, w1, r1, f1, b1⟩ := frzA_ok (frzD_ok n) ds G.S ds' S1 e1 G vs rfl w rs
            subst hS1
            have ees : es = ds := by
              rcases f1.live i ds e with q | ⟨_, q⟩
              · rw [e2] at q
                cases q
                rfl
              · rw [e2] at q
                cases q
            subst ees
            have hi : i < G.S.length := (List.getElem?_eq_some_iff.mp e).1
            have hb1 : G1.β i = G.β i := st1.beta i hi
            have hi1 : i < G1.S.length := (List.getElem?_eq_some_iff.mp e2).1
            obtain ⟨st2, w2, r2⟩ := ice_box (i := i) (ds := ds') (vs := vs) w1 e2 (by rw [hb1, hH1]; exact hv) r1 (fun m hm _ bd => b1 m G1.S (bd i _ hm e2) (.refl _) bd)
            have fo : FrOk G1.S (G1.S.set i (.frz ds')) := ⟨fun j fs q => by
              rw [get_set _ _ _ _ hi1]
              by_cases z : j = i
              · rw [z, e2] at q
                cases q
              · rw [if_neg z]
                exact q, fun j fs q => by
              rw [get_set _ _ _ _ hi1]
              by_cases z : j = i
              · rw [if_pos z]
                exact .inr ⟨_, rfl⟩
              · rw [if_neg z]
                exact .inl q⟩
            cases r
            refine ⟨G1.ice i ds', rfl, hH1, st1.trans st2, w2, by rw [← hb1]; exact r2, f1.trans fo, fun m S'' hb fr bd => ?_⟩
            have hm : i < m := of_decide_eq_true hb
            show bnds m ds' = true
            exact bd i (.frz ds') hm (fr.frz i ds' (by rw [get_set _ _ _ _ hi1, if_pos rfl]))
          · cases h
        · cases h
      · rename_i ds e
        cases h
        subst hS
        obtain ⟨vs, h1, h2, h3, h4⟩ := w.frz i ds e
        cases r
        refine ⟨G, rfl, rfl, .refl G, w, .lst h1 h2 h3 h4, .refl _, fun m S'' hb fr bd => ?_⟩
        have hm : i < m := of_decide_eq_true hb
        show bnds m ds = true
        exact bd i (.frz ds) hm (fr.frz i ds e)
      · cases h
    | tup ds =>
      rw [frzD] at h
      split at h
      · rename_i ds' S1 e1
        cases h
        cases r with
        | tup h1 rs =>
          obtain ⟨G1, hS1, hH1, st1, w1, r1, f1, b1⟩ := frzA_ok (frzD_ok n) ds S ds' S' e1 G _ hS w rs
          exact ⟨G1, hS1, hH1, st1, w1, .tup (by rw [hH1]; exact h1) r1, f1, fun m S'' hb fr bd => b1 m S'' hb fr bd⟩
      · cases h
    | _ => exact same h

/-! ### what is to hold behind an expression -/
def PostE (K : PySem.W.Frag) (G : Gh) (r : Option (D × Store)) (Q : V → Hp → Prop) : Prop :=
  ∃ d S', r = some (d, S') ∧ ∀ G' v, G'.S = S' → Stp G G' → Wf K G' → Rep K G' d v → Q v G'.H
def PostT (K : PySem.W.Frag) (G : Gh) (r : Option (Bool × Store)) (Q : Bool → Hp → Prop) : Prop :=
  ∃ b S', r = some (b, S') ∧ ∀ G', G'.S = S' → Stp G G' → Wf K G' → Q b G'.H
def PostO (K : PySem.W.Frag) (G : Gh) (r : Option (Option Int × Store)) (Q : Option Int → Hp → Prop) : Prop :=
  ∃ b S', r = some (b, S') ∧ ∀ G', G'.S = S' → Stp G G' → Wf K G' → Q b G'.H
def PostA (K : PySem.W.Frag) (G : Gh) (r : Option (List D × Store)) (Q : List V → Hp → Prop) : Prop :=
  ∃ ds S', r = some (ds, S') ∧ ∀ G' vs, G'.S = S' → Stp G G' → Wf K G' → Reps K G' ds vs → Q vs G'.H
theorem PostE.mono {r : Option (D × Store)} {Q : V → Hp → Prop} (h : PostE K G r Q) (s : Stp G G1) : PostE K G1 r Q :=
  let ⟨d, S', e, q⟩ := h; ⟨d, S', e, fun G' v a b c f => q G' v a (s.trans b) c f⟩
theorem PostT.mono {r : Option (Bool × Store)} {Q : Bool → Hp → Prop} (h : PostT K G r Q) (s : Stp G G1) : PostT K G1 r Q :=
  let ⟨d, S', e, q⟩ := h; ⟨d, S', e, fun G' a b c => q G' a (s.trans b) c⟩
theorem PostO.mono {r : Option (Option Int × Store)} {Q : Option Int → Hp → Prop} (h : PostO K G r Q) (s : Stp G G1) : PostO K G1 r Q :=
  let ⟨d, S', e, q⟩ := h; ⟨d, S', e, fun G' a b c => q G' a (s.trans b) c⟩
theorem PostA.mono {r : Option (List D × Store)} {Q : List V → Hp → Prop} (h : PostA K G r Q) (s : Stp G G1) : PostA K G1 r Q :=
  let ⟨d, S', e, q⟩ := h; ⟨d, S', e, fun G' v a b c f => q G' v a (s.trans b) c f⟩
/-- where it ends at once -/
theorem PostE.now {d : D} {v : V} {Q : V → Hp → Prop} (h : PostE K G (some (d, G.S)) Q) (w : Wf K G) (r : Rep K G d v) : Q v G.H := by
  obtain ⟨d', S', e, q⟩ := h
  cases e
  exact q G v rfl (.refl G) w r
theorem PostE.at {d : D} {v : V} {S' : Store} {Q : V → Hp → Prop} (h : PostE K G (some (d, S')) Q) (hS : G'.S = S') (s : Stp G G') (w : Wf K G') (r : Rep K G' d v) : Q v G'.H := by
  obtain ⟨d', S', e, q⟩ := h
  cases e
  exact q G' v hS s w r
theorem PostE.mk {o : Bool} {ds : List D} {vs : List V} {p : Addr} {Q : V → Hp → Prop} (h : PostE K G (some (mk o ds G.S)) Q) (w : Wf K G) (r : Reps K G ds vs) (hp : G.H p = none) : Q (.ref p) (upd G.H p (.lst vs)) := by
  cases o with
  | false => exact h.at (G' := G.put p (.lst vs)) rfl (stp_put hp) (wf_put w hp) (new_lst w hp r)
  | true =>
    obtain ⟨st, w', r'⟩ := new_box w hp r
    exact h.at (G' := (G.put p (.lst vs)).grow p ds) rfl st w' r'
theorem PostE.tup {ds : List D} {vs : List V} {p : Addr} {Q : V → Hp → Prop} (h : PostE K G (some (.tup ds, G.S)) Q) (w : Wf K G) (r : Reps K G ds vs) (hp : G.H p = none) : Q (.ref p) (upd G.H p (.tup vs)) :=
  h.at (G' := G.put p (.tup vs)) rfl (stp_put hp) (wf_put w hp) (new_tup w hp r)

/-! ### names -/
structure REnv (K : PySem.W.Frag) (G : Gh) (ρ : Env) (σ : L2.St) : Prop where
  len : ρ.length = σ.length
  get : ∀ (i : Nat) (d : D), ρ[i]? = some (some d) → ∃ v, σ[i]? = some (some v) ∧ Rep K G d v
theorem REnv.step {ρ : Env} {σ : L2.St} (r : REnv K G ρ σ) (s : Stp G G') (w : Wf K G) : REnv K G' ρ σ :=
  ⟨r.len, fun i d e => let ⟨v, h1, h2⟩ := r.get i d e; ⟨v, h1, h2.step s w⟩⟩
theorem REnv.set {ρ : Env} {σ : L2.St} {i : Nat} {d : D} {v : V} (r : REnv K G ρ σ) (h : Rep K G d v) : REnv K G (ρ.set i (some d)) (σ.set i (some v)) := by
  refine ⟨by rw [List.length_set, List.length_set, r.len], fun j e q => ?_⟩
  by_cases z : i < ρ.length
  · rw [get_set _ _ _ _ z] at q
    rw [get_set _ _ _ _ (by rw [← r.len]; exact z)]
    by_cases y : j = i
    · rw [if_pos y] at q ⊢
      cases q
      exact ⟨v, rfl, h⟩
    · rw [if_neg y] at q ⊢
      exact r.get j e q
  · rw [List.set_eq_of_length_le (by omega)] at q
    rw [List.set_eq_of_length_le (by rw [← r.len]; omega)]
    exact r.get j e q
theorem REnv.wipe {ρ : Env} {σ : L2.St} (r : REnv K G ρ σ) : ∀ vs : List Nat, REnv K G (wipeE ρ vs) (L2.wipe σ vs)
  | [] => r
  | v :: vs => by
    have ih := REnv.wipe r vs
    unfold wipeE L2.wipe
    refine ⟨by rw [List.length_set, List.length_set, ih.len], fun j e q => ?_⟩
    by_cases z : v < (wipeE ρ vs).length
    · rw [get_set _ _ _ _ z] at q
      rw [get_set _ _ _ _ (by rw [← ih.len]; exact z)]
      by_cases y : j = v
      · rw [if_pos y] at q
        cases q
      · rw [if_neg y] at q ⊢
        exact ih.get j e q
    · rw [List.set_eq_of_length_le (by omega)] at q
      rw [List.set_eq_of_length_le (by rw [← ih.len]; omega)]
      exact ih.get j e q
theorem REnv.start {ds : List D} {vs : List V} (r : Reps K G ds vs) (n : Nat) : REnv K G (ds.map some ++ List.replicate n none) (vs.map some ++ List.replicate n none) := by
  refine ⟨by simp [r.length], fun i d e => ?_⟩
  by_cases h : i < ds.length
  · rw [List.getElem?_append_left (by simpa using h), List.getElem?_map] at e
    cases q : ds[i]? with
    | none => rw [q] at e; cases e
    | some d' =>
      rw [q] at e
      cases e
      obtain ⟨v, h1, h2⟩ := r.get q
      refine ⟨v, ?_, h2⟩
      rw [List.getElem?_append_left (by rw [List.length_map, ← r.length]; exact h), List.getElem?_map, h1]
      rfl
  · rw [List.getElem?_append_right (by simpa using h)] at e
    rw [List.getElem?_replicate] at e
    split at e <;> cases e
end
end Sw

set_option Elab.async false
set_option linter.all false
set_option maxRecDepth 100000
set_option maxHeartbeats 4000000
namespace Sw
open PySem PySem.Spec PyProof.Rows L2

/-! ### what a def hands back -/
mutual
inductive RepF (K : PySem.W.Frag) (G : Gh) : D → V → List Addr → Prop
  | old {d : D} {v : V} : Rep K G d v → RepF K G d v []
  | fre {a : Addr} {ds : List D} {vs : List V} {F : List Addr} : G.H a = some (.lst vs) → RepFs K G ds vs F → RepF K G (.fre ds) (.ref a) (F ++ [a])
  | tup {a : Addr} {ds : List D} {vs : List V} {F : List Addr} : TupAt K G.H a vs → RepFs K G ds vs F → RepF K G (.tup ds) (.ref a) F
inductive RepFs (K : PySem.W.Frag) (G : Gh) : List D → List V → List Addr → Prop
  | nil : RepFs K G [] [] []
  | cons {d : D} {v : V} {F : List Addr} {ds : List D} {vs : List V} {F' : List Addr} : RepF K G d v F → RepFs K G ds vs F' → RepFs K G (d :: ds) (v :: vs) (F ++ F')
end
def PostR (K : PySem.W.Frag) (G : Gh) (r : Option (D × Store)) (Q : V → Hp → Prop) : Prop :=
  ∃ d S', r = some (d, S') ∧ ∀ G' v F, G'.S = S' → Stp G { G' with Rs := G.Rs } → (∀ a, G'.Rs a ↔ G.Rs a ∨ a ∈ F) → Wf K G' → RepF K G' d v F → F.Nodup → (∀ a ∈ F, G.H a = none) → Q v G'.H
/-- a def's promise -/
def spOf (K : PySem.W.Frag) (c : Fns) (f n : Nat) : Sp := fun vs H Q _ => ∃ G ds, G.H = H ∧ ds.length = n ∧ Wf K G ∧ Reps K G ds vs ∧ PostR K G (c f ds G.S) Q

section
variable {K : PySem.W.Frag} {G G' G1 G2 : Gh}
mutual
theorem unfre_old : ∀ {d : D} {v : V}, Rep K G d v → unfre d = d
  | _, _, .non => by simp only [unfre]
  | _, _, .bl b => by simp only [unfre]
  | _, _, .int i => by simp only [unfre]
  | _, _, .str x => by simp only [unfre]
  | _, _, .lst h1 h2 h3 r => by simp only [unfre]
  | _, _, .tup h r => by rw [unfre, unfres_old r]
  | _, _, .box h => by simp only [unfre]
  | _, _, .scr h => by simp only [unfre]
theorem unfres_old : ∀ {ds : List D} {vs : List V}, Reps K G ds vs → unfres ds = ds
  | _, _, .nil => rfl
  | _, _, .cons r t => by rw [unfres, unfre_old r, unfres_old t]
end
mutual
theorem unfre_ok : ∀ {d : D} {v : V} {F : List Addr}, RepF K G d v F → (∀ a ∈ F, ¬ G.Own a ∧ ¬ G.Rs a) → Rep K G (unfre d) v
  | _, _, _, .old r, _ => by
    rw [unfre_old r]
    exact r
  | _, _, _, .fre (a := a) h r, k => by
    rw [unfre]
    have q := k a (by simp)
    exact .lst h q.1 q.2 (unfres_ok r fun b hb => k b (by simp [hb]))
  | _, _, _, .tup h r, k => by
    rw [unfre]
    exact .tup h (unfres_ok r k)
theorem unfres_ok : ∀ {ds : List D} {vs : List V} {F : List Addr}, RepFs K G ds vs F → (∀ a ∈ F, ¬ G.Own a ∧ ¬ G.Rs a) → Reps K G (unfres ds) vs
  | _, _, _, .nil, _ => .nil
  | _, _, _, .cons r t, k => by
    rw [unfres]
    exact .cons (unfre_ok r fun b hb => k b (by simp [hb])) (unfres_ok t fun b hb => k b (by simp [hb]))
end
mutual
theorem thaw_old (S : Store) : ∀ {d : D} {v : V}, Rep K G d v → thaw d S = (d, S)
  | _, _, .non => by simp only [thaw]
  | _, _, .bl b => by simp only [thaw]
  | _, _, .int i => by simp only [thaw]
  | _, _, .str x => by simp only [thaw]
  | _, _, .lst h1 h2 h3 r => by simp only [thaw]
  | _, _, .tup h r => by rw [thaw, thaws_old S r]
  | _, _, .box h => by simp only [thaw]
  | _, _, .scr h => by simp only [thaw]
theorem thaws_old (S : Store) : ∀ {ds : List D} {vs : List V}, Reps K G ds vs → thaws ds S = (ds, S)
  | _, _, .nil => rfl
  | _, _, .cons r t => by rw [thaws, thaw_old S r, thaws_old S t]
end
theorem bnd_rep : (∀ {d : D} {v : V}, Rep K G d v → bnd G.S.length d = true) ∧ ∀ {ds : List D} {vs : List V}, Reps K G ds vs → bnds G.S.length ds = true := by
  refine ⟨fun {d v} r => ?_, fun {ds vs} r => ?_⟩
  · refine Rep.rec (motive_1 := fun d _ _ => bnd G.S.length d = true) (motive_2 := fun ds _ _ => bnds G.S.length ds = true) ?_ ?_ ?_ ?_ ?_ ?_ ?_ ?_ ?_ ?_ r
    all_goals (intros; first | rfl | (simp only [bnd, bnds, Bool.and_eq_true, decide_eq_true_eq, *]; done) | (simp only [bnd, bnds, Bool.and_eq_true, decide_eq_true_eq]; simp_all))
  · refine Reps.rec (motive_1 := fun d _ _ => bnd G.S.length d = true) (motive_2 := fun ds _ _ => bnds G.S.length ds = true) ?_ ?_ ?_ ?_ ?_ ?_ ?_ ?_ ?_ ?_ r
    all_goals (intros; first | rfl | (simp only [bnd, bnds, Bool.and_eq_true, decide_eq_true_eq, *]; done) | (simp only [bnd, bnds, Bool.and_eq_true, decide_eq_true_eq]; simp_all))
theorem Wf.bd (w : Wf K G) : Bd G.S.length G.S := fun i c hi e => by
  cases c with
  | live ds => obtain ⟨vs, _, r⟩ := w.live i ds e; exact bnd_rep.2 r
  | frz ds => obtain ⟨vs, _, _, _, r⟩ := w.frz i ds e; exact bnd_rep.2 r
  | dead => trivial
/-! ### a data's standing under the ghost's own moves -/
structure Mono (K : PySem.W.Frag) (G G' : Gh) : Prop where
  H : G'.H = G.H
  rep : ∀ {d : D} {v : V}, Rep K G d v → Rep K G' d v
  reps : ∀ {ds : List D} {vs : List V}, Reps K G ds vs → Reps K G' ds vs
theorem Mono.trans (a : Mono K G G1) (b : Mono K G1 G2) : Mono K G G2 := ⟨b.H.trans a.H, fun r => b.rep (a.rep r), fun r => b.reps (a.reps r)⟩
theorem Mono.of (m : Move K G G') (h : G'.H = G.H) : Mono K G G' := ⟨h, fun r => r.move m, fun r => r.move m⟩
mutual
theorem RepF.mono (m : Mono K G G') : ∀ {d : D} {v : V} {F : List Addr}, RepF K G d v F → RepF K G' d v F
  | _, _, _, .old r => .old (m.rep r)
  | _, _, _, .fre h r => .fre (by rw [m.H]; exact h) (RepFs.mono m r)
  | _, _, _, .tup h r => .tup (by rw [m.H]; exact h) (RepFs.mono m r)
theorem RepFs.mono (m : Mono K G G') : ∀ {ds : List D} {vs : List V} {F : List Addr}, RepFs K G ds vs F → RepFs K G' ds vs F
  | _, _, _, .nil => .nil
  | _, _, _, .cons r t => .cons (RepF.mono m r) (RepFs.mono m t)
end
/-! ### thawing -/
/-- a reserved list becomes one of the store -/
abbrev Gh.thw (G : Gh) (a : Addr) (ds : List D) : Gh := { G with S := G.S ++ [.live ds], β := fun i => if i = G.S.length then a else G.β i, Rs := fun b => G.Rs b ∧ b ≠ a }
theorem own_thw {a b : Addr} {ds : List D} : (G.thw a ds).Own b ↔ b = a ∨ G.Own b := by
  constructor
  · rintro ⟨i, es, e, rfl⟩
    have e' : (if i = G.S.length then some (Cell.live ds) else G.S[i]?) = some (.live es) := by
      rw [← get_snoc]
      exact e
    by_cases h : i = G.S.length
    · left
      show (if i = G.S.length then a else G.β i) = a
      rw [if_pos h]
    · rw [if_neg h] at e'
      right
      refine ⟨i, es, e', ?_⟩
      show G.β i = (if i = G.S.length then a else G.β i)
      rw [if_neg h]
  · rintro (rfl | ⟨i, es, e, rfl⟩)
    · refine ⟨G.S.length, ds, ?_, ?_⟩
      · show (G.S ++ [.live ds])[G.S.length]? = _
        rw [get_snoc, if_pos rfl]
      · show (if G.S.length = G.S.length then _ else _) = _
        rw [if_pos rfl]
    · have hi : i < G.S.length := (List.getElem?_eq_some_iff.mp e).1
      refine ⟨i, es, ?_, ?_⟩
      · show (G.S ++ [.live ds])[i]? = _
        rw [get_snoc, if_neg (by omega)]
        exact e
      · show (if i = G.S.length then a else G.β i) = _
        rw [if_neg (by omega)]
theorem thw_ok (w : Wf K G) {p : Addr} {ds : List D} {vs : List V} (hp : G.H p = some (.lst vs)) (hr : G.Rs p) (r : Reps K G ds vs) :
    Wf K (G.thw p ds) ∧ Mono K G (G.thw p ds) ∧ Rep K (G.thw p ds) (.box G.S.length) (.ref p) := by
  have no : ¬ G.Own p := fun ⟨i, es, e, z⟩ => w.nrs i es e (by rw [z]; exact hr)
  have mv : Move K G (G.thw p ds) := by
    refine ⟨fun a us h1 h2 h3 => ⟨h1, fun z => ?_, fun z => h3 z.1⟩, fun _ _ h => h, fun _ _ _ h => h, by show G.S.length ≤ (G.S ++ [_]).length; simp, fun i hi => ?_⟩
    · rcases own_thw.mp z with rfl | z
      · exact h3 hr
      · exact h2 z
    · show (if i = G.S.length then p else G.β i) = _
      rw [if_neg (by omega)]
  have m : Mono K G (G.thw p ds) := .of mv rfl
  refine ⟨⟨fun i es e => ?_, fun i es e => ?_, fun i j es fs e1 e2 e3 => ?_, fun i es e => ?_, fun a h => w.rs a h.1, fun i h => ?_⟩, m, ?_⟩
  · have e' : (if i = G.S.length then some (Cell.live ds) else G.S[i]?) = some (.live es) := by
      rw [← get_snoc]
      exact e
    show ∃ ws, G.H (if i = G.S.length then p else G.β i) = some (.lst ws) ∧ _
    by_cases h : i = G.S.length
    · rw [if_pos h] at e' ⊢
      cases e'
      exact ⟨vs, hp, m.reps r⟩
    · rw [if_neg h] at e' ⊢
      obtain ⟨ws, h1, h2⟩ := w.live i es e'
      exact ⟨ws, h1, m.reps h2⟩
  · have e' : (if i = G.S.length then some (Cell.live ds) else G.S[i]?) = some (.frz es) := by
      rw [← get_snoc]
      exact e
    by_cases h : i = G.S.length
    · rw [if_pos h] at e'
      cases e'
    · rw [if_neg h] at e'
      obtain ⟨ws, h1, h2, h3, h4⟩ := w.frz i es e'
      have eb : (G.thw p ds).β i = G.β i := by
        show (if i = G.S.length then p else G.β i) = _
        rw [if_neg h]
      rw [eb]
      exact ⟨ws, h1, fun z => (own_thw.mp z).elim (fun q => h3 (by rw [q]; exact hr)) h2, fun z => h3 z.1, m.reps h4⟩
  · have e1' : (if i = G.S.length then some (Cell.live ds) else G.S[i]?) = some (.live es) := by
      rw [← get_snoc]
      exact e1
    have e2' : (if j = G.S.length then some (Cell.live ds) else G.S[j]?) = some (.live fs) := by
      rw [← get_snoc]
      exact e2
    have e3' : (if i = G.S.length then p else G.β i) = (if j = G.S.length then p else G.β j) := e3
    by_cases h : i = G.S.length
    · by_cases h' : j = G.S.length
      · rw [h, h']
      · rw [if_neg h'] at e2' e3'
        rw [if_pos h] at e3'
        exact (no ⟨j, fs, e2', e3'.symm⟩).elim
    · rw [if_neg h] at e1' e3'
      by_cases h' : j = G.S.length
      · rw [if_pos h'] at e3'
        exact (no ⟨i, es, e1', e3'⟩).elim
      · rw [if_neg h'] at e2' e3'
        exact w.inj i j es fs e1' e2' e3'
  · have e' : (if i = G.S.length then some (Cell.live ds) else G.S[i]?) = some (.live es) := by
      rw [← get_snoc]
      exact e
    rintro ⟨q1, q2⟩
    by_cases h : i = G.S.length
    · apply q2
      show (if i = G.S.length then p else G.β i) = p
      rw [if_pos h]
    · rw [if_neg h] at e'
      have q3 : G.Rs (if i = G.S.length then p else G.β i) := q1
      rw [if_neg h] at q3
      exact w.nrs i es e' q3
  · have h' : i < (G.S ++ [Cell.live ds]).length := h
    show ∃ us, G.H (if i = G.S.length then p else G.β i) = some (.lst us)
    by_cases q : i = G.S.length
    · rw [if_pos q]
      exact ⟨_, hp⟩
    · rw [if_neg q]
      exact w.there i (by simp at h'; omega)
  · have e : (G.thw p ds).β G.S.length = p := by
      show (if G.S.length = G.S.length then p else _) = p
      rw [if_pos rfl]
    have q : Rep K (G.thw p ds) (.box G.S.length) (.ref ((G.thw p ds).β G.S.length)) := .box (by show G.S.length < (G.S ++ [_]).length; simp)
    rw [e] at q
    exact q
/-- the store has grown by the reserved lists F -/
structure Grown (K : PySem.W.Frag) (G G' : Gh) (F : List Addr) : Prop where
  wf : Wf K G'
  mono : Mono K G G'
  rs : ∀ a, G'.Rs a ↔ G.Rs a ∧ a ∉ F
  own : ∀ a, G'.Own a ↔ G.Own a ∨ a ∈ F
  len : G.S.length ≤ G'.S.length
  beta : ∀ i, i < G.S.length → G'.β i = G.β i
  new : ∀ i, G.S.length ≤ i → i < G'.S.length → G'.β i ∈ F
  old : ∀ i, i < G.S.length → G'.S[i]? = G.S[i]?
theorem Grown.none (w : Wf K G) : Grown K G G [] := ⟨w, ⟨rfl, fun r => r, fun r => r⟩, fun a => by simp, fun a => by simp, Nat.le_refl _, fun _ _ => rfl, fun i h1 h2 => by omega, fun _ _ => rfl⟩
theorem Grown.trans {F F' : List Addr} (a : Grown K G G1 F) (b : Grown K G1 G2 F') : Grown K G G2 (F ++ F') where
  wf := b.wf
  mono := a.mono.trans b.mono
  rs := fun x => by rw [b.rs, a.rs]; simp [and_assoc]
  own := fun x => by rw [b.own, a.own]; simp [or_assoc]
  len := Nat.le_trans a.len b.len
  beta := fun i h => (b.beta i (Nat.lt_of_lt_of_le h a.len)).trans (a.beta i h)
  new := fun i h1 h2 => by
    by_cases hi : i < G1.S.length
    · rw [b.beta i hi]
      exact List.mem_append_left _ (a.new i h1 hi)
    · exact List.mem_append_right _ (b.new i (by omega) h2)
  old := fun i h => (b.old i (Nat.lt_of_lt_of_le h a.len)).trans (a.old i h)
theorem Grown.one (w : Wf K G) {p : Addr} {ds : List D} {vs : List V} (hp : G.H p = some (.lst vs)) (hr : G.Rs p) (r : Reps K G ds vs) : Grown K G (G.thw p ds) [p] := by
  obtain ⟨w', m, _⟩ := thw_ok w hp hr r
  refine ⟨w', m, fun a => by show G.Rs a ∧ a ≠ p ↔ _; simp, fun a => by rw [own_thw]; simp [or_comm], by show G.S.length ≤ (G.S ++ [_]).length; simp, fun i hi => ?_, fun i h1 h2 => ?_, fun i hi => ?_⟩
  · show (if i = G.S.length then p else G.β i) = _
    rw [if_neg (by omega)]
  · have h2' : i < (G.S ++ [Cell.live ds]).length := h2
    have e : i = G.S.length := by
      simp at h2'
      omega
    show (if i = G.S.length then p else G.β i) ∈ _
    rw [if_pos e]
    simp
  · show (G.S ++ [Cell.live ds])[i]? = _
    rw [get_snoc, if_neg (by omega)]
mutual
theorem thaw_ok : ∀ {d : D} {v : V} {F : List Addr} {G : Gh}, Wf K G → RepF K G d v F → F.Nodup → (∀ a ∈ F, G.Rs a) → ∃ G', G'.S = (thaw d G.S).2 ∧ Grown K G G' F ∧ Rep K G' (thaw d G.S).1 v
  | _, _, _, G, w, .old r, _, _ => by
    rw [thaw_old G.S r]
    exact ⟨G, rfl, .none w, r⟩
  | _, _, _, G, w, .fre (a := a) (ds := ds) (vs := vs) (F := F) h r, nd, k => by
    rw [thaw]
    obtain ⟨nd1, _, nd3⟩ := List.nodup_append.mp nd
    obtain ⟨G1, e1, g1, r1⟩ := thaws_ok w r nd1 fun b hb => k b (by simp [hb])
    have na : a ∉ F := fun z => nd3 a z a (by simp) rfl
    have hr : G1.Rs a := (g1.rs a).mpr ⟨k a (by simp), na⟩
    have h1 : G1.H a = some (.lst vs) := by rw [g1.mono.H]; exact h
    have g2 := Grown.one g1.wf h1 hr r1
    obtain ⟨_, _, r2⟩ := thw_ok g1.wf h1 hr r1
    refine ⟨G1.thw a (thaws ds G.S).1, ?_, g1.trans g2, ?_⟩
    · show G1.S ++ _ = _
      rw [e1]
    · rw [← e1]
      exact r2
  | _, _, _, G, w, .tup h r, nd, k => by
    rw [thaw]
    obtain ⟨G1, e1, g1, r1⟩ := thaws_ok w r nd k
    exact ⟨G1, e1, g1, .tup (by rw [g1.mono.H]; exact h) r1⟩
theorem thaws_ok : ∀ {ds : List D} {vs : List V} {F : List Addr} {G : Gh}, Wf K G → RepFs K G ds vs F → F.Nodup → (∀ a ∈ F, G.Rs a) → ∃ G', G'.S = (thaws ds G.S).2 ∧ Grown K G G' F ∧ Reps K G' (thaws ds G.S).1 vs
  | _, _, _, G, w, .nil, _, _ => ⟨G, rfl, .none w, .nil⟩
  | _, _, _, G, w, .cons (d := d) (F := F) (F' := F') r t, nd, k => by
    rw [thaws]
    obtain ⟨nd1, nd2, nd3⟩ := List.nodup_append.mp nd
    obtain ⟨G1, e1, g1, r1⟩ := thaw_ok w r nd1 fun b hb => k b (by simp [hb])
    obtain ⟨G2, e2, g2, r2⟩ := thaws_ok g1.wf (t.mono g1.mono) nd2 fun b hb => (g1.rs b).mpr ⟨k b (by simp [hb]), fun z => nd3 b z b hb rfl⟩
    rw [e1] at e2 r2
    exact ⟨G2, e2, g1.trans g2, .cons (g2.mono.rep r1) r2⟩
end
/-- a call's result told never to change -/
theorem PostR.froze {r : Option (D × Store)} {Q : V → Hp → Prop} (w : Wf K G) (h : PostE K G (match r with
      | some (d, S) => some (unfre d, S)
      | none => none) Q) : PostR K G r Q := by
  cases r with
  | none =>
    obtain ⟨_, _, e, _⟩ := h
    cases e
  | some p =>
    obtain ⟨d, S⟩ := p
    refine ⟨d, S, rfl, fun G' v F hS st rs w' rf nd fr => ?_⟩
    have mv : Move K G' { G' with Rs := G.Rs } := ⟨fun a us h1 h2 h3 => ⟨h1, h2, fun z => h3 ((rs a).mpr (.inl z))⟩, fun _ _ h => h, fun _ _ _ h => h, Nat.le_refl _, fun _ _ => rfl⟩
    have m : Mono K G' { G' with Rs := G.Rs } := .of mv rfl
    have w2 : Wf K { G' with Rs := G.Rs } := ⟨fun i ds e => let ⟨vs, h1, h2⟩ := w'.live i ds e; ⟨vs, h1, m.reps h2⟩, fun i ds e => let ⟨vs, h1, h2, h3, h4⟩ := w'.frz i ds e; ⟨vs, h1, h2, fun z => h3 ((rs _).mpr (.inl z)), m.reps h4⟩, w'.inj,
      fun i ds e z => w'.nrs i ds e ((rs _).mpr (.inl z)), fun a z => w'.rs a ((rs a).mpr (.inl z)), w'.there⟩
    have h' : PostE K G (some (unfre d, S)) Q := h
    refine h'.at (G' := { G' with Rs := G.Rs }) hS st w2 (unfre_ok (rf.mono m) fun a ha => ⟨fun z => ?_, free_not_rs w (fr a ha)⟩)
    obtain ⟨i, es, e, rfl⟩ := z
    exact w'.nrs i es e ((rs _).mpr (.inr ha))
/-- a call's result, its new lists taken into the store -/
theorem PostR.thaw {r : Option (D × Store)} {Q : V → Hp → Prop} (w : Wf K G) (h : PostE K G (match r with
      | some (d, S) => some (thaw d S)
      | none => none) Q) : PostR K G r Q := by
  cases r with
  | none =>
    obtain ⟨_, _, e, _⟩ := h
    cases e
  | some p =>
    obtain ⟨d, S⟩ := p
    refine ⟨d, S, rfl, fun G' v F hS st rs w' rf nd fr => ?_⟩
    subst hS
    obtain ⟨G2, e2, g2, r2⟩ := thaw_ok w' rf nd fun a ha => (rs a).mpr (.inr ha)
    have h' : PostE K G (some ((Sw.thaw d G'.S).1, (Sw.thaw d G'.S).2)) Q := h
    rw [← e2] at h'
    have st2 : Stp G G2 := by
      refine ⟨Nat.le_trans st.len g2.len, fun i hi => (g2.beta i (Nat.lt_of_lt_of_le hi st.len)).trans (st.beta i hi), fun a o q n => ?_, fun a o q => ?_, fun i h1 h2 => ?_, ?_, fun n hn bd i c hi e => ?_⟩
      · obtain ⟨q1, n1⟩ := st.keep a o q n
        refine ⟨by rw [g2.mono.H]; exact q1, fun z => ?_⟩
        rcases (g2.own a).mp z with z | z
        · exact n1 z
        · rw [fr a z] at q
          cases q
      · obtain ⟨o', q1⟩ := st.dom a o q
        exact ⟨o', by rw [g2.mono.H]; exact q1⟩
      · by_cases hi : i < G'.S.length
        · rw [g2.beta i hi]
          exact st.new i h1 hi
        · exact fr _ (g2.new i (by omega) h2)
      · funext a
        refine propext ⟨fun z => ?_, fun z => ?_⟩
        · obtain ⟨z1, z2⟩ := (g2.rs a).mp z
          rcases (rs a).mp z1 with q | q
          · exact q
          · exact (z2 q).elim
        · refine (g2.rs a).mpr ⟨(rs a).mpr (.inl z), fun q => ?_⟩
          exact free_not_rs w (fr a q) z
      · have hl : i < G'.S.length := by
          have := st.len
          have h3 : G.S.length ≤ G'.S.length := this
          omega
        rw [g2.old i hl] at e
        exact st.bd n hn bd i c hi e
    have := h'.at (G' := G2) rfl st2 g2.wf r2
    rw [g2.mono.H] at this
    exact this
end
end Sw

set_option Elab.async false
set_option linter.all false
set_option maxRecDepth 100000
set_option maxHeartbeats 4000000
namespace Sw
open PySem PySem.Spec PyProof.Rows L2

/-! ### where an expression stands -/
def CallOk (c : Fns) (f : Nat) (x : Str) (X : Cx) : Prop := ∃ (fa : Addr) (fd : FuncData) (ps : List Str) (kk : Nat), X.mg x = some (.ref fa) ∧ PySem.W.keepIn X.K (.ref fa) = true ∧ Binds X.K fd ps [] ∧ Room kk X.A ∧
  FnOk X.prog X.w X.K X.mg X.base CX0 kk fa fd ps (spOf X.K c f ps.length) ∧ ∀ ds S r, c f ds S = some r → ds.length = ps.length
def biNames : List Str := ["len", "abs", "int", "max", "min", "list", "tuple", "sum", "any", "all", "isinstance", "range", "enumerate", "zip", "reversed", "bool", "str"]
/-- what the text's names tell: the defs, the constants -/
structure Tab where
  fn : Nat → Option Str
  gl : Str → Option D
def GlobOk (K : PySem.W.Frag) (mg : Str → Option Value) (x : Str) (d : D) : Prop := ∃ u v, mg x = some u ∧ RelV v u ∧ ∀ G, Rep K G d v
structure Ok (c : Fns) (T : Tab) (N : List Str) (sc : Scope) (X : Cx) : Prop where
  hN : X.N = N
  hsc : X.env.scope = sc
  nd : N.Nodup
  calm : X.calm = true
  hu : X.A.units + 64 < cLine
  bl : ∀ x ∈ biNames, X.mg x = none
  call : ∀ f x, T.fn f = some x → CallOk c f x X
  gl : ∀ x d, T.gl x = some d → GlobOk X.K X.mg x d

/-- which names may be stored there -/
def OkL (sc lsc : Scope) (X : Cx) : Prop := ∀ x, (lsc.names.lookup x = some .local ∨ lsc.names.lookup x = some .cell) → Loc sc x ∧ (X.fn x = true ∨ sc.names.lookup x = some .local)
/-! ### what it is that an expression of the text is sound -/
def SE (X : Cx) (e : Expr) (f : Env → Store → Option (D × Store)) : Prop :=
  ∃ t, PE X e t ∧ ∀ ρ G σ Q, Wf X.K G → REnv X.K G ρ σ → PostE X.K G (f ρ G.S) Q → t σ G.H Q
def ST (X : Cx) (e : Expr) (f : Env → Store → Option (Bool × Store)) : Prop :=
  ∃ t, PT X e t ∧ ∀ ρ G σ Q, Wf X.K G → REnv X.K G ρ σ → PostT X.K G (f ρ G.S) Q → t σ G.H Q
def SW (X : Cx) (e : Expr) (f : Env → Store → Option (Bool × Store)) : Prop :=
  ∃ t, PW X e t ∧ ∀ ρ G σ Q, Wf X.K G → REnv X.K G ρ σ → PostT X.K G (f ρ G.S) Q → t σ G.H Q
def SO (X : Cx) (e : Option Expr) (f : Env → Store → Option (Option Int × Store)) : Prop :=
  ∃ t, PO X e t ∧ ∀ ρ G σ Q, Wf X.K G → REnv X.K G ρ σ → PostO X.K G (f ρ G.S) Q → t σ G.H Q
def SA (X : Cx) (es : List Expr) (f : Env → Store → Option (List D × Store)) : Prop :=
  ∃ t, PA X es t ∧ ∀ ρ G σ Q, Wf X.K G → REnv X.K G ρ σ → PostA X.K G (f ρ G.S) Q → t σ G.H Q

section
variable {X : Cx} {c : Fns} {T : Tab} {N : List Str} {sc : Scope} {K : PySem.W.Frag} {G : Gh}
theorem PostE.no {Q : V → Hp → Prop} (h : PostE K G none Q) {P : Prop} : P := by
  obtain ⟨_, _, e, _⟩ := h
  cases e
theorem PostT.no {Q : Bool → Hp → Prop} (h : PostT K G none Q) {P : Prop} : P := by
  obtain ⟨_, _, e, _⟩ := h
  cases e
/-- a part is walked -/
theorem SE.go {e : Expr} {f : Env → Store → Option (D × Store)} {t : TE} (ht : ∀ ρ G σ Q, Wf X.K G → REnv X.K G ρ σ → PostE X.K G (f ρ G.S) Q → t σ G.H Q) {ρ : Env} {G : Gh} {σ : L2.St} {Q : VK} {d : D} {S1 : Store}
    (w : Wf X.K G) (en : REnv X.K G ρ σ) (e1 : f ρ G.S = some (d, S1)) (k : ∀ G1 v, G1.S = S1 → Stp G G1 → Wf X.K G1 → REnv X.K G1 ρ σ → Rep X.K G1 d v → Q v G1.H) : t σ G.H Q :=
  ht ρ G σ Q w en ⟨d, S1, e1, fun G1 v hS st w1 r => k G1 v hS st w1 (en.step st w) r⟩
theorem ST.go {f : Env → Store → Option (Bool × Store)} {t : TT} (ht : ∀ ρ G σ Q, Wf X.K G → REnv X.K G ρ σ → PostT X.K G (f ρ G.S) Q → t σ G.H Q) {ρ : Env} {G : Gh} {σ : L2.St} {Q : Bool → Hp → Prop} {d : Bool} {S1 : Store}
    (w : Wf X.K G) (en : REnv X.K G ρ σ) (e1 : f ρ G.S = some (d, S1)) (k : ∀ G1, G1.S = S1 → Stp G G1 → Wf X.K G1 → REnv X.K G1 ρ σ → Q d G1.H) : t σ G.H Q :=
  ht ρ G σ Q w en ⟨d, S1, e1, fun G1 hS st w1 => k G1 hS st w1 (en.step st w)⟩

/-! ### names, constants -/
def isVis (sc : Scope) (x : Str) : Bool := match sc.names.lookup x with
  | some .local => true
  | some .cell => true
  | some .free => true
  | _ => false
def isLoc (sc : Scope) (x : Str) : Bool := match sc.names.lookup x with
  | some .local => true
  | some .cell => true
  | _ => false
def isLocal (sc : Scope) (x : Str) : Bool := match sc.names.lookup x with
  | some .local => true
  | _ => false
def isGl (sc : Scope) (x : Str) : Bool := match sc.names.lookup x with
  | some .globalImplicit => true
  | _ => false
theorem vis_of {x : Str} (h : isVis sc x = true) : Vis sc x := by
  unfold isVis at h
  split at h
  · exact .inl (by assumption)
  · exact .inr (.inl (by assumption))
  · exact .inr (.inr (by assumption))
  · cases h
theorem loc_of {x : Str} (h : isLoc sc x = true) : Loc sc x := by
  unfold isLoc at h
  split at h
  · exact .inl (by assumption)
  · exact .inr (by assumption)
  · cases h
theorem local_of {x : Str} (h : isLocal sc x = true) : sc.names.lookup x = some .local := by
  unfold isLocal at h
  split at h
  · assumption
  · cases h
theorem gl_of (ok : Ok c T N sc X) {x : Str} (h : isGl sc x = true) : Gl X x := by
  unfold isGl at h
  split at h
  · show X.env.scope.names.lookup x = some .globalImplicit
    rw [ok.hsc]
    assumption
  · cases h
theorem se_var (ok : Ok c T N sc X) {i : Nat} {x : Str} {pos : Pos} (hi : N[i]? = some x) (hv : isVis sc x = true) (hd : (x == ("__debug__" : Str)) = false) (hcd : (x == ("__classdict__" : Str)) = false) : SE X (.Name x pos) (evalE c (.var i)) := by
  refine ⟨_, pe_var (i := i) (by rw [ok.hN]; exact hi) (by rw [ok.hsc]; exact vis_of hv) hd hcd, fun ρ G σ Q w en h => ?_⟩
  rw [evalE] at h
  rcases e : ρ[i]? with _ | (_ | d)
  · rw [e] at h; exact h.no
  · rw [e] at h; exact h.no
  · rw [e] at h
    obtain ⟨v, h1, h2⟩ := en.get i d e
    exact ⟨v, h1, h.now w h2⟩
theorem se_glob (ok : Ok c T N sc X) {x : Str} {d : D} {pos : Pos} (hg : isGl sc x = true) (ht : T.gl x = some d) (hd : (x == ("__debug__" : Str)) = false) : SE X (.Name x pos) (evalE c (.glob x d)) := by
  obtain ⟨u, v, hm, r, h⟩ := ok.gl x d ht
  refine ⟨_, pe_glob (gl_of ok hg) hm r hd, fun ρ G σ Q w en q => ?_⟩
  rw [evalE] at q
  exact q.now w (h G)
theorem se_stk {e : Expr} : SE X e (evalE c .stk) := ⟨fun _ _ _ => False, ⟨fun _ _ _ _ _ _ h => h.elim⟩, fun ρ G σ Q w en h => by
  rw [evalE] at h
  exact h.no⟩
theorem st_stk {e : Expr} : ST X e (evalT c .stk) := ⟨fun _ _ _ => False, ⟨fun _ _ _ _ _ _ h => h.elim⟩, fun ρ G σ Q w en h => by
  simp only [evalT, evalE, truO] at h
  exact h.no⟩
theorem se_cI {i : Int} {j : Nat} {pos : Pos} : SE X (.Constant (.int i) j pos) (evalE c (.cI i)) :=
  ⟨_, pe_int, fun ρ G σ Q w en h => by rw [evalE] at h; exact h.now w (.int i)⟩
theorem se_cS {i : Str} {j : Nat} {pos : Pos} : SE X (.Constant (.str i) j pos) (evalE c (.cS i)) :=
  ⟨_, pe_str, fun ρ G σ Q w en h => by rw [evalE] at h; exact h.now w (.str i)⟩
theorem se_cB {i : Bool} {j : Nat} {pos : Pos} : SE X (.Constant (.bool i) j pos) (evalE c (.cB i)) :=
  ⟨_, pe_bl, fun ρ G σ Q w en h => by rw [evalE] at h; exact h.now w (.bl i)⟩
theorem se_cN {j : Nat} {pos : Pos} : SE X (.Constant .none j pos) (evalE c .cN) :=
  ⟨_, pe_non, fun ρ G σ Q w en h => by rw [evalE] at h; exact h.now w .non⟩

/-! ### operators -/
def opB : Bop → Operator
  | .add => .Add
  | .sub => .Sub
  | .mul => .Mult
  | .fdiv => .FloorDiv
  | .mod => .Mod
  | .pow => .Pow
/-- the readings of an operator -/
def BinOk (X : Cx) (o : Bool) (op : Bop) (r : R2) : Prop := ∀ G x y v u Q, Wf X.K G → Rep X.K G x v → Rep X.K G y u → PostE X.K G (binD o op x y G.S) Q → r v u G.H Q
theorem bin_split {K : PySem.W.Frag} {G : Gh} {o : Bool} {op : Bop} {x y : D} {v u : V} {Q : VK} (w : Wf K G) (rx : Rep K G x v) (ry : Rep K G y u) (h : PostE K G (binD o op x y G.S) Q) :
    (∃ i j k, v = .int i ∧ u = .int j ∧ numBin op i j = some k ∧ Q (.int k) G.H) ∨
    (∃ i j, v = .str i ∧ u = .str j ∧ op = .add ∧ i.length + j.length ≤ sizeLine ∧ Q (.str (i ++ j)) G.H) ∨
    (∃ a b xs ys, v = .ref a ∧ u = .ref b ∧ op = .add ∧ SqT K G.H a xs ∧ SqT K G.H b ys ∧ xs ≠ [] ∧ ys ≠ [] ∧ xs.length + ys.length ≤ sizeLine ∧ ∀ p, G.H p = none → Q (.ref p) (upd G.H p (.tup (xs ++ ys)))) ∨
    (∃ l k xs, v = .ref l ∧ u = .int k ∧ op = .mul ∧ G.H l = some (.lst xs) ∧ -(2 ^ 63) ≤ k ∧ k < 2 ^ 63 ∧ xs.length * k.toNat ≤ sizeLine ∧ ∀ p, G.H p = none → Q (.ref p) (upd G.H p (.lst (List.replicate k.toNat xs).flatten))) ∨
    (∃ l b xs zs, v = .ref l ∧ u = .ref b ∧ op = .add ∧ G.H l = some (.lst xs) ∧ G.H b = some (.lst zs) ∧ xs.length + zs.length ≤ sizeLine ∧ ∀ p, G.H p = none → Q (.ref p) (upd G.H p (.lst (xs ++ zs)))) := by
  unfold binD at h
  split at h
  · rename_i i j
    cases rx
    cases ry
    split at h
    · rename_i k e
      exact .inl ⟨i, j, k, rfl, rfl, e, h.now w (.int k)⟩
    · exact h.no
  · rename_i i j
    cases rx
    cases ry
    split at h
    · rename_i z
      exact .inr (.inl ⟨i, j, rfl, rfl, z.1, z.2, h.now w (.str _)⟩)
    · exact h.no
  · rename_i xs ys
    cases rx with
    | tup h1 r1 =>
      cases ry with
      | tup h2 r2 =>
        split at h
        · rename_i z
          obtain ⟨z1, z2, z3, z4⟩ := z
          rename_i _ vs _ us
          refine .inr (.inr (.inl ⟨_, _, vs, us, rfl, rfl, z1, h1.sq, h2.sq, ?_, ?_, ?_, fun p hp => h.tup w (r1.append r2) hp⟩))
          · intro q
            subst q
            cases r1
            exact z2 rfl
          · intro q
            subst q
            cases r2
            exact z3 rfl
          · rw [← r1.length, ← r2.length]
            exact z4
        · exact h.no
  · rename_i k _
    cases ry
    split at h
    · rename_i xs e
      split at h
      · rename_i z
        obtain ⟨z1, z2, z3, z4⟩ := z
        obtain ⟨a, vs, rfl, h1, r1⟩ := rx.seqL w e
        exact .inr (.inr (.inr (.inl ⟨a, k, vs, rfl, rfl, z1, h1, z2, z3, by rw [← r1.length]; exact z4, fun p hp => h.mk w (r1.rep _) hp⟩)))
      · exact h.no
    · exact h.no
  · split at h
    · rename_i xs ys e1 e2
      split at h
      · rename_i z
        obtain ⟨a, vs, rfl, h1, r1⟩ := rx.seqL w e1
        obtain ⟨b, us, rfl, h2, r2⟩ := ry.seqL w e2
        exact .inr (.inr (.inr (.inr ⟨a, b, vs, us, rfl, rfl, z.1, h1, h2, by rw [← r1.length, ← r2.length]; exact z.2, fun p hp => h.mk w (r1.append r2) hp⟩)))
      · exact h.no
    · exact h.no
theorem bin_ok (o : Bool) (op : Bop) : ∃ r, OpR X (binaryOp (opB op)) r ∧ BinOk X o op r := by
  cases op with
  | add =>
    refine ⟨_, op_add.or (op_add_str.or (op_cat.or op_catT)), fun G x y v u Q w rx ry h => ?_⟩
    rcases bin_split w rx ry h with ⟨i, j, k, rfl, rfl, e, q⟩ | ⟨i, j, rfl, rfl, _, e, q⟩ | ⟨a, b, xs, ys, rfl, rfl, _, h1, h2, n1, n2, e, q⟩ | ⟨_, _, _, _, _, z, _⟩ | ⟨l, b, xs, zs, rfl, rfl, _, h1, h2, e, q⟩
    · cases e
      exact .inl ⟨i, j, rfl, rfl, q⟩
    · exact .inr (.inl ⟨i, j, rfl, rfl, e, q⟩)
    · exact .inr (.inr (.inr ⟨a, b, xs, ys, rfl, rfl, h1, h2, n1, e, fun z => (n2 z).elim, fun _ => q⟩))
    · cases z
    · exact .inr (.inr (.inl ⟨l, b, xs, zs, rfl, rfl, h1, h2, e, q⟩))
  | mul =>
    refine ⟨_, op_mul.or op_rep, fun G x y v u Q w rx ry h => ?_⟩
    rcases bin_split w rx ry h with ⟨i, j, k, rfl, rfl, e, q⟩ | ⟨i, j, rfl, rfl, z, _⟩ | ⟨a, b, xs, ys, rfl, rfl, z, _⟩ | ⟨l, k, xs, rfl, rfl, _, h1, h2, h3, h4, q⟩ | ⟨l, b, xs, zs, rfl, rfl, z, _⟩
    · simp only [numBin] at e
      split at e
      · rename_i z
        cases e
        exact .inl ⟨i, j, rfl, rfl, z, q⟩
      · cases e
    · cases z
    · cases z
    · exact .inr ⟨l, k, xs, rfl, rfl, h1, h2, h3, h4, q⟩
    · cases z
  | sub =>
    refine ⟨_, op_sub, fun G x y v u Q w rx ry h => ?_⟩
    rcases bin_split w rx ry h with ⟨i, j, k, rfl, rfl, e, q⟩ | ⟨i, j, rfl, rfl, z, _⟩ | ⟨a, b, xs, ys, rfl, rfl, z, _⟩ | ⟨_, _, _, _, _, z, _⟩ | ⟨l, b, xs, zs, rfl, rfl, z, _⟩
    · cases e
      exact ⟨i, j, rfl, rfl, q⟩
    all_goals cases z
  | fdiv =>
    refine ⟨_, op_fdivN, fun G x y v u Q w rx ry h => ?_⟩
    rcases bin_split w rx ry h with ⟨i, j, k, rfl, rfl, e, q⟩ | ⟨i, j, rfl, rfl, z, _⟩ | ⟨a, b, xs, ys, rfl, rfl, z, _⟩ | ⟨_, _, _, _, _, z, _⟩ | ⟨l, b, xs, zs, rfl, rfl, z, _⟩
    · simp only [numBin] at e
      split at e
      · rename_i z
        cases e
        exact ⟨i, j, rfl, rfl, z, q⟩
      · cases e
    all_goals cases z
  | mod =>
    refine ⟨_, op_modN, fun G x y v u Q w rx ry h => ?_⟩
    rcases bin_split w rx ry h with ⟨i, j, k, rfl, rfl, e, q⟩ | ⟨i, j, rfl, rfl, z, _⟩ | ⟨a, b, xs, ys, rfl, rfl, z, _⟩ | ⟨_, _, _, _, _, z, _⟩ | ⟨l, b, xs, zs, rfl, rfl, z, _⟩
    · simp only [numBin] at e
      split at e
      · rename_i z
        cases e
        exact ⟨i, j, rfl, rfl, z, q⟩
      · cases e
    all_goals cases z
  | pow =>
    refine ⟨_, op_pow, fun G x y v u Q w rx ry h => ?_⟩
    rcases bin_split w rx ry h with ⟨i, j, k, rfl, rfl, e, q⟩ | ⟨i, j, rfl, rfl, z, _⟩ | ⟨a, b, xs, ys, rfl, rfl, z, _⟩ | ⟨_, _, _, _, _, z, _⟩ | ⟨l, b, xs, zs, rfl, rfl, z, _⟩
    · simp only [numBin] at e
      split at e
      · rename_i z
        cases e
        exact ⟨i, j, rfl, rfl, z, q⟩
      · cases e
    all_goals cases z
theorem se_bin {a b : Expr} {ea eb : E} {o : Bool} {op : Bop} {pos : Pos} (ha : SE X a (evalE c ea)) (hb : SE X b (evalE c eb)) : SE X (.BinOp a (opB op) b pos) (evalE c (.bin o op ea eb)) := by
  obtain ⟨ta, pa, ka⟩ := ha
  obtain ⟨tb, pb, kb⟩ := hb
  obtain ⟨r, hr, kr⟩ := bin_ok (X := X) o op
  refine ⟨_, pe_op hr pa pb, fun ρ G σ Q w en h => ?_⟩
  rw [evalE] at h
  split at h; rotate_left; exact h.no
  rename_i x S1 e1
  split at h; rotate_left; exact h.no
  rename_i y S2 e2
  refine SE.go (e := a) ka w en e1 fun G1 v hS st w1 en1 rx => ?_
  subst hS
  refine SE.go (e := b) kb w1 en1 e2 fun G2 u hS2 st2 w2 en2 ry => ?_
  subst hS2
  exact kr G2 x y v u Q w2 (rx.step st2 w1) ry ((h.mono st).mono st2)
theorem se_neg {a : Expr} {ea : E} {pos : Pos} (ha : SE X a (evalE c ea)) : SE X (.UnaryOp .USub a pos) (evalE c (.neg ea)) := by
  obtain ⟨ta, pa, ka⟩ := ha
  refine ⟨_, pe_un un_neg pa, fun ρ G σ Q w en h => ?_⟩
  rw [evalE] at h
  split at h
  · rename_i i S1 e1
    refine SE.go (e := a) ka w en e1 fun G1 v hS st w1 en1 rx => ?_
    subst hS
    cases rx
    exact ⟨i, rfl, (h.mono st).now w1 (.int _)⟩
  · exact h.no

/-! ### comparisons -/
def opC : Cop → CmpOp
  | .eq => .Eq
  | .ne => .NotEq
  | .lt => .Lt
  | .le => .LtE
  | .gt => .Gt
  | .ge => .GtE
  | .isN => .Is
  | .isNN => .IsNot
  | .inn => .In
  | .nin => .NotIn
theorem datA_ok {f : D → Option PyData} (hf : ∀ d x v, Rep K G d v → f d = some x → Dp K G.H v x) : ∀ {ds : List D} {xs : List PyData} {vs : List V}, Reps K G ds vs → datA f ds = some xs → DpAll K G.H vs xs
  | _, _, _, .nil, h => by
    cases h
    exact .nil
  | d :: ds, xs, _, .cons r t, h => by
    unfold datA at h
    cases e : f d with
    | none => rw [e] at h; cases h
    | some x =>
      rw [e] at h
      cases e2 : datA f ds with
      | none => rw [e2] at h; cases h
      | some ys =>
        rw [e2] at h
        cases h
        exact .cons (hf d x _ r e) (datA_ok hf t e2)
theorem dat_ok (w : Wf K G) : ∀ (n : Nat) (d : D) (x : PyData) (v : V), Rep K G d v → dat n G.S d = some x → Dp K G.H v x
  | 0, d, x, v, r, h => by
    unfold dat at h
    cases h
  | n + 1, d, x, v, r, h => by
    cases r with
    | non => simp only [dat] at h; cases h; exact .non
    | bl b => simp only [dat] at h; cases h; exact .bl b
    | int i => simp only [dat] at h; cases h; exact .int i
    | str s => simp only [dat] at h; cases h; exact .str s
    | @lst a vs ds h1 h2 h3 t =>
      simp only [dat] at h
      cases e : datA (dat n G.S) ds with
      | none => rw [e] at h; cases h
      | some ys =>
        rw [e] at h
        cases h
        exact .lst (SqL.of h1) (datA_ok (dat_ok w n) t e)
    | @tup a vs ds h1 t =>
      simp only [dat] at h
      cases e : datA (dat n G.S) ds with
      | none => rw [e] at h; cases h
      | some ys =>
        rw [e] at h
        cases h
        exact .tup h1.sq (datA_ok (dat_ok w n) t e)
    | @box i hi =>
      simp only [dat] at h
      cases eb : getBox G.S i with
      | none => rw [eb] at h; cases h
      | some ds =>
        rw [eb] at h
        obtain ⟨vs, h1, t⟩ := w.box eb
        have h : (datA (dat n G.S) ds).map PyData.list = some x := h
        cases e : datA (dat n G.S) ds with
        | none => rw [e] at h; cases h
        | some ys =>
          rw [e] at h
          cases h
          exact .lst (SqL.of h1) (datA_ok (dat_ok w n) t e)
    | scr h1 => simp only [dat] at h; cases h
theorem eqD_ok (w : Wf K G) {x y : D} {v u : V} {k : Bool} (rx : Rep K G x v) (ry : Rep K G y u) (h : eqD G.S x y = some k) : ∃ d e, Dp K G.H v d ∧ Dp K G.H u e ∧ SeqAt.shaped d = true ∧ SeqAt.shaped e = true ∧ PyData.eqv d e = k := by
  unfold eqD at h
  split at h
  · rename_i d e e1 e2
    split at h
    · rename_i z
      cases h
      exact ⟨d, e, dat_ok w _ _ _ _ rx e1, dat_ok w _ _ _ _ ry e2, z.1, z.2, rfl⟩
    · cases h
  · cases h
theorem inD_ok (w : Wf K G) {x y : D} {v u : V} {k : Bool} (rx : Rep K G x v) (ry : Rep K G y u) (h : inD G.S x y = some k) : ∃ p xs, u = .ref p ∧ (SqL K G.H p xs ∨ SqT K G.H p xs) ∧ flatV v = true ∧ xs.all flatV = true ∧ inV v xs = k := by
  unfold inD at h
  split at h
  · rename_i xv ds e1 e2
    split at h
    · rename_i xs e3
      cases h
      obtain ⟨a, vs, rfl, hq, rs⟩ := ry.seqR w e2
      have e4 := rs.flats e3
      subst e4
      have e5 := rx.scal e1
      subst e5
      exact ⟨a, vs, rfl, hq, flat_flatV e1, flats_flatV e3, rfl⟩
    · cases h
  · cases h
def CmpOk (X : Cx) (op : Cop) (r : R2) : Prop := ∀ G x y v u (Q : VK) k, Wf X.K G → Rep X.K G x v → Rep X.K G y u → cmpD G.S op x y = some k → Q (.bl k) G.H → r v u G.H Q
theorem cmpD_ints {S : Store} {op : Cop} {x y : D} {k : Bool} (h : cmpD S op x y = some k) (hop : op = .lt ∨ op = .le ∨ op = .gt ∨ op = .ge) : ∃ i j, x = .int i ∧ y = .int j := by
  rcases hop with rfl | rfl | rfl | rfl <;> (cases x <;> first | (cases y <;> first | exact ⟨_, _, rfl, rfl⟩ | cases h) | cases h)
theorem cmp_ok (hu : X.A.units + 64 < cLine) (op : Cop) : ∃ r, OpR X (compareOp (opC op)) r ∧ CmpOk X op r := by
  cases op with
  | eq =>
    refine ⟨_, op_eqD hu, fun G x y v u Q k w rx ry h q => ?_⟩
    obtain ⟨d, e, h1, h2, h3, h4, h5⟩ := eqD_ok w rx ry h
    exact ⟨d, e, h1, h2, h3, h4, by rw [h5]; exact q⟩
  | ne =>
    refine ⟨_, op_neD hu, fun G x y v u Q k w rx ry h q => ?_⟩
    have h : (eqD G.S x y).map (!·) = some k := h
    cases e0 : eqD G.S x y with
    | none => rw [e0] at h; cases h
    | some k0 =>
      rw [e0] at h
      cases h
      obtain ⟨d, e, h1, h2, h3, h4, h5⟩ := eqD_ok w rx ry e0
      exact ⟨d, e, h1, h2, h3, h4, by rw [h5]; exact q⟩
  | lt =>
    refine ⟨_, op_lt, fun G x y v u Q k w rx ry h q => ?_⟩
    obtain ⟨i, j, rfl, rfl⟩ := cmpD_ints h (by simp)
    cases rx
    cases ry
    cases h
    exact ⟨i, j, rfl, rfl, q⟩
  | le =>
    refine ⟨_, op_le, fun G x y v u Q k w rx ry h q => ?_⟩
    obtain ⟨i, j, rfl, rfl⟩ := cmpD_ints h (by simp)
    cases rx
    cases ry
    cases h
    exact ⟨i, j, rfl, rfl, q⟩
  | gt =>
    refine ⟨_, op_gt, fun G x y v u Q k w rx ry h q => ?_⟩
    obtain ⟨i, j, rfl, rfl⟩ := cmpD_ints h (by simp)
    cases rx
    cases ry
    cases h
    exact ⟨i, j, rfl, rfl, q⟩
  | ge =>
    refine ⟨_, op_ge, fun G x y v u Q k w rx ry h q => ?_⟩
    obtain ⟨i, j, rfl, rfl⟩ := cmpD_ints h (by simp)
    cases rx
    cases ry
    cases h
    exact ⟨i, j, rfl, rfl, q⟩
  | isN =>
    refine ⟨_, op_isN, fun G x y v u Q k w rx ry h q => ?_⟩
    cases ry with
    | non =>
      have e : isNonD x = k := by cases x <;> (cases h; rfl)
      exact ⟨rfl, by rw [rx.isNon, e]; exact q⟩
    | _ => cases x <;> cases h
  | isNN =>
    refine ⟨_, op_notN, fun G x y v u Q k w rx ry h q => ?_⟩
    cases ry with
    | non =>
      have e : (!isNonD x) = k := by cases x <;> (cases h; rfl)
      exact ⟨rfl, by rw [rx.isNon, e]; exact q⟩
    | _ => cases x <;> cases h
  | inn =>
    refine ⟨_, op_in_seq, fun G x y v u Q k w rx ry h q => ?_⟩
    obtain ⟨p, xs, rfl, h1, h2, h3, h4⟩ := inD_ok w rx ry h
    exact ⟨p, xs, rfl, h1, h2, h3, by rw [if_neg Bool.false_ne_true, h4]; exact q⟩
  | nin =>
    refine ⟨_, op_notIn_seq, fun G x y v u Q k w rx ry h q => ?_⟩
    have h : (inD G.S x y).map (!·) = some k := h
    cases e0 : inD G.S x y with
    | none => rw [e0] at h; cases h
    | some k0 =>
      rw [e0] at h
      cases h
      obtain ⟨p, xs, rfl, h1, h2, h3, h4⟩ := inD_ok w rx ry e0
      exact ⟨p, xs, rfl, h1, h2, h3, by rw [if_pos rfl, h4]; exact q⟩
theorem PostE.map {r : Option Bool} {S : Store} {Q : V → Hp → Prop} (h : PostE K G (r.map fun k => (D.bl k, S)) Q) : ∃ k, r = some k ∧ PostE K G (some (.bl k, S)) Q := by
  cases r with
  | none => exact h.no
  | some k => exact ⟨k, rfl, h⟩
theorem se_cmp (ok : Ok c T N sc X) {a b : Expr} {ea eb : E} {op : Cop} {pos : Pos} (ha : SE X a (evalE c ea)) (hb : SE X b (evalE c eb)) (hm : behindInMarks (opC op) b = false) : SE X (.Compare a [opC op] [b] pos) (evalE c (.cmp op ea eb)) := by
  obtain ⟨ta, pa, ka⟩ := ha
  obtain ⟨tb, pb, kb⟩ := hb
  obtain ⟨r, hr, kr⟩ := cmp_ok (X := X) ok.hu op
  refine ⟨_, pe_cmpR hr pa pb hm, fun ρ G σ Q w en h => ?_⟩
  rw [evalE] at h
  split at h; rotate_left; exact h.no
  rename_i x S1 e1
  split at h; rotate_left; exact h.no
  rename_i y S2 e2
  obtain ⟨k, ek, h⟩ := h.map
  refine SE.go (e := a) ka w en e1 fun G1 v hS st w1 en1 rx => ?_
  subst hS
  refine SE.go (e := b) kb w1 en1 e2 fun G2 u hS2 st2 w2 en2 ry => ?_
  subst hS2
  exact kr G2 x y v u Q k w2 (rx.step st2 w1) ry ek (((h.mono st).mono st2).now w2 (.bl k))
/-- a bool's expression as a test -/
theorem st_cmp (ok : Ok c T N sc X) {a b : Expr} {ea eb : E} {op : Cop} {pos : Pos} (ha : SE X a (evalE c ea)) (hb : SE X b (evalE c eb)) (hm : behindInMarks (opC op) b = false) : ST X (.Compare a [opC op] [b] pos) (evalT c (.cmp op ea eb)) := by
  obtain ⟨ta, pa, ka⟩ := ha
  obtain ⟨tb, pb, kb⟩ := hb
  obtain ⟨r, hr, kr⟩ := cmp_ok (X := X) ok.hu op
  refine ⟨_, pt_cmpR hr pa pb hm, fun ρ G σ Q w en h => ?_⟩
  simp only [evalT] at h
  unfold truO at h
  split at h; rotate_left; exact h.no
  rename_i d S0 e0
  rw [evalE] at e0
  rcases e1 : evalE c ea ρ G.S with _ | ⟨x, S1⟩
  · rw [e1] at e0; cases e0
  rw [e1] at e0
  rcases e2 : evalE c eb ρ S1 with _ | ⟨y, S2⟩
  · simp only [e2] at e0; cases e0
  simp only [e2] at e0
  rcases ek : cmpD S2 op x y with _ | k
  · rw [ek] at e0; cases e0
  rw [ek] at e0
  cases e0
  have h : PostT X.K G (some (k, _)) Q := h
  refine SE.go (e := a) ka w en e1 fun G1 v hS st w1 en1 rx => ?_
  subst hS
  refine SE.go (e := b) kb w1 en1 e2 fun G2 u hS2 st2 w2 en2 ry => ?_
  subst hS2
  refine kr G2 x y v u _ k w2 (rx.step st2 w1) ry ek ⟨k, rfl, ?_⟩
  obtain ⟨b', S', e, q⟩ := h
  cases e
  exact q G2 rfl (st.trans st2) w2
end
end Sw

set_option Elab.async false
set_option linter.all false
set_option maxRecDepth 100000
set_option maxHeartbeats 4000000
namespace Sw
open PySem PySem.Spec PyProof.Rows L2

section
variable {X : Cx} {c : Fns} {T : Tab} {N : List Str} {sc : Scope} {K : PySem.W.Frag} {G : Gh}
theorem PostT.now {b : Bool} {Q : Bool → Hp → Prop} (h : PostT K G (some (b, G.S)) Q) (w : Wf K G) : Q b G.H := by
  obtain ⟨d', S', e, q⟩ := h
  cases e
  exact q G rfl (.refl G) w
theorem se_chain (ok : Ok c T N sc X) {a b d : Expr} {ea eb ed : E} {o1 o2 : Cop} {pos : Pos} (ha : SE X a (evalE c ea)) (hb : SE X b (evalE c eb)) (hd : SE X d (evalE c ed)) (hm : behindInMarks (opC o2) d = false) :
    SE X (.Compare a [opC o1, opC o2] [b, d] pos) (evalE c (.chain o1 o2 ea eb ed)) := by
  obtain ⟨ta, pa, ka⟩ := ha
  obtain ⟨tb, pb, kb⟩ := hb
  obtain ⟨td, pd, kd⟩ := hd
  obtain ⟨r, hr, kr⟩ := cmp_ok (X := X) ok.hu o1
  obtain ⟨r', hr', kr'⟩ := cmp_ok (X := X) ok.hu o2
  refine ⟨_, pe_chain hr hr' pa pb pd (show behindInMarks (opC o2) d = false from hm), fun ρ G σ Q w en h => ?_⟩
  rw [evalE] at h
  split at h; rotate_left; exact h.no
  rename_i x S1 e1
  split at h; rotate_left; exact h.no
  rename_i y S2 e2
  refine SE.go (e := a) ka w en e1 fun G1 v hS st w1 en1 rx => ?_
  subst hS
  refine SE.go (e := b) kb w1 en1 e2 fun G2 u hS2 st2 w2 en2 ry => ?_
  subst hS2
  split at h
  · rename_i e3
    refine kr G2 x y v u _ true w2 (rx.step st2 w1) ry e3 ⟨true, rfl, ?_⟩
    rw [if_pos rfl]
    split at h; rotate_left; exact h.no
    rename_i z S3 e4
    obtain ⟨k, ek, h⟩ := h.map
    refine SE.go (e := d) kd w2 en2 e4 fun G3 u3 hS3 st3 w3 en3 rz => ?_
    subst hS3
    exact kr' G3 y z u u3 Q k w3 (ry.step st3 w2) rz ek ((((h.mono st).mono st2).mono st3).now w3 (.bl k))
  · rename_i e3
    refine kr G2 x y v u _ false w2 (rx.step st2 w1) ry e3 ⟨false, rfl, ?_⟩
    rw [if_neg Bool.false_ne_true]
    exact ((h.mono st).mono st2).now w2 (.bl false)
  · exact h.no
theorem st_chain (ok : Ok c T N sc X) {a b d : Expr} {ea eb ed : E} {o1 o2 : Cop} {pos : Pos} (ha : SE X a (evalE c ea)) (hb : SE X b (evalE c eb)) (hd : SE X d (evalE c ed)) (hm : behindInMarks (opC o2) d = false) :
    ST X (.Compare a [opC o1, opC o2] [b, d] pos) (evalT c (.chain o1 o2 ea eb ed)) := by
  obtain ⟨ta, pa, ka⟩ := ha
  obtain ⟨tb, pb, kb⟩ := hb
  obtain ⟨td, pd, kd⟩ := hd
  obtain ⟨r, hr, kr⟩ := cmp_ok (X := X) ok.hu o1
  obtain ⟨r', hr', kr'⟩ := cmp_ok (X := X) ok.hu o2
  refine ⟨_, pt_chain hr hr' pa pb pd (show behindInMarks (opC o2) d = false from hm), fun ρ G σ Q w en h => ?_⟩
  simp only [evalT] at h
  unfold truO at h
  split at h; rotate_left; exact h.no
  rename_i d0 S0 e0
  rw [evalE] at e0
  split at e0; rotate_left; cases e0
  rename_i x S1 e1
  split at e0; rotate_left; cases e0
  rename_i y S2 e2
  refine SE.go (e := a) ka w en e1 fun G1 v hS st w1 en1 rx => ?_
  subst hS
  refine SE.go (e := b) kb w1 en1 e2 fun G2 u hS2 st2 w2 en2 ry => ?_
  subst hS2
  split at e0
  · rename_i e3
    refine kr G2 x y v u _ true w2 (rx.step st2 w1) ry e3 ⟨true, rfl, ?_⟩
    rw [if_pos rfl]
    split at e0; rotate_left; cases e0
    rename_i z S3 e4
    rcases ek : cmpD S3 o2 y z with _ | k
    · rw [ek] at e0; cases e0
    rw [ek] at e0
    cases e0
    refine SE.go (e := d) kd w2 en2 e4 fun G3 u3 hS3 st3 w3 en3 rz => ?_
    subst hS3
    refine kr' G3 y z u u3 _ k w3 (ry.step st3 w2) rz ek ⟨k, rfl, ?_⟩
    have h : PostT X.K G (some (k, _)) Q := h
    exact (((h.mono st).mono st2).mono st3).now w3
  · rename_i e3
    cases e0
    refine kr G2 x y v u _ false w2 (rx.step st2 w1) ry e3 ⟨false, rfl, ?_⟩
    rw [if_neg Bool.false_ne_true]
    have h : PostT X.K G (some (false, _)) Q := h
    exact ⟨false, rfl, ((h.mono st).mono st2).now w2⟩
  · cases e0

/-! ### and, or, not, if -/
theorem st_none {e : Expr} {f : Env → Store → Option (Bool × Store)} (h : ∀ ρ S, f ρ S = none) : ST X e f :=
  ⟨fun _ _ _ => False, ⟨fun _ _ _ _ _ _ z => z.elim⟩, fun ρ G σ Q w en p => by rw [h] at p; exact p.no⟩
def notStar : Expr → Bool
  | .Starred _ _ => false
  | _ => true
theorem star_cons {e : Expr} (h : notStar e = true) (es : List Expr) (env : PySem.Env) : starEach (e :: es) env = (false, eval e env) :: starEach es env := by
  cases e <;> first | rfl | cases h
inductive AllE (X : Cx) (c : Fns) : Es → List Expr → Prop
  | nil : AllE X c .nil []
  | cons {e : E} {x : Expr} {es : Es} {xs : List Expr} : SE X x (evalE c e) → ST X x (evalT c e) → notStar x = true → AllE X c es xs → AllE X c (.cons e es) (x :: xs)
theorem AllE.star {es : Es} {xs : List Expr} (h : AllE X c es xs) (pos : Pos) (env : PySem.Env) : (backTo pos (starEach xs env)).any (·.1) = false := by
  induction h with
  | nil => rfl
  | cons _ _ hs _ ih =>
    rw [star_cons hs]
    show (false || (backTo pos (starEach _ env)).any (·.1)) = false
    rw [ih]
    rfl
theorem AllE.sa {es : Es} {xs : List Expr} (h : AllE X c es xs) : SA X xs (evalEs c es) := by
  induction h with
  | nil =>
    refine ⟨_, pa_nil, fun ρ G σ Q w en h => ?_⟩
    rw [evalEs] at h
    obtain ⟨ds, S', e, q⟩ := h
    cases e
    exact q G [] rfl (.refl G) w .nil
  | cons h1 _ hs _ ih =>
    obtain ⟨ta, pa, ka⟩ := h1
    obtain ⟨tb, pb, kb⟩ := ih
    refine ⟨_, pa_cons pa pb (star_cons hs _ _), fun ρ G σ Q w en h => ?_⟩
    rw [evalEs] at h
    obtain ⟨ds, S', e, q⟩ := h
    split at e; rotate_left; cases e
    rename_i d S1 e1
    split at e; rotate_left; cases e
    rename_i ds' S2 e2
    cases e
    refine SE.go (e := .Constant .none 0 ⟨0, 0, 0, 0⟩) ka w en e1 fun G1 v hS st w1 en1 rx => ?_
    subst hS
    refine kb ρ G1 σ _ w1 en1 ⟨ds', _, e2, fun G2 vs hS2 st2 w2 r2 => ?_⟩
    exact q G2 (v :: vs) hS2 (st.trans st2) w2 (.cons (rx.step st2 w1) r2)
/-- truth of a value -/
def plainT : Expr → Bool
  | .UnaryOp .Not _ _ => false
  | .BoolOp _ _ _ => false
  | .IfExp _ _ _ _ => false
  | .Compare _ _ _ _ => false
  | _ => true
theorem plainT_ok {a : Expr} (h : plainT a = true) (env : PySem.Env) (whole : Sem Value) : isTrue a env whole = (do let v ← whole; standAt a.pos; holding [v] (truthy v)) := by
  cases a with
  | UnaryOp op _ _ => cases op <;> first | rfl | cases h
  | BoolOp _ _ _ => cases h
  | IfExp _ _ _ _ => cases h
  | Compare _ _ _ _ => cases h
  | _ => rfl
theorem truD_ok (w : Wf K G) {d : D} {v : V} {k : Bool} (r : Rep K G d v) (h : truD G.S d = some k) : TruV K v G.H k := by
  cases r with
  | non => cases h; rfl
  | bl b => cases h; rfl
  | int i => cases h; rfl
  | str x =>
    simp only [truD] at h
    split at h
    · rename_i z
      cases h
      exact ⟨z, rfl⟩
    · cases h
  | lst h1 h2 h3 t =>
    cases h
    refine .inl ⟨_, SqL.of h1, ?_⟩
    cases t <;> rfl
  | tup h1 t =>
    cases h
    refine .inr (.inl ⟨_, h1.sq, ?_⟩)
    cases t <;> rfl
  | @box i hi =>
    simp only [truD, seqR] at h
    cases e : getBox G.S i with
    | none => rw [e] at h; cases h
    | some ds =>
      rw [e] at h
      cases h
      obtain ⟨vs, h1, t⟩ := w.box e
      refine .inl ⟨_, SqL.of h1, ?_⟩
      cases t <;> rfl
  | @scr a ns h1 =>
    cases h
    refine .inl ⟨_, h1.sq, ?_⟩
    cases ns <;> rfl
theorem AllE.andT {es : Es} {xs : List Expr} {pos : Pos} (h : AllE X c es xs) (hne : xs ≠ []) : SW X (.BoolOp .And xs pos) (evalAndT c es) := by
  induction h with
  | nil => exact absurd rfl hne
  | @cons e x es xs _ h1 _ h2 ih =>
    obtain ⟨ta, pa, ka⟩ := h1
    cases h2 with
    | nil =>
      refine ⟨_, pw_and1 pa, fun ρ G σ Q w en h => ?_⟩
      rw [evalAndT] at h
      exact ka ρ G σ Q w en h
    | @cons e2 x2 es2 xs2 g1 g2 g3 g4 =>
      obtain ⟨tb, pb, kb⟩ := ih (by simp)
      refine ⟨_, pw_and pa pb, fun ρ G σ Q w en h => ?_⟩
      rw [evalAndT] at h <;> try (intro z; cases z)
      split at h
      · rename_i S1 e1
        refine ST.go ka w en e1 fun G1 hS st w1 en1 => ?_
        subst hS
        rw [if_pos rfl]
        exact kb ρ G1 σ Q w1 en1 (h.mono st)
      · rename_i S1 e1
        refine ST.go ka w en e1 fun G1 hS st w1 en1 => ?_
        subst hS
        rw [if_neg Bool.false_ne_true]
        exact (h.mono st).now w1
      · exact h.no
theorem AllE.orT {es : Es} {xs : List Expr} {pos : Pos} (h : AllE X c es xs) (hne : xs ≠ []) : SW X (.BoolOp .Or xs pos) (evalOrT c es) := by
  induction h with
  | nil => exact absurd rfl hne
  | @cons e x es xs _ h1 _ h2 ih =>
    obtain ⟨ta, pa, ka⟩ := h1
    cases h2 with
    | nil =>
      refine ⟨_, pw_or1 pa, fun ρ G σ Q w en h => ?_⟩
      rw [evalOrT] at h
      exact ka ρ G σ Q w en h
    | @cons e2 x2 es2 xs2 g1 g2 g3 g4 =>
      obtain ⟨tb, pb, kb⟩ := ih (by simp)
      refine ⟨_, pw_or pa pb, fun ρ G σ Q w en h => ?_⟩
      rw [evalOrT] at h <;> try (intro z; cases z)
      split at h
      · rename_i S1 e1
        refine ST.go ka w en e1 fun G1 hS st w1 en1 => ?_
        subst hS
        rw [if_neg Bool.false_ne_true]
        exact kb ρ G1 σ Q w1 en1 (h.mono st)
      · rename_i S1 e1
        refine ST.go ka w en e1 fun G1 hS st w1 en1 => ?_
        subst hS
        rw [if_pos rfl]
        exact (h.mono st).now w1
      · exact h.no
theorem AllE.and {es : Es} {xs : List Expr} {pos : Pos} (h : AllE X c es xs) (hne : xs ≠ []) : SE X (.BoolOp .And xs pos) (evalAnd c es) := by
  induction h with
  | nil => exact absurd rfl hne
  | @cons e x es xs h1 _ _ h2 ih =>
    obtain ⟨ta, pa, ka⟩ := h1
    cases h2 with
    | nil =>
      refine ⟨_, pe_one pa, fun ρ G σ Q w en h => ?_⟩
      rw [evalAnd] at h
      exact ka ρ G σ Q w en h
    | @cons e2 x2 es2 xs2 g1 g2 g3 g4 =>
      obtain ⟨tb, pb, kb⟩ := ih (by simp)
      refine ⟨_, pe_andT pa pb, fun ρ G σ Q w en h => ?_⟩
      rw [evalAnd] at h <;> try (intro z; cases z)
      split at h; rotate_left; exact h.no
      rename_i d S1 e1
      split at h
      · rename_i e2
        refine SE.go (e := x) ka w en e1 fun G1 v hS st w1 en1 rx => ?_
        subst hS
        refine ⟨true, truD_ok w1 rx e2, ?_⟩
        rw [if_pos rfl]
        exact kb ρ G1 σ Q w1 en1 (h.mono st)
      · rename_i e2
        refine SE.go (e := x) ka w en e1 fun G1 v hS st w1 en1 rx => ?_
        subst hS
        refine ⟨false, truD_ok w1 rx e2, ?_⟩
        rw [if_neg Bool.false_ne_true]
        exact (h.mono st).now w1 rx
      · exact h.no
theorem AllE.or {es : Es} {xs : List Expr} {pos : Pos} (h : AllE X c es xs) (hne : xs ≠ []) : SE X (.BoolOp .Or xs pos) (evalOr c es) := by
  induction h with
  | nil => exact absurd rfl hne
  | @cons e x es xs h1 _ _ h2 ih =>
    obtain ⟨ta, pa, ka⟩ := h1
    cases h2 with
    | nil =>
      refine ⟨_, pe_one pa, fun ρ G σ Q w en h => ?_⟩
      rw [evalOr] at h
      exact ka ρ G σ Q w en h
    | @cons e2 x2 es2 xs2 g1 g2 g3 g4 =>
      obtain ⟨tb, pb, kb⟩ := ih (by simp)
      refine ⟨_, pe_orT pa pb, fun ρ G σ Q w en h => ?_⟩
      rw [evalOr] at h <;> try (intro z; cases z)
      split at h; rotate_left; exact h.no
      rename_i d S1 e1
      split at h
      · rename_i e2
        refine SE.go (e := x) ka w en e1 fun G1 v hS st w1 en1 rx => ?_
        subst hS
        refine ⟨false, truD_ok w1 rx e2, ?_⟩
        rw [if_neg Bool.false_ne_true]
        exact kb ρ G1 σ Q w1 en1 (h.mono st)
      · rename_i e2
        refine SE.go (e := x) ka w en e1 fun G1 v hS st w1 en1 rx => ?_
        subst hS
        refine ⟨true, truD_ok w1 rx e2, ?_⟩
        rw [if_pos rfl]
        exact (h.mono st).now w1 rx
      · exact h.no
theorem SW.st {e : Expr} {f : Env → Store → Option (Bool × Store)} (h : SW X e f) : ST X e f := let ⟨t, p, k⟩ := h; ⟨t, p.pt, k⟩
theorem st_not {a : Expr} {ea : E} {pos : Pos} (ha : ST X a (evalT c ea)) : ST X (.UnaryOp .Not a pos) (evalT c (.bnot ea)) := by
  obtain ⟨ta, pa, ka⟩ := ha
  refine ⟨_, pt_not pa, fun ρ G σ Q w en h => ?_⟩
  rw [evalT] at h
  split at h; rotate_left; exact h.no
  rename_i k S1 e1
  refine ST.go ka w en e1 fun G1 hS st w1 en1 => ?_
  subst hS
  exact (h.mono st).now w1
theorem se_not {a : Expr} {ea : E} {pos : Pos} (ha : SE X a (evalE c ea)) : SE X (.UnaryOp .Not a pos) (evalE c (.bnot ea)) := by
  obtain ⟨ta, pa, ka⟩ := ha
  refine ⟨_, pe_notT pa, fun ρ G σ Q w en h => ?_⟩
  rw [evalE] at h
  split at h; rotate_left; exact h.no
  rename_i d S1 e1
  rcases ek : truD S1 d with _ | k
  · rw [ek] at h; exact h.no
  rw [ek] at h
  have h : PostE X.K G (some (.bl (!k), S1)) Q := h
  refine SE.go (e := a) ka w en e1 fun G1 v hS st w1 en1 rx => ?_
  subst hS
  exact ⟨k, truD_ok w1 rx ek, (h.mono st).now w1 (.bl _)⟩
theorem se_ifE {t a b : Expr} {et ea eb : E} {pos : Pos} (ht : ST X t (evalT c et)) (ha : SE X a (evalE c ea)) (hb : SE X b (evalE c eb)) : SE X (.IfExp t a b pos) (evalE c (.ifE et ea eb)) := by
  obtain ⟨tt, pt, kt⟩ := ht
  obtain ⟨ta, pa, ka⟩ := ha
  obtain ⟨tb, pb, kb⟩ := hb
  refine ⟨_, pe_ifExp pt pa pb, fun ρ G σ Q w en h => ?_⟩
  rw [evalE] at h
  split at h
  · rename_i S1 e1
    refine ST.go kt w en e1 fun G1 hS st w1 en1 => ?_
    subst hS
    rw [if_pos rfl]
    exact ka ρ G1 σ Q w1 en1 (h.mono st)
  · rename_i S1 e1
    refine ST.go kt w en e1 fun G1 hS st w1 en1 => ?_
    subst hS
    rw [if_neg Bool.false_ne_true]
    exact kb ρ G1 σ Q w1 en1 (h.mono st)
  · exact h.no
theorem st_tru {a : Expr} {ea : E} (ha : SE X a (evalE c ea)) (hp : plainT a = true) (f : Env → Store → Option (Bool × Store)) (hf : ∀ ρ S, f ρ S = truO (evalE c ea ρ S)) : ST X a f := by
  obtain ⟨ta, pa, ka⟩ := ha
  refine ⟨_, pt_truth pa (fun wh => plainT_ok hp _ wh), fun ρ G σ Q w en h => ?_⟩
  rw [hf] at h
  unfold truO at h
  split at h; rotate_left; exact h.no
  rename_i d S1 e1
  rcases ek : truD S1 d with _ | k
  · rw [ek] at h; exact h.no
  rw [ek] at h
  have h : PostT X.K G (some (k, S1)) Q := h
  refine SE.go (e := a) ka w en e1 fun G1 v hS st w1 en1 rx => ?_
  subst hS
  exact ⟨k, truD_ok w1 rx ek, (h.mono st).now w1⟩

/-! ### items, slices, displays -/
theorem Reps.atI {ds : List D} {vs : List V} {i : Int} {d : D} (r : Reps K G ds vs) (h : L2.atI ds i = some d) : ∃ v, L2.atI vs i = some v ∧ Rep K G d v := by
  unfold L2.atI at h ⊢
  rw [← r.length]
  cases e : ixN ds.length i with
  | none => rw [e] at h; cases h
  | some j =>
    rw [e] at h
    obtain ⟨v, h1, h2⟩ := r.get (show ds[j]? = some d from h)
    exact ⟨v, h1, h2⟩
def plainIx : Expr → Bool
  | .Slice _ _ _ _ => false
  | _ => true
theorem plainIx_ok {a : Expr} (h : plainIx a = true) : PlainIx a := by
  intro o i
  cases a <;> first | rfl | cases h
theorem idx_ok (w : Wf K G) {x y d : D} {v u : V} {Q : VK} (rx : Rep K G x v) (ry : Rep K G y u) (h : idxD G.S x y = some d) (q : ∀ z, Rep K G d z → Q z G.H) : rIx K v u G.H Q := by
  unfold idxD at h
  split at h; rotate_left; cases h
  rename_i k
  cases ry
  split at h
  · rename_i z
    cases rx
    split at h; rotate_left; cases h
    rename_i c e
    split at h; rotate_left; cases h
    rename_i hz
    cases h
    exact .inr (.inr ⟨z, k, c, rfl, rfl, hz, e, q _ (.str _)⟩)
  · split at h; rotate_left; cases h
    rename_i ds e
    obtain ⟨a, vs, rfl, hq, rs⟩ := rx.seqR w e
    obtain ⟨z, h1, h2⟩ := rs.atI h
    rcases hq with hq | hq
    · exact .inl ⟨a, vs, k, z, rfl, rfl, hq, h1, q z h2⟩
    · exact .inr (.inl ⟨a, vs, k, z, rfl, rfl, hq, h1, q z h2⟩)
theorem PostE.mapD {r : Option D} {S : Store} {Q : V → Hp → Prop} (h : PostE K G (r.map fun d => (d, S)) Q) : ∃ d, r = some d ∧ PostE K G (some (d, S)) Q := by
  cases r with
  | none => exact h.no
  | some k => exact ⟨k, rfl, h⟩
theorem se_idx {a b : Expr} {ea eb : E} {pos : Pos} (ha : SE X a (evalE c ea)) (hb : SE X b (evalE c eb)) (hp : plainIx b = true) : SE X (.Subscript a b pos) (evalE c (.idx ea eb)) := by
  obtain ⟨ta, pa, ka⟩ := ha
  obtain ⟨tb, pb, kb⟩ := hb
  refine ⟨_, pe_ix ix_seq pa pb (plainIx_ok hp), fun ρ G σ Q w en h => ?_⟩
  rw [evalE] at h
  split at h; rotate_left; exact h.no
  rename_i x S1 e1
  split at h; rotate_left; exact h.no
  rename_i y S2 e2
  obtain ⟨d, ed, h⟩ := h.mapD
  refine SE.go (e := a) ka w en e1 fun G1 v hS st w1 en1 rx => ?_
  subst hS
  refine SE.go (e := b) kb w1 en1 e2 fun G2 u hS2 st2 w2 en2 ry => ?_
  subst hS2
  exact idx_ok w2 (rx.step st2 w1) ry ed fun z rz => ((h.mono st).mono st2).now w2 rz
theorem Reps.cut {ds : List D} {vs : List V} (r : Reps K G ds vs) (lo hi : Option Int) : Reps K G (cutD ds lo hi) (cutV vs lo hi) := by
  unfold cutD cutV
  rw [← r.length]
  exact (r.drop _).take _
theorem slice_ok {o : Bool} (w : Wf K G) {x : D} {v : V} {lo hi : Option Int} {Q : VK} (rx : Rep K G x v) (h : PostE K G (sliceD o x lo hi G.S) Q) : rSlL K v lo hi G.H Q ∨ rSlT K v lo hi G.H Q := by
  unfold sliceD at h
  split at h
  · rename_i ds
    cases rx with
    | tup h1 r1 =>
      split at h
      · rename_i z
        refine .inr ⟨_, _, rfl, h1.sq, by rw [← r1.length]; exact z, fun p hp => h.tup w (r1.cut lo hi) hp⟩
      · exact h.no
  · rename_i ns
    cases rx with
    | scr h1 => exact .inl ⟨_, _, rfl, h1.sq, fun p hp => h.mk w ((Reps.intsOf ns).cut lo hi) hp⟩
  · split at h; rotate_left; exact h.no
    rename_i ds e
    obtain ⟨a, vs, rfl, h1, rs⟩ := rx.seqL w e
    exact .inl ⟨_, _, rfl, SqL.of h1, fun p hp => h.mk w (rs.cut lo hi) hp⟩
theorem so_none : SO X none (evalO c .nop) := by
  refine ⟨_, po_none, fun ρ G σ Q w en h => ?_⟩
  simp only [evalO] at h
  obtain ⟨d', S', e, q⟩ := h
  cases e
  exact q G rfl (.refl G) w
theorem so_some {a : Expr} {ea : E} (ha : SE X a (evalE c ea)) (hn : ea ≠ .nop) : SO X (some a) (evalO c ea) := by
  obtain ⟨ta, pa, ka⟩ := ha
  refine ⟨_, po_some pa, fun ρ G σ Q w en h => ?_⟩
  rw [evalO] at h <;> try exact hn
  obtain ⟨d', S', e, q⟩ := h
  split at e; rotate_left; cases e
  rename_i i S1 e1
  cases e
  refine SE.go (e := a) ka w en e1 fun G1 v hS st w1 en1 rx => ?_
  cases rx
  exact ⟨i, rfl, q G1 hS st w1⟩
theorem se_slice {a : Expr} {l h : Option Expr} {ea el eh : E} {o : Bool} {pos p2 : Pos} (ha : SE X a (evalE c ea)) (hl : SO X l (evalO c el)) (hh : SO X h (evalO c eh)) : SE X (.Subscript a (.Slice l h none p2) pos) (evalE c (.slice o ea el eh)) := by
  obtain ⟨ta, pa, ka⟩ := ha
  obtain ⟨tl, pl, kl⟩ := hl
  obtain ⟨th, ph, kh⟩ := hh
  refine ⟨_, pe_slice (sl_list.or sl_tup) pa pl ph, fun ρ G σ Q w en h => ?_⟩
  rw [evalE] at h
  split at h; rotate_left; exact h.no
  rename_i x S1 e1
  split at h; rotate_left; exact h.no
  rename_i lo S2 e2
  split at h; rotate_left; exact h.no
  rename_i hi S3 e3
  refine SE.go (e := a) ka w en e1 fun G1 v hS st w1 en1 rx => ?_
  subst hS
  refine kl ρ G1 σ _ w1 en1 ⟨lo, S2, e2, fun G2 hS2 st2 w2 => ?_⟩
  subst hS2
  refine kh ρ G2 σ _ w2 (en1.step st2 w1) ⟨hi, S3, e3, fun G3 hS3 st3 w3 => ?_⟩
  subst hS3
  exact slice_ok w3 ((rx.step st2 w1).step st3 w2) (((h.mono st).mono st2).mono st3)
theorem se_lst {xs : List Expr} {es : Es} {o : Bool} {pos : Pos} (h : AllE X c es xs) : SE X (.List xs pos) (evalE c (.lst o es)) := by
  obtain ⟨t, p, k⟩ := h.sa
  refine ⟨_, pe_lst p, fun ρ G σ Q w en h => ?_⟩
  rw [evalE] at h
  split at h; rotate_left; exact h.no
  rename_i ds S1 e1
  split at h; rotate_left; exact h.no
  rename_i hz
  refine k ρ G σ _ w en ⟨ds, S1, e1, fun G1 vs hS st w1 rs => ⟨by rw [← rs.length]; exact hz, fun p hp => ?_⟩⟩
  subst hS
  exact (h.mono st).mk w1 rs hp
theorem se_tup {xs : List Expr} {es : Es} {k : Nat} {pos : Pos} (h : AllE X c es xs) : SE X (.Tuple xs k pos) (evalE c (.tup es)) := by
  obtain ⟨t, p, k⟩ := h.sa
  refine ⟨_, pe_tup p, fun ρ G σ Q w en h => ?_⟩
  rw [evalE] at h
  split at h; rotate_left; exact h.no
  rename_i ds S1 e1
  split at h; rotate_left; exact h.no
  rename_i hz
  refine k ρ G σ _ w en ⟨ds, S1, e1, fun G1 vs hS st w1 rs => ⟨by rw [← rs.length]; exact hz, fun p hp => ?_⟩⟩
  subst hS
  exact (h.mono st).tup w1 rs hp
theorem se_frz {a : Expr} {ea : E} (ha : SE X a (evalE c ea)) : SE X a (evalE c (.frz ea)) := by
  obtain ⟨ta, pa, ka⟩ := ha
  refine ⟨_, pa, fun ρ G σ Q w en h => ?_⟩
  rw [evalE] at h
  split at h; rotate_left; exact h.no
  rename_i x S1 e1
  refine SE.go (e := a) ka w en e1 fun G1 v hS st w1 en1 rx => ?_
  subst hS
  obtain ⟨d', S', e2, q⟩ := h
  obtain ⟨G2, hS2, hH2, st2, w2, r2, _, _⟩ := frzD_ok 8 x G1.S d' S' e2 G1 v rfl w1 rx
  rw [← hH2]
  exact q G2 v hS2 (st.trans st2) w2 r2

/-! ### calls -/
theorem se_call (ok : Ok c T N sc X) {f : Nat} {x : Str} {o : Bool} {xs : List Expr} {es : Es} {p pos : Pos} (hT : T.fn f = some x) (hg : isGl sc x = true) (hdb : (x == ("__debug__" : Str)) = false) (h : AllE X c es xs) : SE X (.Call (.Name x p) xs [] pos) (evalE c (.call f o es)) := by
  obtain ⟨fa, fd, ps, kk, hm, hk, hb, hr, F, hlen⟩ := ok.call f x hT
  have go : ∀ {G : Gh} {ds : List D} {vs : List V} {S1 : Store} {G1 : Gh} {Q : VK}, Wf X.K G → Wf X.K G1 → G1.S = S1 → Stp G G1 → Reps X.K G1 ds vs → PostE X.K G (match c f ds S1 with
      | some (r, S2) => match o with
        | true => some (thaw r S2)
        | false => some (unfre r, S2)
      | none => none) Q → spOf X.K c f ps.length (vs ++ []) G1.H Q E0 := by
    intro G ds vs S1 G1 Q w w1 hS st rs h
    subst hS
    have hl : ds.length = ps.length := by
      rcases e : c f ds G1.S with _ | ⟨r, S2⟩
      · rw [e] at h; exact h.no
      · exact hlen ds _ _ e
    refine ⟨G1, ds, rfl, hl, w1, by rw [List.append_nil]; exact rs, ?_⟩
    have h := h.mono st
    cases o with
    | true => exact PostR.thaw w1 h
    | false => exact PostR.froze w1 h
  cases h with
  | nil =>
    refine ⟨_, pe_call0 F hr (gl_of ok hg) hm hk hb .nil pass0 hdb, fun ρ G σ Q w en h => ?_⟩
    rw [evalE, evalEs] at h
    exact go w w rfl (.refl G) .nil h
  | cons h1 h2 h3 h4 =>
    obtain ⟨t, p, k⟩ := (AllE.cons h1 h2 h3 h4).sa
    refine ⟨_, pe_call F hr (gl_of ok hg) hm hk hb .nil pass0 p hdb (star_cons h3 _ _) (h4.star _ _), fun ρ G σ Q w en h => ?_⟩
    rw [evalE] at h
    split at h; rotate_left; exact h.no
    rename_i ds S1 e1
    exact k ρ G σ _ w en ⟨ds, S1, e1, fun G1 vs hS st w1 rs => go w w1 hS st rs h⟩
end
end Sw

set_option Elab.async false
set_option linter.all false
set_option maxRecDepth 100000
set_option maxHeartbeats 4000000
namespace Sw
open PySem PySem.Spec PyProof.Rows L2

section
variable {X : Cx} {c : Fns} {T : Tab} {N : List Str} {sc : Scope} {K : PySem.W.Frag} {G : Gh}
/-! ### built-ins -/
theorem maxI_spec : ∀ (ns : List Int), 0 < ns.length → maxI ns ∈ ns ∧ ∀ y ∈ ns, y ≤ maxI ns
  | [], h => by simp at h
  | [x], _ => by simp [maxI]
  | x :: y :: r, _ => by
    obtain ⟨h1, h2⟩ := maxI_spec (y :: r) (by simp)
    rw [maxI]
    refine ⟨?_, fun z hz => ?_⟩
    · rcases Int.le_total x (maxI (y :: r)) with q | q
      · rw [Int.max_eq_right q]
        exact List.mem_cons_of_mem _ h1
      · rw [Int.max_eq_left q]
        exact List.mem_cons_self
    · rcases List.mem_cons.mp hz with rfl | hz
      · exact Int.le_max_left _ _
      · exact Int.le_trans (h2 z hz) (Int.le_max_right _ _)
theorem minI_spec : ∀ (ns : List Int), 0 < ns.length → minI ns ∈ ns ∧ ∀ y ∈ ns, minI ns ≤ y
  | [], h => by simp at h
  | [x], _ => by simp [minI]
  | x :: y :: r, _ => by
    obtain ⟨h1, h2⟩ := minI_spec (y :: r) (by simp)
    rw [minI]
    refine ⟨?_, fun z hz => ?_⟩
    · rcases Int.le_total x (minI (y :: r)) with q | q
      · rw [Int.min_eq_left q]
        exact List.mem_cons_self
      · rw [Int.min_eq_right q]
        exact List.mem_cons_of_mem _ h1
    · rcases List.mem_cons.mp hz with rfl | hz
      · exact Int.min_le_left _ _
      · exact Int.le_trans (Int.min_le_right _ _) (h2 z hz)
def biIs : Bi → Bool
  | .isInt | .isBool | .isList | .isTup | .isStr => true
  | _ => false
def biVal : Bi → Value
  | .len => .builtin "len"
  | .abs => .builtin "abs"
  | .int => .type "int"
  | .max2 => .builtin "max"
  | .maxL => .builtin "max"
  | .min2 => .builtin "min"
  | .minL => .builtin "min"
  | .list => .type "list"
  | .tuple => .type "tuple"
  | .sum => .builtin "sum"
  | .any => .builtin "any"
  | .all => .builtin "all"
  | _ => .none
theorem ref_seqL {d : D} {v : V} {ds : List D} (w : Wf K G) (r : Rep K G d v) (h : Sw.seqL G.S d = some ds) : ∃ a vs, v = .ref a ∧ SqL K G.H a vs ∧ Reps K G ds vs := by
  obtain ⟨a, vs, e, h1, h2⟩ := r.seqL w h
  exact ⟨a, vs, e, SqL.of h1, h2⟩
theorem reps1 {d : D} {vs : List V} (r : Reps K G [d] vs) : ∃ v, vs = [v] ∧ Rep K G d v := by
  cases r with
  | cons r t =>
    cases t
    exact ⟨_, rfl, r⟩
theorem reps2 {d e : D} {vs : List V} (r : Reps K G [d, e] vs) : ∃ v u, vs = [v, u] ∧ Rep K G d v ∧ Rep K G e u := by
  cases r with
  | cons r t =>
    cases t with
    | cons r2 t =>
      cases t
      exact ⟨_, _, rfl, r, r2⟩
theorem onInts_ok {g : List Int → Option (D × Store)} {ds : List D} {vs : List V} {Q : VK} (w : Wf K G) (rs : Reps K G ds vs) (h : PostE K G (onInts G.S g ds) Q) : ∃ a ns, vs = [.ref a] ∧ SqL K G.H a (ns.map V.int) ∧ PostE K G (g ns) Q := by
  unfold onInts at h
  split at h; rotate_left; exact h.no
  rename_i d
  obtain ⟨v, rfl, r⟩ := reps1 rs
  split at h; rotate_left; exact h.no
  rename_i es e
  split at h; rotate_left; exact h.no
  rename_i ns e2
  obtain ⟨a, us, rfl, hq, rs⟩ := ref_seqL w r e
  rw [rs.dInts e2] at hq
  exact ⟨a, ns, rfl, hq, h⟩
theorem onBools_ok {g : List Bool → Option (D × Store)} {ds : List D} {vs : List V} {Q : VK} (w : Wf K G) (rs : Reps K G ds vs) (h : PostE K G (onBools G.S g ds) Q) : ∃ a ns, vs = [.ref a] ∧ SqL K G.H a (ns.map V.bl) ∧ PostE K G (g ns) Q := by
  unfold onBools at h
  split at h; rotate_left; exact h.no
  rename_i d
  obtain ⟨v, rfl, r⟩ := reps1 rs
  split at h; rotate_left; exact h.no
  rename_i es e
  split at h; rotate_left; exact h.no
  rename_i ns e2
  obtain ⟨a, us, rfl, hq, rs⟩ := ref_seqL w r e
  rw [rs.dBools e2] at hq
  exact ⟨a, ns, rfl, hq, h⟩
theorem bi_ok (hc : X.calm = true) (b : Bi) (hb : biIs b = false) : ∃ r, CallR X (biVal b) r ∧ ∀ G o ds vs Q, Wf X.K G → Reps X.K G ds vs → PostE X.K G (biD o G.S b ds) Q → r vs G.H Q := by
  cases b with
  | len =>
    refine ⟨_, call_len, fun G o ds vs Q w rs h => ?_⟩
    simp only [biD] at h
    unfold lenD at h
    split at h
    · rename_i z
      obtain ⟨v, rfl, r⟩ := reps1 rs
      cases r
      split at h; rotate_left; exact h.no
      rename_i q
      exact ⟨_, _, rfl, ⟨q, rfl⟩, h.now w (.int _)⟩
    · rename_i d _
      obtain ⟨v, rfl, r⟩ := reps1 rs
      split at h; rotate_left; exact h.no
      rename_i es e
      obtain ⟨a, us, rfl, hq, rs⟩ := r.seqR w e
      refine ⟨_, es.length, rfl, ?_, h.now w (.int _)⟩
      rcases hq with hq | hq
      · exact .inl ⟨us, hq, rs.length⟩
      · exact .inr ⟨us, hq, rs.length⟩
    · exact h.no
  | abs =>
    refine ⟨_, call_abs, fun G o ds vs Q w rs h => ?_⟩
    simp only [biD] at h
    unfold absD at h
    split at h; rotate_left; exact h.no
    obtain ⟨v, rfl, r⟩ := reps1 rs
    cases r
    exact ⟨_, rfl, h.now w (.int _)⟩
  | int =>
    refine ⟨_, call_int1, fun G o ds vs Q w rs h => ?_⟩
    simp only [biD] at h
    unfold intD at h
    split at h
    · obtain ⟨v, rfl, r⟩ := reps1 rs
      cases r
      exact .inl ⟨_, rfl, h.now w (.int _)⟩
    · obtain ⟨v, rfl, r⟩ := reps1 rs
      cases r
      exact .inr ⟨_, rfl, h.now w (.int _)⟩
    · exact h.no
  | max2 =>
    refine ⟨_, call_max2 hc, fun G o ds vs Q w rs h => ?_⟩
    simp only [biD] at h
    unfold max2D at h
    split at h; rotate_left; exact h.no
    obtain ⟨v, u, rfl, r, r2⟩ := reps2 rs
    cases r
    cases r2
    exact ⟨_, _, rfl, h.now w (.int _)⟩
  | min2 =>
    refine ⟨_, call_min2 hc, fun G o ds vs Q w rs h => ?_⟩
    simp only [biD] at h
    unfold min2D at h
    split at h; rotate_left; exact h.no
    obtain ⟨v, u, rfl, r, r2⟩ := reps2 rs
    cases r
    cases r2
    exact ⟨_, _, rfl, h.now w (.int _)⟩
  | maxL =>
    refine ⟨_, cr_max hc, fun G o ds vs Q w rs h => ?_⟩
    simp only [biD] at h
    obtain ⟨a, ns, rfl, hq, h⟩ := onInts_ok w rs h
    split at h; rotate_left; exact h.no
    rename_i hn
    obtain ⟨m1, m2⟩ := maxI_spec ns hn
    refine ⟨a, ns, rfl, hq, hn, fun m h1 h2 => ?_⟩
    have e : m = maxI ns := Int.le_antisymm (m2 m h1) (h2 _ m1)
    rw [e]
    exact h.now w (.int _)
  | minL =>
    refine ⟨_, cr_min hc, fun G o ds vs Q w rs h => ?_⟩
    simp only [biD] at h
    obtain ⟨a, ns, rfl, hq, h⟩ := onInts_ok w rs h
    split at h; rotate_left; exact h.no
    rename_i hn
    obtain ⟨m1, m2⟩ := minI_spec ns hn
    refine ⟨a, ns, rfl, hq, hn, fun m h1 h2 => ?_⟩
    have e : m = minI ns := Int.le_antisymm (h2 _ m1) (m2 m h1)
    rw [e]
    exact h.now w (.int _)
  | list =>
    refine ⟨_, call_list_of, fun G o ds vs Q w rs h => ?_⟩
    simp only [biD] at h
    unfold listD at h
    split at h; rotate_left; exact h.no
    obtain ⟨v, rfl, r⟩ := reps1 rs
    split at h; rotate_left; exact h.no
    rename_i es e
    obtain ⟨a, us, rfl, hq, rs⟩ := r.seqR w e
    exact ⟨a, us, rfl, hq, fun p hp => h.mk w rs hp⟩
  | tuple =>
    refine ⟨_, call_tuple_of, fun G o ds vs Q w rs h => ?_⟩
    simp only [biD] at h
    unfold tupleD at h
    split at h; rotate_left; exact h.no
    obtain ⟨v, rfl, r⟩ := reps1 rs
    split at h; rotate_left; exact h.no
    rename_i es e
    obtain ⟨a, us, rfl, hq, rs⟩ := ref_seqL w r e
    exact ⟨a, us, rfl, .inl ⟨hq, fun p hp => h.tup w rs hp⟩⟩
  | sum =>
    refine ⟨_, cr_sum hc, fun G o ds vs Q w rs h => ?_⟩
    simp only [biD] at h
    obtain ⟨a, ns, rfl, hq, h⟩ := onInts_ok w rs h
    exact ⟨a, ns, rfl, hq, h.now w (.int _)⟩
  | any =>
    refine ⟨_, cr_any hc, fun G o ds vs Q w rs h => ?_⟩
    simp only [biD] at h
    obtain ⟨a, ns, rfl, hq, h⟩ := onBools_ok w rs h
    exact ⟨a, ns, rfl, hq, h.now w (.bl _)⟩
  | all =>
    refine ⟨_, cr_all hc, fun G o ds vs Q w rs h => ?_⟩
    simp only [biD] at h
    obtain ⟨a, ns, rfl, hq, h⟩ := onBools_ok w rs h
    exact ⟨a, ns, rfl, hq, h.now w (.bl _)⟩
  | _ => cases hb
def biName : Bi → Str
  | .len => "len"
  | .abs => "abs"
  | .int => "int"
  | .max2 => "max"
  | .maxL => "max"
  | .min2 => "min"
  | .minL => "min"
  | .list => "list"
  | .tuple => "tuple"
  | .sum => "sum"
  | .any => "any"
  | .all => "all"
  | .isInt => "int"
  | .isBool => "bool"
  | .isList => "list"
  | .isTup => "tuple"
  | .isStr => "str"
theorem biName_mem (b : Bi) : biName b ∈ biNames := by cases b <;> decide +kernel
theorem biName_ne (b : Bi) : biName b ≠ "__name__" := by cases b <;> decide +kernel
theorem biName_db (b : Bi) : (biName b == ("__debug__" : Str)) = false := by cases b <;> decide +kernel
theorem biName_boot (b : Bi) (hb : biIs b = false) : bootBuiltins (biName b) = some (biVal b) := by
  cases b <;> first | (cases hb; done) | decide +kernel
theorem se_bi (ok : Ok c T N sc X) {b : Bi} {x : Expr} {o : Bool} {xs : List Expr} {es : Es} {p pos : Pos} (hb : biIs b = false) (hg : isGl sc (biName b) = true) (h : AllE X c es (x :: xs)) : SE X (.Call (.Name (biName b) p) (x :: xs) [] pos) (evalE c (.bi b o es)) := by
  obtain ⟨r, hr, kr⟩ := bi_ok (X := X) ok.calm b hb
  have hst : notStar x = true := by
    cases h
    assumption
  have hss : ∀ pos env, (backTo pos (starEach xs env)).any (·.1) = false := by
    cases h with
    | cons _ _ _ t => exact fun pos env => t.star pos env
  obtain ⟨t, pa, k⟩ := h.sa
  have fin : ∀ ρ G σ Q, Wf X.K G → REnv X.K G ρ σ → PostE X.K G (evalE c (.bi b o es) ρ G.S) Q → tCB r t σ G.H Q := fun ρ G σ Q w en h => by
    rw [evalE] at h
    split at h; rotate_left; exact h.no
    rename_i ds S1 e1
    refine k ρ G σ _ w en ⟨ds, S1, e1, fun G1 vs hS st w1 rs => ?_⟩
    subst hS
    exact kr G1 o ds vs Q w1 rs (h.mono st)
  have hm := ok.bl _ (biName_mem b)
  have hv := biName_boot b hb
  cases e : biVal b with
  | builtin id =>
    rw [e] at hr hv
    exact ⟨_, pe_callB hr (gl_of ok hg) hm hv pa (biName_ne b) (biName_db b) (star_cons hst _ _) (hss _ _), fin⟩
  | type id =>
    rw [e] at hr hv
    exact ⟨_, pe_callTy hr (gl_of ok hg) hm hv pa (biName_ne b) (biName_db b) (star_cons hst _ _) (hss _ _), fin⟩
  | _ => cases b <;> first | (cases hb; done) | (cases e; done)
/-! isinstance -/
def tyNm : Bi → String
  | .isInt => "int"
  | .isBool => "bool"
  | .isList => "list"
  | .isTup => "tuple"
  | .isStr => "str"
  | _ => ""
theorem ty_boot (b : Bi) (hb : biIs b = true) : bootBuiltins (biName b) = some (.type (tyNm b)) := by
  cases b <;> first | (cases hb; done) | decide +kernel
def dTy : D → String
  | .non => "NoneType"
  | .bl _ => "bool"
  | .int _ => "int"
  | .str _ => "str"
  | .lst _ => "list"
  | .box _ => "list"
  | .tup _ => "tuple"
  | _ => ""
theorem isTy_kit (b : Bi) (hb : biIs b = true) (d : D) (k : Bool) (h : isTy b d = some k) : kitB (dTy d) (tyNm b) = some k := by
  cases b <;> first | (cases hb; done) | (cases d <;> first | (cases h; done) | (cases h; simp only [dTy, tyNm]; decide +kernel))
theorem dTy_ok (w : Wf K G) {d : D} {v : V} (r : Rep K G d v) (hd : dTy d ≠ "") : TyX K G.H v (.type (dTy d)) := by
  cases r with
  | non => exact .base .non
  | bl b => exact .base (.bl b)
  | int i => exact .base (.int i)
  | str x => exact .base (.str x)
  | lst h1 _ _ _ => exact .base (.lst h1)
  | @box i hi =>
    obtain ⟨vs, e⟩ := w.there i hi
    exact .base (.lst e)
  | tup h1 _ =>
    rcases h1 with h1 | ⟨o, its, n, h1, h2, _⟩
    · exact .base (.tup h1)
    · exact .kTuple h1 h2
  | scr _ => exact absurd rfl hd
end
end Sw

set_option Elab.async false
set_option linter.all false
set_option maxRecDepth 100000
set_option maxHeartbeats 4000000
namespace Sw
open PySem PySem.Spec PyProof.Rows L2

section
variable {X : Cx} {c : Fns} {T : Tab} {N : List Str} {sc : Scope} {K : PySem.W.Frag} {G : Gh}
theorem isTy_dTy {b : Bi} {d : D} {k : Bool} (hb : biIs b = true) (h : isTy b d = some k) : dTy d ≠ "" := by
  cases b <;> first | (cases hb; done) | (cases d <;> first | (cases h; done) | (simp only [dTy]; decide +kernel))
theorem se_isi (ok : Ok c T N sc X) {b : Bi} {a : Expr} {ea : E} {p p2 pos : Pos} (hb : biIs b = true) (hg : isGl sc "isinstance" = true) (hg2 : isGl sc (biName b) = true) (ha : SE X a (evalE c ea)) (hs : notStar a = true) :
    SE X (.Call (.Name "isinstance" p) [a, .Name (biName b) p2] [] pos) (evalE c (.isi b ea)) := by
  obtain ⟨ta, pa, ka⟩ := ha
  refine ⟨_, pe_callB call_isi (gl_of ok hg) (ok.bl _ (by decide +kernel)) (by decide +kernel) (pa_cons pa (pa_cons (pe_bltn (v := .ty (tyNm b)) (gl_of ok hg2) (ok.bl _ (biName_mem b)) (ty_boot b hb) rfl (biName_ne b) (biName_db b)) pa_nil) (star_cons hs _ _)) (by decide +kernel) (by decide +kernel) (star_cons hs _ _) rfl, fun ρ G σ Q w en h => ?_⟩
  rw [evalE] at h
  split at h; rotate_left; exact h.no
  rename_i d S1 e1
  obtain ⟨k, ek, h⟩ := h.map
  refine SE.go (e := a) ka w en e1 fun G1 v hS st w1 en1 rx => ?_
  subst hS
  exact ⟨v, .ty (tyNm b), _, _, k, rfl, .ty _, dTy_ok w1 rx (isTy_dTy hb ek), kit_ty (isTy_kit b hb d k ek), (h.mono st).now w1 (.bl k)⟩

/-! ### append -/
def plainBase : Expr → Bool
  | .Name _ _ => true
  | .Subscript _ _ _ => true
  | .Attribute _ _ _ => true
  | _ => false
theorem plainBase_ok {o : Expr} (h : plainBase o = true) (m : Str) (env : PySem.Env) (whole : Sem Value) : attributeBase o m env whole = whole := by
  cases o <;> first | rfl | cases h
theorem bnds_append {n : Nat} : ∀ {ds es : List D}, bnds n ds = true → bnds n es = true → bnds n (ds ++ es) = true
  | [], _, _, h => h
  | d :: ds, es, h, h2 => by
    rw [bnds_cons] at h
    show bnds n (d :: (ds ++ es)) = true
    rw [bnds_cons]
    exact ⟨h.1, bnds_append h.2 h2⟩
mutual
theorem bnd_zero {n : Nat} : ∀ (d : D), bnd 0 d = true → bnd n d = true
  | .box i, h => by simp [bnd] at h
  | .lst ds, h => bnds_zero ds h
  | .tup ds, h => bnds_zero ds h
  | .fre ds, h => bnds_zero ds h
  | .non, _ => rfl
  | .bl _, _ => rfl
  | .int _, _ => rfl
  | .str _, _ => rfl
  | .scr _, _ => rfl
theorem bnds_zero {n : Nat} : ∀ (ds : List D), bnds 0 ds = true → bnds n ds = true
  | [], _ => rfl
  | d :: ds, h => by
    rw [bnds_cons] at h ⊢
    exact ⟨bnd_zero d h.1, bnds_zero ds h.2⟩
end
theorem bnds_set {n : Nat} {y : D} (hy : bnd n y = true) : ∀ {ds : List D} (j : Nat), bnds n ds = true → bnds n (ds.set j y) = true
  | [], _, h => h
  | d :: ds, 0, h => by
    rw [bnds_cons] at h
    show bnds n (y :: ds) = true
    rw [bnds_cons]
    exact ⟨hy, h.2⟩
  | d :: ds, j + 1, h => by
    rw [bnds_cons] at h
    show bnds n (d :: ds.set j y) = true
    rw [bnds_cons]
    exact ⟨h.1, bnds_set hy j h.2⟩
theorem se_app {a b : Expr} {ea eb : E} {apos cpos : Pos} (ha : SE X a (evalE c ea)) (hb : SE X b (evalE c eb)) (hbase : plainBase a = true) (hs : notStar b = true) (hl : (apos.endLine == cpos.line) = true) :
    SE X (.Call (.Attribute a "append" apos) [b] [] cpos) (evalE c (.app ea eb)) := by
  obtain ⟨ta, pa, ka⟩ := ha
  obtain ⟨tb, pb, kb⟩ := hb
  have hst : starEach [b] X.env = [(false, eval b X.env)] := star_cons hs [] X.env
  refine ⟨_, pe_bm PySem.F.plainAttrs_list PySem.F.slot_list_append PySem.F.type_list_append mt_append pa (pa_cons pb pa_nil (star_cons hs _ _)) (plainBase_ok hbase _ _ _) (by rw [hst]; rfl) hl (star_cons hs _ _) rfl, fun ρ G σ Q w en h => ?_⟩
  rw [evalE] at h
  split at h; rotate_left; exact h.no
  rename_i i S1 e1
  split at h; rotate_left; exact h.no
  rename_i y S2 e2
  split at h; rotate_left; exact h.no
  rename_i ds e3
  split at h; rotate_left; exact h.no
  rename_i z
  refine SE.go (e := a) ka w en e1 fun G1 v hS st w1 en1 rx => ?_
  subst hS
  cases rx with
  | box hi =>
    obtain ⟨us, hu⟩ := w1.there i hi
    refine ⟨.inl ⟨rfl, _, .inl (.inl hu)⟩, ?_⟩
    refine SE.go (e := b) kb w1 en1 e2 fun G2 u hS2 st2 w2 en2 ry => ?_
    subst hS2
    obtain ⟨vs, h1, rs⟩ := w2.live i ds e3
    rw [← st2.beta i hi]
    refine ⟨_, vs, u, rfl, rfl, h1, by rw [← rs.length]; exact z.1, ?_⟩
    obtain ⟨st3, w3⟩ := write_box (ds := ds ++ [y]) (vs := vs ++ [u]) w2 e3 (rs.append (.cons ry .nil)) fun n hn => bnds_append hn (by rw [bnds_cons]; exact ⟨bnd_zero y z.2, rfl⟩)
    exact ((h.mono st).mono st2).at (G' := G2.wr i (ds ++ [y]) (vs ++ [u])) rfl st3 w3 .non

/-! ### targets -/
mutual
def tgIn (vs : List Nat) : Tg → Bool
  | .name i => vs.contains i
  | .tup ts => tgsIn vs ts
def tgsIn (vs : List Nat) : Tgs → Bool
  | .nil => true
  | .cons t ts => tgIn vs t && tgsIn vs ts
end
def SG (X : Cx) (e : Expr) (tg : Tg) : Prop :=
  ∃ t, PG X e t ∧ ∀ ρ G σ d v Q ρ1, Wf X.K G → REnv X.K G ρ σ → Rep X.K G d v → asg tg d ρ = some ρ1 → (∀ σ1, REnv X.K G ρ1 σ1 → (∀ vs, tgIn vs tg = true → L2.wipe σ1 vs = L2.wipe σ vs) → Q σ1 G.H) → t v σ G.H Q
def SGs (X : Cx) (es : List Expr) (tgs : Tgs) : Prop :=
  ∃ t, PGs X es t ∧ ∀ ρ G σ ds vs Q ρ1, Wf X.K G → REnv X.K G ρ σ → Reps X.K G ds vs → asgs tgs ds ρ = some ρ1 → (∀ σ1, REnv X.K G ρ1 σ1 → (∀ vs, tgsIn vs tgs = true → L2.wipe σ1 vs = L2.wipe σ vs) → Q σ1 G.H) → t vs σ G.H Q
theorem wipe_set {σ : L2.St} {i : Nat} {v : V} : ∀ {vs : List Nat}, vs.contains i = true → L2.wipe (σ.set i (some v)) vs = L2.wipe σ vs
  | [], h => by cases h
  | j :: vs, h => by
    unfold L2.wipe
    by_cases e : vs.contains i = true
    · rw [wipe_set e]
    · have ij : i = j := by
        simp at h e
        exact h.resolve_right e
      subst ij
      have key : ∀ (ws : List Nat), (L2.wipe (σ.set i (some v)) ws).set i none = (L2.wipe σ ws).set i none := by
        intro ws
        induction ws with
        | nil => show (σ.set i (some v)).set i none = σ.set i none; rw [List.set_set]
        | cons k ws ih =>
          unfold L2.wipe
          by_cases q : k = i
          · subst q
            rw [List.set_set, List.set_set, ih]
          · rw [List.set_comm _ _ q, List.set_comm _ _ q, ih]
      exact key vs
theorem sg_name (ok : Ok c T N sc X) {lsc : Scope} (fn : OkL sc lsc X) {i : Nat} {x : Str} {pos : Pos} (hi : N[i]? = some x) (hl : isLoc lsc x = true) : SG X (.Name x pos) (.name i) := by
  obtain ⟨hx, hfn⟩ := fn x (loc_of hl)
  refine ⟨_, pg_name (i := i) (by rw [ok.hN]; exact ok.nd) (by rw [ok.hN]; exact hi) (by rw [ok.hsc]; exact hx) (by rw [ok.hsc]; exact hfn), fun ρ G σ d v Q ρ1 w en r h q => ?_⟩
  rw [asg] at h
  cases h
  exact q _ (en.set r) fun vs hv => wipe_set hv
theorem sgs_nil : SGs X [] .nil := by
  refine ⟨_, pgs_nil, fun ρ G σ ds vs Q ρ1 w en r h q => ?_⟩
  cases ds with
  | nil =>
    rw [asgs] at h
    cases h
    cases r
    exact ⟨rfl, q _ en fun _ _ => rfl⟩
  | cons d ds => simp [asgs] at h
theorem assignEach_cons {e : Expr} (h : notStar e = true) (es : List Expr) (env : PySem.Env) : assignEach (e :: es) env = (false, assign e env) :: assignEach es env := by
  cases e <;> first | rfl | cases h
theorem sgs_cons {e : Expr} {es : List Expr} {t : Tg} {ts : Tgs} (hs : notStar e = true) (h1 : SG X e t) (h2 : SGs X es ts) : SGs X (e :: es) (.cons t ts) := by
  obtain ⟨ta, pa, ka⟩ := h1
  obtain ⟨tb, pb, kb⟩ := h2
  refine ⟨_, pgs_cons pa pb (by rw [assignEach_cons hs]; rfl), fun ρ G σ ds vs Q ρ1 w en r h q => ?_⟩
  cases ds with
  | nil => simp [asgs] at h
  | cons d ds =>
    rw [asgs] at h
    split at h; rotate_left; cases h
    rename_i ρ2 e2
    cases r with
    | cons r rs =>
      refine ⟨_, _, rfl, ka ρ G σ d _ _ ρ2 w en r e2 fun σ1 en1 hw1 => ?_⟩
      exact kb ρ2 G σ1 ds _ Q ρ1 w en1 rs h fun σ2 en2 hw2 => q σ2 en2 fun vs hv => by
        rw [tgsIn, Bool.and_eq_true] at hv
        rw [hw2 vs hv.2, hw1 vs hv.1]
theorem assignEach_len : ∀ {es : List Expr} (env : PySem.Env), (assignEach es env).length = es.length
  | [], _ => rfl
  | e :: es, env => by
    have ih := assignEach_len (es := es) env
    cases e <;> (show (assignEach es env).length + 1 = es.length + 1; rw [ih])
/-- as many targets as expressions -/
inductive TgL : Tgs → List Expr → Prop
  | nil : TgL .nil []
  | cons {t : Tg} {ts : Tgs} {e : Expr} {es : List Expr} : notStar e = true → TgL ts es → TgL (.cons t ts) (e :: es)
theorem TgL.len : ∀ {ts : Tgs} {es : List Expr}, TgL ts es → ∀ {ds : List D} {ρ ρ1 : Env}, asgs ts ds ρ = some ρ1 → ds.length = es.length
  | _, _, .nil, ds, ρ, ρ1, h => by
    cases ds with
    | nil => rfl
    | cons _ _ => simp [asgs] at h
  | _, _, .cons _ t, ds, ρ, ρ1, h => by
    cases ds with
    | nil => simp [asgs] at h
    | cons d ds =>
      rw [asgs] at h
      split at h; rotate_left; cases h
      rw [List.length_cons, List.length_cons, TgL.len t h]
theorem TgL.star : ∀ {ts : Tgs} {es : List Expr}, TgL ts es → ∀ env, (assignEach es env).findIdx? (·.1) = none
  | _, _, .nil, _ => rfl
  | _, _, .cons hs t, env => by
    rw [assignEach_cons hs, List.findIdx?_cons]
    show (if (false = true) then _ else _) = none
    rw [if_neg Bool.false_ne_true, TgL.star t env]
    rfl
theorem sg_tup (ok : Ok c T N sc X) {es : List Expr} {ts : Tgs} {k : Nat} {pos : Pos} (hl : TgL ts es) (h : SGs X es ts) : SG X (.Tuple es k pos) (.tup ts) := by
  obtain ⟨ta, pa, ka⟩ := h
  refine ⟨_, pg_tup ok.calm pa (n := es.length) (assignEach_len _) (hl.star _), fun ρ G σ d v Q ρ1 w en r h q => ?_⟩
  cases d with
  | tup ds =>
    rw [asg] at h
    cases r with
    | tup h1 rs =>
      exact ⟨_, _, rfl, h1.sq, by rw [← rs.length]; exact hl.len h, ka ρ G σ ds _ Q ρ1 w en rs h fun σ1 en1 hw => q σ1 en1 fun vs hv => hw vs hv⟩
  | _ => simp [asg] at h

/-! ### what is walked -/
/-- further on, some new lists being reserved -/
structure StpX (G G' : Gh) : Prop where
  st : Stp G { G' with Rs := G.Rs }
  up : ∀ a, G.Rs a → G'.Rs a
  fr : ∀ a, G'.Rs a → G.Rs a ∨ G.H a = none
theorem StpX.of {G G' : Gh} (s : Stp G G') : StpX G G' := ⟨by have e := s.rs; obtain ⟨H, S, β, Rs⟩ := G'; obtain rfl : Rs = G.Rs := e; exact s, fun a h => by rw [s.rs]; exact h, fun a h => .inl (by rw [← s.rs]; exact h)⟩
theorem StpX.trans {G G1 G2 : Gh} (a : StpX G G1) (b : Stp G1 G2) : StpX G G2 := by
  have e := b.rs
  refine ⟨⟨Nat.le_trans a.st.len b.len, fun i hi => (b.beta i (Nat.lt_of_lt_of_le hi a.st.len)).trans (a.st.beta i hi), fun x o h n => ?_, fun x o h => ?_, fun i h1 h2 => ?_, rfl, fun n hn q => ?_⟩, fun x h => by rw [e]; exact a.up x h, fun x h => a.fr x (by rw [← e]; exact h)⟩
  · obtain ⟨h1, n1⟩ := a.st.keep x o h n
    exact b.keep x o h1 n1
  · obtain ⟨o1, h1⟩ := a.st.dom x o h
    exact b.dom x o1 h1
  · by_cases hi : i < G1.S.length
    · show G.H (G2.β i) = none
      rw [b.beta i hi]
      exact a.st.new i h1 hi
    · have := b.new i (by omega) h2
      cases q : G.H (G2.β i) with
      | none => rfl
      | some o =>
        obtain ⟨o', e⟩ := a.st.dom _ o q
        have e : G1.H (G2.β i) = some o' := e
        rw [this] at e
        cases e
  · have hl : n ≤ G1.S.length := Nat.le_trans hn a.st.len
    exact b.bd n hl (a.st.bd n hn q)
theorem StpX.move {G G' : Gh} (s : StpX G G') (w : Wf K G) : Move K G G' where
  lst := fun a vs h n r => let ⟨e1, e2⟩ := s.st.keep a _ h n; ⟨e1, e2, fun z => (s.fr a z).elim r fun q => by rw [q] at h; cases h⟩
  tup := fun a vs h => (s.st.keep a _ h (w.not_own h fun _ q => nomatch q)).1
  frz := fun a o u h => (s.st.keep a _ h (w.not_own h fun _ q => nomatch q)).1
  len := s.st.len
  beta := s.st.beta
theorem Rep.stepX {G G' : Gh} {d : D} {v : V} (r : Rep K G d v) (s : StpX G G') (w : Wf K G) : Rep K G' d v := r.move (s.move w)
theorem Reps.stepX {G G' : Gh} {ds : List D} {vs : List V} (r : Reps K G ds vs) (s : StpX G G') (w : Wf K G) : Reps K G' ds vs := r.move (s.move w)
theorem REnv.stepX {G G' : Gh} {ρ : Env} {σ : L2.St} (r : REnv K G ρ σ) (s : StpX G G') (w : Wf K G) : REnv K G' ρ σ :=
  ⟨r.len, fun i d e => let ⟨v, h1, h2⟩ := r.get i d e; ⟨v, h1, h2.stepX s w⟩⟩
theorem seqK_ok {S : Store} {d : D} {k : Wk} (h : seqK S d = some k) : okW S k = true := by
  unfold seqK at h
  split at h
  · cases h; rfl
  · split at h
    · cases h; rfl
    · rename_i i ds e
      cases h
      simp only [okW, e]
      exact eqBs_rfl _
    · cases h
  · cases h; rfl
  · cases h; rfl
  · cases h
def JOk (K : PySem.W.Frag) (G : Gh) (J : L2.It) (wk : Wk) : Prop := ∀ G', StpX G G' → Wf K G' → okW G'.S wk = true →
  (∀ i d, wk.ds[i]? = some d → J.go i G'.H ∧ ∀ x H2, J.yld i G'.H x H2 → ∃ G2, G2.H = H2 ∧ G2.S = G'.S ∧ Stp G' G2 ∧ Wf K G2 ∧ Rep K G2 d x) ∧ ∀ i, wk.ds.length ≤ i → J.stop i G'.H
def SI (X : Cx) (tg iter : Expr) (f : Env → Store → Option (Wk × Store)) : Prop :=
  ∃ wi, PI X tg iter wi ∧ ∀ ρ G σ R wk S', Wf X.K G → REnv X.K G ρ σ → f ρ G.S = some (wk, S') → (∀ G' J, G'.S = S' → Stp G G' → Wf X.K G' → REnv X.K G' ρ σ → JOk X.K G' J wk → okW G'.S wk = true → R J G'.H) → wi σ G.H R
theorem PI.or {tg l : Expr} {a b : TI} (h : PI X tg l a) (h' : PI X tg l b) : PI X tg l (fun σ H R => a σ H R ∨ b σ H R) :=
  ⟨fun pins s σ H R I q => q.elim (h.run pins s σ H R I) (h'.run pins s σ H R I)⟩
theorem Rep.seqX (w : Wf K G) {d : D} {v : V} {ds : List D} (r : Rep K G d v) (h : Sw.seqW G.S d = some ds) :
    ∃ a vs, v = .ref a ∧ Reps K G ds vs ∧ ∀ G', StpX G G' → SqL K G'.H a vs := by
  obtain ⟨a, vs, e, r, k⟩ := r.seqW w h
  exact ⟨a, vs, e, r, fun G' s => by have q := k _ s.st; exact q⟩
theorem Rep.seqW0 (w : Wf K G) {d : D} {v : V} {ds : List D} (r : Rep K G d v) (h : Sw.seqW G.S d = some ds) :
    ∃ a vs, v = .ref a ∧ Reps K G ds vs ∧ SqL K G.H a vs ∧ JOk K G (Itl K a) ⟨ds, none⟩ := by
  obtain ⟨a, vs, rfl, rs, k⟩ := r.seqX w h
  refine ⟨a, vs, rfl, rs, k G (.of (.refl G)), fun G' st w' _ => ⟨fun i d hd => ?_, fun i hi => ⟨vs, k G' st, by rw [← rs.length]; exact hi⟩⟩⟩
  obtain ⟨x, hx, rx⟩ := rs.get hd
  refine ⟨⟨vs, x, k G' st, hx⟩, fun y H2 hy => ?_⟩
  obtain ⟨rfl, hy⟩ := hy
  have e : x = y := Option.some.inj (hx.symm.trans (hy vs (k G' st)))
  subst e
  exact ⟨G', rfl, rfl, .refl G', w', rx.stepX st w⟩
theorem si_list {tg a : Expr} {ea : E} (ha : SE X a (evalE c ea)) : SI X tg a (evalI c (.list ea)) := by
  obtain ⟨ta, pa, ka⟩ := ha
  refine ⟨_, PI.or (pi_list pa) (pi_tup pa), fun ρ G σ R wk S' w en h q => ?_⟩
  rw [evalI] at h
  split at h; rotate_left; cases h
  rename_i d S1 e1
  rcases e2 : seqK S1 d with _ | es
  · rw [e2] at h; cases h
  rw [e2] at h
  cases h
  have hok := seqK_ok e2
  have fin : ∀ es, wk = ⟨es, none⟩ → seqW S' d = some es → iList X.K ta σ G.H R := fun es he hw => SE.go (e := a) ka w en e1 fun G1 v hS st w1 en1 rx => by
    subst hS
    subst he
    obtain ⟨a, vs, rfl, rs, hq, j⟩ := rx.seqW0 w1 hw
    exact ⟨a, rfl, ⟨_, hq⟩, q G1 _ rfl st w1 en1 j hok⟩
  cases d with
  | tup es =>
    cases e2
    refine .inr (SE.go (e := a) ka w en e1 fun G1 v hS st w1 en1 rx => ?_)
    cases rx with
    | @tup a vs _ h1 rs =>
      have keep : ∀ G', StpX G1 G' → Wf X.K G' → SqT X.K G'.H a vs := fun G' st' w' => by
        rcases h1 with h1 | h1
        · exact .inl (.inl (st'.st.keep a _ h1 (w1.not_own h1 fun _ q => nomatch q)).1)
        · exact .inr h1
      refine ⟨a, rfl, ⟨_, h1.sq⟩, q G1 _ hS st w1 en1 (fun G' st' w' _ => ⟨fun i d hd => ?_, fun i hi => ⟨vs, keep G' st' w', by rw [← rs.length]; exact hi⟩⟩) rfl⟩
      obtain ⟨x, hx, rx⟩ := rs.get hd
      refine ⟨⟨vs, x, keep G' st' w', hx⟩, fun y H2 hy => ?_⟩
      obtain ⟨rfl, hy⟩ := hy
      have e : x = y := Option.some.inj (hx.symm.trans (hy vs (keep G' st' w')))
      subst e
      exact ⟨G', rfl, rfl, .refl G', w', rx.stepX st' w1⟩
  | lst es =>
    cases e2
    exact .inl (fin es rfl rfl)
  | scr ns =>
    cases e2
    exact .inl (fin _ rfl rfl)
  | box b =>
    have e2' := e2
    simp only [seqK] at e2
    split at e2
    · rename_i es e3
      cases e2
      exact .inl (fin es rfl (by simp only [seqW, e3]))
    · rename_i es e3
      cases e2
      refine .inl (SE.go (e := a) ka w en e1 fun G1 v hS st w1 en1 rx => ?_)
      subst hS
      cases rx with
      | box hb =>
        obtain ⟨vs0, h0, _⟩ := w1.live b es e3
        refine ⟨_, rfl, ⟨vs0, SqL.of h0⟩, q G1 _ rfl st w1 en1 (fun G' st' w' hw => ?_) hok⟩
        have e4 : G'.S[b]? = some (.live es) := by
          simp only [okW] at hw
          split at hw
          · rename_i ds' e5
            rw [e5, eqBs_ok hw]
          · cases hw
        obtain ⟨vs, h5, rs⟩ := w'.live b es e4
        rw [st'.st.beta b hb] at h5
        refine ⟨fun i d hd => ?_, fun i hi => ⟨vs, SqL.of h5, by rw [← rs.length]; exact hi⟩⟩
        obtain ⟨x, hx, rx⟩ := rs.get hd
        refine ⟨⟨vs, x, SqL.of h5, hx⟩, fun y H2 hy => ?_⟩
        obtain ⟨rfl, hy⟩ := hy
        have e : x = y := Option.some.inj (hx.symm.trans (hy vs (SqL.of h5)))
        subst e
        exact ⟨G', rfl, rfl, .refl G', w', rx⟩
    · cases e2
  | _ => cases e2
theorem get_rngI {lo : Int} {n i : Nat} {d : D} (h : (rngI lo n)[i]? = some d) : i < n ∧ d = .int (lo + (i : Nat)) := by
  unfold rngI at h
  rw [List.getElem?_map] at h
  by_cases hi : i < n
  · rw [List.getElem?_range hi] at h
    cases h
    exact ⟨hi, rfl⟩
  · rw [List.getElem?_eq_none (by simpa using hi)] at h
    cases h
theorem get_rngC {lo c : Int} {n i : Nat} {d : D} (h : (rngC lo c n)[i]? = some d) : i < n ∧ d = .int (lo + (i : Nat) * c) := by
  unfold rngC at h
  rw [List.getElem?_map] at h
  by_cases hi : i < n
  · rw [List.getElem?_range hi] at h
    cases h
    exact ⟨hi, rfl⟩
  · rw [List.getElem?_eq_none (by simpa using hi)] at h
    cases h
theorem j_rng (lo : Int) (n : Nat) : JOk K G (Itr lo n) ⟨rngI lo n, none⟩ := fun G' st w' _ => ⟨fun i d hd => by
  obtain ⟨hi, rfl⟩ := get_rngI hd
  refine ⟨hi, fun x H2 hy => ?_⟩
  obtain ⟨rfl, rfl⟩ := hy
  exact ⟨G', rfl, rfl, .refl G', w', .int _⟩, fun i hi => by
  show n ≤ i
  simpa [rngI] using hi⟩
theorem j_rngC (lo c : Int) (n : Nat) : JOk K G (Itc lo c n) ⟨rngC lo c n, none⟩ := fun G' st w' _ => ⟨fun i d hd => by
  obtain ⟨hi, rfl⟩ := get_rngC hd
  refine ⟨hi, fun x H2 hy => ?_⟩
  obtain ⟨rfl, rfl⟩ := hy
  exact ⟨G', rfl, rfl, .refl G', w', .int _⟩, fun i hi => by
  show n ≤ i
  simpa [rngC] using hi⟩
theorem star_nil (env : PySem.Env) : starEach [] env = [] := rfl
theorem si_rng (ok : Ok c T N sc X) {tg : Expr} {xs : List Expr} {es : Es} {p pos : Pos} (hg : isGl sc "range" = true) (h : AllE X c es xs) (hl : xs.length = 1 ∨ xs.length = 2 ∨ xs.length = 3) : SI X tg (.Call (.Name "range" p) xs [] pos) (evalI c (.rng es)) := by
  have hm := ok.bl "range" (by decide +kernel)
  have hg := gl_of ok hg
  obtain ⟨t, pa, ka⟩ := h.sa
  have lenE : ∀ {es : Es} {xs : List Expr}, AllE X c es xs → ∀ {ρ S ds S1}, evalEs c es ρ S = some (ds, S1) → ds.length = xs.length := by
    intro es xs h
    induction h with
    | nil =>
      intro ρ S ds S1 e
      rw [evalEs] at e
      cases e
      rfl
    | cons _ _ _ _ ih =>
      intro ρ S ds S1 e
      rw [evalEs] at e
      split at e; rotate_left; cases e
      split at e; rotate_left; cases e
      rename_i ds' S2 e2
      cases e
      rw [List.length_cons, List.length_cons, ih e2]
  rcases hl with hl | hl | hl
  · obtain ⟨x, rfl⟩ : ∃ x, xs = [x] := by
      match xs, hl with
      | [x], _ => exact ⟨x, rfl⟩
    have hs : notStar x = true := by cases h; assumption
    refine ⟨_, pi_range1 hg hm pa (star_cons hs _ _), fun ρ G σ R wk S' w en h' q => ?_⟩
    rw [evalI] at h'
    split at h'; rotate_left; cases h'
    rename_i es' S1 e1
    rcases e2 : rngD es' with _ | ys
    · rw [e2] at h'; cases h'
    rw [e2] at h'
    cases h'
    have hl' := lenE h e1
    refine ka ρ G σ _ w en ⟨es', S', e1, fun G1 vs hS st w1 rs => ?_⟩
    unfold rngD at e2
    split at e2
    · split at e2
      · rename_i j hj
        cases e2
        obtain ⟨v, rfl, r⟩ := reps1 rs
        cases r
        exact ⟨j, rfl, hj.1, hj.2, q G1 _ hS st w1 (en.step st w) (j_rng 0 _) rfl⟩
      · cases e2
    · simp at hl'
    · simp at hl'
    · cases e2
  · obtain ⟨x, y, rfl⟩ : ∃ x y, xs = [x, y] := by
      match xs, hl with
      | [x, y], _ => exact ⟨x, y, rfl⟩
    have hs : notStar x = true ∧ notStar y = true := by
      cases h with
      | cons _ _ h1 t =>
        cases t with
        | cons _ _ h2 _ => exact ⟨h1, h2⟩
    refine ⟨_, pi_range2 hg hm pa (by rw [star_cons hs.1, star_cons hs.2]; rfl) (star_cons hs.2 _ _), fun ρ G σ R wk S' w en h' q => ?_⟩
    rw [evalI] at h'
    split at h'; rotate_left; cases h'
    rename_i es' S1 e1
    rcases e2 : rngD es' with _ | ys
    · rw [e2] at h'; cases h'
    rw [e2] at h'
    cases h'
    have hl' := lenE h e1
    refine ka ρ G σ _ w en ⟨es', S', e1, fun G1 vs hS st w1 rs => ?_⟩
    unfold rngD at e2
    split at e2
    · simp at hl'
    · split at e2
      · rename_i i j hj
        cases e2
        obtain ⟨v, u, rfl, r, r2⟩ := reps2 rs
        cases r
        cases r2
        exact ⟨i, j, rfl, ⟨hj.1.1, hj.1.2, hj.2.1, hj.2.2⟩, q G1 _ hS st w1 (en.step st w) (j_rng i _) rfl⟩
      · cases e2
    · simp at hl'
    · cases e2
  · obtain ⟨x, y, z, rfl⟩ : ∃ x y z, xs = [x, y, z] := by
      match xs, hl with
      | [x, y, z], _ => exact ⟨x, y, z, rfl⟩
    have hs : notStar x = true ∧ notStar y = true ∧ notStar z = true := by
      cases h with
      | cons _ _ h1 t =>
        cases t with
        | cons _ _ h2 t =>
          cases t with
          | cons _ _ h3 _ => exact ⟨h1, h2, h3⟩
    refine ⟨_, pi_range3 hg hm pa (star_cons hs.1 _ _) (by rw [star_cons hs.2.1, star_cons hs.2.2]; rfl), fun ρ G σ R wk S' w en h' q => ?_⟩
    rw [evalI] at h'
    split at h'; rotate_left; cases h'
    rename_i es' S1 e1
    rcases e2 : rngD es' with _ | ys
    · rw [e2] at h'; cases h'
    rw [e2] at h'
    cases h'
    have hl' := lenE h e1
    refine ka ρ G σ _ w en ⟨es', S', e1, fun G1 vs hS st w1 rs => ?_⟩
    unfold rngD at e2
    split at e2
    · simp at hl'
    · simp at hl'
    · split at e2
      · rename_i i j k hj
        obtain ⟨hj1, hj2, hj3⟩ := hj
        subst hj3
        cases e2
        cases rs with
        | cons r1 t =>
          cases t with
          | cons r2 t =>
            cases t with
            | cons r3 t =>
              cases t
              cases r1
              cases r2
              cases r3
              exact ⟨i, j, -1, (i - j).toNat, rfl, RgC.neg hj1.1 hj1.2 hj2.1 hj2.2, q G1 _ hS st w1 (en.step st w) (j_rngC i (-1) _) rfl⟩
      · cases e2
    · cases e2
theorem si_enum (ok : Ok c T N sc X) {elts : List Expr} {kk : Nat} {tpos p pos : Pos} {a : Expr} {ea : E} (hg : isGl sc "enumerate" = true) (ha : SE X a (evalE c ea)) (hs : notStar a = true) : SI X (.Tuple elts kk tpos) (.Call (.Name "enumerate" p) [a] [] pos) (evalI c (.enum ea)) := by
  obtain ⟨ta, pa, ka⟩ := ha
  refine ⟨_, pi_enum (gl_of ok hg) (ok.bl "enumerate" (by decide +kernel)) (pa_cons pa pa_nil (star_cons hs _ _)) (star_cons hs _ _), fun ρ G σ R wk S' w en h q => ?_⟩
  rw [evalI] at h
  split at h; rotate_left; cases h
  rename_i d S1 e1
  rcases e2 : seqW S1 d with _ | es
  · rw [e2] at h; cases h
  rw [e2] at h
  cases h
  refine SE.go (e := a) ka w en e1 fun G1 v hS st w1 en1 rx => ?_
  subst hS
  obtain ⟨a, vs, rfl, rs, k⟩ := rx.seqX w1 e2
  refine ⟨a, vs, rfl, k G1 (.of (.refl G1)), q G1 _ rfl st w1 en1 (fun G' st' w' _ => ⟨fun i d hd => ?_, fun i hi => ⟨vs, k G' st', by rw [← rs.length]; simpa [enumD] using hi⟩⟩) rfl⟩
  unfold enumD at hd
  rw [List.getElem?_map] at hd
  by_cases hi : i < es.length
  · rw [List.getElem?_range hi] at hd
    cases hd
    have hget : es[i]? = some (es.getD i .non) := by
      rw [List.getD_eq_getElem?_getD, List.getElem?_eq_getElem hi]
      rfl
    obtain ⟨x, hx, rx⟩ := rs.get hget
    refine ⟨⟨vs, x, k G' st', hx⟩, fun y H2 hy => ?_⟩
    obtain ⟨Tp, x', rfl, nT, rfl, hy⟩ := hy
    have e : x = x' := Option.some.inj (hx.symm.trans (hy vs (k G' st')))
    subst e
    exact ⟨G'.put Tp (.tup [.int (i : Nat), x]), rfl, rfl, stp_put nT, wf_put w' nT, new_tup w' nT (.cons (.int _) (.cons (rx.stepX st' w1) .nil))⟩
  · rw [List.getElem?_eq_none (by simpa using hi)] at hd
    cases hd
theorem get_zipD : ∀ {xs ys : List D} {i : Nat} {d : D}, (zipD xs ys)[i]? = some d → ∃ x y, xs[i]? = some x ∧ ys[i]? = some y ∧ d = .tup [x, y]
  | [], _, i, d, h => by simp [zipD] at h
  | _ :: _, [], i, d, h => by simp [zipD] at h
  | x :: xs, y :: ys, 0, d, h => by
    simp [zipD] at h
    exact ⟨x, y, rfl, rfl, h.symm⟩
  | x :: xs, y :: ys, i + 1, d, h => by
    have h : (zipD xs ys)[i]? = some d := by simpa [zipD] using h
    obtain ⟨a, b, h1, h2, h3⟩ := get_zipD h
    exact ⟨a, b, by simpa using h1, by simpa using h2, h3⟩
theorem len_zipD : ∀ (xs ys : List D), (zipD xs ys).length = min xs.length ys.length
  | [], ys => by simp [zipD]
  | _ :: _, [] => by simp [zipD]
  | x :: xs, y :: ys => by
    simp only [zipD, List.length_cons, len_zipD xs ys]
    omega
theorem si_zip (ok : Ok c T N sc X) {elts : List Expr} {kk : Nat} {tpos p pos : Pos} {a b : Expr} {ea eb : E} (hg : isGl sc "zip" = true) (ha : SE X a (evalE c ea)) (hb : SE X b (evalE c eb)) (hs : notStar a = true) (hs2 : notStar b = true) :
    SI X (.Tuple elts kk tpos) (.Call (.Name "zip" p) [a, b] [] pos) (evalI c (.zip ea eb)) := by
  obtain ⟨ta, pa, ka⟩ := ha
  obtain ⟨tb, pb, kb⟩ := hb
  refine ⟨_, pi_zip (gl_of ok hg) (ok.bl "zip" (by decide +kernel)) (pa_cons pa (pa_cons pb pa_nil (star_cons hs2 _ _)) (star_cons hs _ _)) (star_cons hs _ _) (by rw [star_cons hs2]; rfl), fun ρ G σ R wk S' w en h q => ?_⟩
  rw [evalI] at h
  split at h; rotate_left; cases h
  rename_i d S1 e1
  split at h; rotate_left; cases h
  rename_i d2 S2 e2
  split at h; rotate_left; cases h
  rename_i xs ys e3 e4
  cases h
  refine SE.go (e := a) ka w en e1 fun G1 v hS st w1 en1 rx => ?_
  subst hS
  refine SE.go (e := b) kb w1 en1 e2 fun G2 u hS2 st2 w2 en2 ry => ?_
  subst hS2
  obtain ⟨a, vs, rfl, rs, k⟩ := (rx.step st2 w1).seqX w2 e3
  obtain ⟨b, us, rfl, rs2, k2⟩ := ry.seqX w2 e4
  refine ⟨a, b, vs, us, rfl, k G2 (.of (.refl G2)), k2 G2 (.of (.refl G2)), q G2 _ rfl (st.trans st2) w2 en2 (fun G' st' w' _ => ⟨fun i d hd => ?_, fun i hi => ⟨vs, us, k G' st', k2 G' st', ?_⟩⟩) rfl⟩
  · obtain ⟨x, y, h1, h2, rfl⟩ := get_zipD hd
    obtain ⟨xv, hx, rx⟩ := rs.get h1
    obtain ⟨yv, hy, ry⟩ := rs2.get h2
    refine ⟨⟨vs, us, xv, yv, k G' st', k2 G' st', hx, hy⟩, fun z H2 hz => ?_⟩
    obtain ⟨Tp, x', y', rfl, nT, rfl, hz1, hz2⟩ := hz
    have e : xv = x' := Option.some.inj (hx.symm.trans (hz1 vs (k G' st')))
    have e' : yv = y' := Option.some.inj (hy.symm.trans (hz2 us (k2 G' st')))
    subst e
    subst e'
    exact ⟨G'.put Tp (.tup [xv, yv]), rfl, rfl, stp_put nT, wf_put w' nT, new_tup w' nT (.cons (rx.stepX st' w2) (.cons (ry.stepX st' w2) .nil))⟩
  · rw [len_zipD] at hi
    rw [← rs.length, ← rs2.length]
    omega
theorem si_rev (ok : Ok c T N sc X) {tg : Expr} {p pos : Pos} {a : Expr} {ea : E} (hg : isGl sc "reversed" = true) (ha : SE X a (evalE c ea)) (hs : notStar a = true) : SI X tg (.Call (.Name "reversed" p) [a] [] pos) (evalI c (.rev ea)) := by
  obtain ⟨ta, pa, ka⟩ := ha
  refine ⟨_, pi_reversed (gl_of ok hg) (ok.bl "reversed" (by decide +kernel)) (pa_cons pa pa_nil (star_cons hs _ _)) (star_cons hs _ _), fun ρ G σ R wk S' w en h q => ?_⟩
  rw [evalI] at h
  split at h; rotate_left; cases h
  rename_i d S1 e1
  rcases e2 : seqW S1 d with _ | es
  · rw [e2] at h; cases h
  rw [e2] at h
  cases h
  refine SE.go (e := a) ka w en e1 fun G1 v hS st w1 en1 rx => ?_
  subst hS
  obtain ⟨a, vs, rfl, rs, k⟩ := rx.seqX w1 e2
  refine ⟨a, vs, rfl, k G1 (.of (.refl G1)), q G1 _ rfl st w1 en1 (fun G' st' w' _ => ⟨fun i d hd => ?_, fun i hi => ?_⟩) rfl⟩
  · have hi : i < es.length := by
      have := (List.getElem?_eq_some_iff.mp hd).1
      simpa using this
    rw [List.getElem?_reverse hi] at hd
    obtain ⟨x, hx, rx⟩ := rs.get hd
    rw [rs.length] at hx hi
    refine ⟨⟨hi, vs, x, k G' st', hx⟩, fun y H2 hy => ?_⟩
    obtain ⟨rfl, hy⟩ := hy
    have e : x = y := Option.some.inj (hx.symm.trans (hy vs (k G' st')))
    subst e
    exact ⟨G', rfl, rfl, .refl G', w', rx.stepX st' w1⟩
  · show vs.length ≤ i
    rw [← rs.length]
    simpa using hi
end
end Sw

set_option Elab.async false
set_option linter.all false
set_option maxRecDepth 100000
set_option maxHeartbeats 4000000
namespace Sw
open PySem PySem.Spec PyProof.Rows L2

section
variable {X : Cx} {c : Fns} {T : Tab} {N : List Str} {sc : Scope} {K : PySem.W.Frag} {G G1 G2 G' : Gh}
/-! ### a reserved list, filled while a comprehension runs -/
theorem Wf.move (w : Wf K G) (hS : G'.S = G.S) (hb : G'.β = G.β) (m : Move K G G') (lst : ∀ i, i < G.S.length → ∀ vs, G.H (G.β i) = some (.lst vs) → G'.H (G.β i) = some (.lst vs))
    (nr : ∀ i, i < G.S.length → G'.Rs (G.β i) → G.Rs (G.β i)) (rs : ∀ a, G'.Rs a → ∃ vs, G'.H a = some (.lst vs)) : Wf K G' := by
  have lt : ∀ {i : Nat} {cl : Cell}, G.S[i]? = some cl → i < G.S.length := fun e => (List.getElem?_eq_some_iff.mp e).1
  have ow : ∀ a, G'.Own a ↔ G.Own a := fun a => by unfold Gh.Own; rw [hS, hb]
  refine ⟨fun i ds e => ?_, fun i ds e => ?_, fun i j ds es e1 e2 e3 => ?_, fun i ds e => ?_, rs, fun i h => ?_⟩
  · rw [hS] at e
    rw [hb]
    obtain ⟨vs, h1, h2⟩ := w.live i ds e
    exact ⟨vs, lst i (lt e) vs h1, h2.move m⟩
  · rw [hS] at e
    rw [hb, ow]
    obtain ⟨vs, h1, h2, h3, h4⟩ := w.frz i ds e
    exact ⟨vs, lst i (lt e) vs h1, h2, fun z => h3 (nr i (lt e) z), h4.move m⟩
  · rw [hS] at e1 e2
    rw [hb] at e3
    exact w.inj i j ds es e1 e2 e3
  · rw [hS] at e
    rw [hb]
    exact fun z => w.nrs i ds e (nr i (lt e) z)
  · rw [hS] at h
    rw [hb]
    obtain ⟨vs, h1⟩ := w.there i h
    exact ⟨vs, lst i h vs h1⟩
/-- a new list, reserved -/
abbrev Gh.rsv (G : Gh) (p : Addr) (vs : List V) : Gh := { G with H := upd G.H p (.lst vs), Rs := fun a => G.Rs a ∨ a = p }
theorem rsv_ok (w : Wf K G) {p : Addr} (hp : G.H p = none) : StpX G (G.rsv p []) ∧ Wf K (G.rsv p []) := by
  have st : Stp G (G.put p (.lst [])) := stp_put hp
  have sx : StpX G (G.rsv p []) := ⟨st, fun a h => .inl h, fun a h => h.elim .inl fun e => .inr (by rw [e]; exact hp)⟩
  refine ⟨sx, w.move rfl rfl (sx.move w) (fun i hi vs h => ?_) (fun i hi h => ?_) fun a h => ?_⟩
  · show upd G.H p _ _ = _
    rw [upd_ne (ne_of_none h hp)]
    exact h
  · rcases h with h | h
    · exact h
    · obtain ⟨us, e⟩ := w.there i hi
      rw [h, hp] at e
      cases e
  · rcases h with h | h
    · obtain ⟨us, e⟩ := w.rs a h
      refine ⟨us, ?_⟩
      show upd G.H p _ _ = _
      rw [upd_ne (ne_of_none e hp)]
      exact e
    · rw [h]
      exact ⟨_, upd_same⟩
/-- it grows -/
abbrev Gh.wrR (G : Gh) (p : Addr) (vs : List V) : Gh := { G with H := upd G.H p (.lst vs) }
theorem wrR_move {p : Addr} {vs us : List V} (hr : G.Rs p) (hp : G.H p = some (.lst us)) : Move K G (G.wrR p vs) := by
  refine ⟨fun a ws h n r => ⟨?_, n, r⟩, fun a ws h => ?_, fun a o u h => ?_, Nat.le_refl _, fun _ _ => rfl⟩
  · show upd G.H p _ _ = _
    rw [upd_ne (fun e => r (by rw [e]; exact hr))]
    exact h
  · show upd G.H p _ _ = _
    rw [upd_ne (fun e => by rw [e, hp] at h; cases h)]
    exact h
  · show upd G.H p _ _ = _
    rw [upd_ne (fun e => by rw [e, hp] at h; cases h)]
    exact h
theorem Wf.nown (w : Wf K G) {p : Addr} (hr : G.Rs p) : ¬ G.Own p := fun ⟨i, ds, e, z⟩ => w.nrs i ds e (by rw [z]; exact hr)
theorem wrR_ok (w : Wf K G) {p : Addr} {vs us : List V} (hr : G.Rs p) (hp : G.H p = some (.lst us)) : Wf K (G.wrR p vs) := by
  have m := wrR_move (K := K) (vs := vs) hr hp
  have all : ∀ a ws, G.H a = some (.lst ws) → ∃ ws', upd G.H p (.lst vs) a = some (.lst ws') := fun a ws h => by
    by_cases e : a = p
    · rw [e]
      exact ⟨_, upd_same⟩
    · rw [upd_ne e]
      exact ⟨ws, h⟩
  refine ⟨fun i ds e => ?_, fun i ds e => ?_, w.inj, w.nrs, fun a h => ?_, fun i h => ?_⟩
  · obtain ⟨ws, h1, h2⟩ := w.live i ds e
    refine ⟨ws, ?_, h2.move m⟩
    show upd G.H p _ _ = _
    rw [upd_ne (fun e' => w.nrs i ds e (by rw [e']; exact hr))]
    exact h1
  · obtain ⟨ws, h1, h2, h3, h4⟩ := w.frz i ds e
    refine ⟨ws, ?_, h2, h3, h4.move m⟩
    show upd G.H p _ _ = _
    rw [upd_ne (fun e' => h3 (by rw [e']; exact hr))]
    exact h1
  · obtain ⟨ws, e⟩ := w.rs a h
    exact all a ws e
  · obtain ⟨ws, e⟩ := w.there i h
    exact all _ ws e
/-- no longer reserved -/
theorem unrs_ok (w : Wf K G') {R : Addr → Prop} (h : ∀ a, R a → G'.Rs a) : Wf K { G' with Rs := R } ∧ Mono K G' { G' with Rs := R } := by
  have mv : Move K G' { G' with Rs := R } := ⟨fun a us h1 h2 h3 => ⟨h1, h2, fun z => h3 (h a z)⟩, fun _ _ h => h, fun _ _ _ h => h, Nat.le_refl _, fun _ _ => rfl⟩
  exact ⟨w.move rfl rfl mv (fun _ _ _ h => h) (fun i _ z => h _ z) fun a z => w.rs a (h a z), .of mv rfl⟩
theorem stp_grown {F : List Addr} (w : Wf K G) (st : Stp G { G' with Rs := G.Rs }) (rs : ∀ a, G'.Rs a ↔ G.Rs a ∨ a ∈ F) (g2 : Grown K G' G2 F) (fr : ∀ a ∈ F, G.H a = none) : Stp G G2 := by
  refine ⟨Nat.le_trans st.len g2.len, fun i hi => (g2.beta i (Nat.lt_of_lt_of_le hi st.len)).trans (st.beta i hi), fun a o q n => ?_, fun a o q => ?_, fun i h1 h2 => ?_, ?_, fun n hn bd i c hi e => ?_⟩
  · obtain ⟨q1, n1⟩ := st.keep a o q n
    refine ⟨by rw [g2.mono.H]; exact q1, fun z => ?_⟩
    rcases (g2.own a).mp z with z | z
    · exact n1 z
    · rw [fr a z] at q
      cases q
  · obtain ⟨o', q1⟩ := st.dom a o q
    exact ⟨o', by rw [g2.mono.H]; exact q1⟩
  · by_cases hi : i < G'.S.length
    · rw [g2.beta i hi]
      exact st.new i h1 hi
    · exact fr _ (g2.new i (by omega) h2)
  · funext a
    refine propext ⟨fun z => ?_, fun z => ?_⟩
    · obtain ⟨z1, z2⟩ := (g2.rs a).mp z
      rcases (rs a).mp z1 with q | q
      · exact q
      · exact (z2 q).elim
    · refine (g2.rs a).mpr ⟨(rs a).mpr (.inl z), fun q => ?_⟩
      exact free_not_rs w (fr a q) z
  · have hl : i < G'.S.length := by
      have := st.len
      have h3 : G.S.length ≤ G'.S.length := this
      omega
    rw [g2.old i hl] at e
    exact st.bd n hn bd i c hi e
/-- the reserved list is handed on -/
theorem PostE.rsv {o : Bool} {ds : List D} {vs : List V} {p : Addr} {S2 : Store} {Q : VK} (h : PostE K G (some (Sw.mk o ds S2)) Q) (w : Wf K G) (hp : G.H p = none) (sx : StpX G G') (hS : G'.S = S2) (hrs : ∀ a, G'.Rs a ↔ G.Rs a ∨ a = p) (w' : Wf K G') (hl : G'.H p = some (.lst vs)) (r : Reps K G' ds vs) : Q (.ref p) G'.H := by
  have hr : G'.Rs p := (hrs p).mpr (.inr rfl)
  subst hS
  cases o with
  | false =>
    obtain ⟨w2, m⟩ := unrs_ok w' (R := G.Rs) fun a z => (hrs a).mpr (.inl z)
    exact h.at (G' := { G' with Rs := G.Rs }) rfl sx.st w2 (Rep.lst (G := { G' with Rs := G.Rs }) hl (w'.nown hr) (free_not_rs w hp) (m.reps r))
  | true =>
    have g := Grown.one w' hl hr r
    obtain ⟨w2, m, r2⟩ := thw_ok w' hl hr r
    have st := stp_grown w sx.st (fun a => by rw [hrs]; simp) g (fun a ha => by rw [List.mem_singleton.mp ha]; exact hp)
    exact h.at (G' := G'.thw p ds) rfl st w2 r2

/-! ### one reading for all blocks -/
theorem SE.all {ι : Type} (Y : ι → Cx) (hK : ∀ i, (Y i).K = K) {e : Expr} {f : Env → Store → Option (D × Store)} (h : ∀ i, SE (Y i) e f) :
    ∃ t, (∀ i, PE (Y i) e t) ∧ ∀ ρ G σ Q, Wf K G → REnv K G ρ σ → PostE K G (f ρ G.S) Q → t σ G.H Q := by
  refine ⟨fun σ H Q => ∀ i, Classical.choose (h i) σ H Q, fun i => ⟨fun pins s σ H Q I q => ?_⟩, fun ρ G σ Q w en p i => ?_⟩
  · exact (Classical.choose_spec (h i)).1.run pins s σ H Q I (q i)
  · exact (Classical.choose_spec (h i)).2 ρ G σ Q (by rw [hK]; exact w) (by rw [hK]; exact en) (by rw [hK]; exact p)
def SC (X : Cx) (ifs : List Expr) (f : Env → Store → Option (Bool × Store)) : Prop :=
  ∃ t, PTs X ifs t ∧ ∀ ρ G σ Q, Wf X.K G → REnv X.K G ρ σ → PostT X.K G (f ρ G.S) Q → t σ G.H Q
theorem SC.all {ι : Type} (Y : ι → Cx) (hK : ∀ i, (Y i).K = K) {e : List Expr} {f : Env → Store → Option (Bool × Store)} (h : ∀ i, SC (Y i) e f) :
    ∃ t, (∀ i, PTs (Y i) e t) ∧ ∀ ρ G σ Q, Wf K G → REnv K G ρ σ → PostT K G (f ρ G.S) Q → t σ G.H Q := by
  refine ⟨fun σ H Q => ∀ i, Classical.choose (h i) σ H Q, fun i => ⟨fun pins s σ H Q I q => ?_⟩, fun ρ G σ Q w en p i => ?_⟩
  · exact (Classical.choose_spec (h i)).1.run pins s σ H Q I (q i)
  · exact (Classical.choose_spec (h i)).2 ρ G σ Q (by rw [hK]; exact w) (by rw [hK]; exact en) (by rw [hK]; exact p)
theorem SG.all {ι : Type} (Y : ι → Cx) (hK : ∀ i, (Y i).K = K) {e : Expr} {tg : Tg} (h : ∀ i, SG (Y i) e tg) :
    ∃ t, (∀ i, PG (Y i) e t) ∧ ∀ ρ G σ d v Q ρ1, Wf K G → REnv K G ρ σ → Rep K G d v → asg tg d ρ = some ρ1 → (∀ σ1, REnv K G ρ1 σ1 → (∀ vs, tgIn vs tg = true → L2.wipe σ1 vs = L2.wipe σ vs) → Q σ1 G.H) → t v σ G.H Q := by
  refine ⟨fun v σ H Q => ∀ i, Classical.choose (h i) v σ H Q, fun i => ⟨fun pins s σ H v u Q I r q => ?_⟩, fun ρ G σ d v Q ρ1 w en r e p i => ?_⟩
  · exact (Classical.choose_spec (h i)).1.run pins s σ H v u Q I r (q i)
  · exact (Classical.choose_spec (h i)).2 ρ G σ d v Q ρ1 (by rw [hK]; exact w) (by rw [hK]; exact en) (by rw [hK]; exact r) e fun σ1 en1 => p σ1 (by rw [hK] at en1; exact en1)
theorem sc_nil : SC X [] (evalC c .nop) := ⟨_, pts_nil, fun ρ G σ Q w en h => by
  simp only [evalC] at h
  exact h.now w⟩
theorem sc_one {x : Expr} {e : E} (h : ST X x (evalT c e)) (hn : e ≠ .nop) : SC X [x] (evalC c e) := by
  obtain ⟨t, p, k⟩ := h
  refine ⟨_, pts_one p, fun ρ G σ Q w en h => ?_⟩
  rw [evalC] at h <;> try exact hn
  exact k ρ G σ Q w en h
theorem wipe_none {σ : L2.St} : ∀ {vs : List Nat} {j : Nat}, j ∈ vs → (L2.wipe σ vs).set j none = L2.wipe σ vs
  | v :: vs, j, h => by
    unfold L2.wipe
    by_cases e : j = v
    · subst e
      rw [List.set_set]
    · have h' : j ∈ vs := by
        rcases List.mem_cons.mp h with q | q
        · exact absurd q e
        · exact q
      rw [List.set_comm _ _ (fun z => e z.symm), wipe_none h']
theorem wipe_sub {σ : L2.St} {vs : List Nat} : ∀ {ws : List Nat}, (∀ j ∈ ws, j ∈ vs) → L2.wipe (L2.wipe σ vs) ws = L2.wipe σ vs
  | [], _ => rfl
  | w :: ws, h => by
    show (L2.wipe (L2.wipe σ vs) ws).set w none = _
    rw [wipe_sub fun j hj => h j (List.mem_cons_of_mem _ hj)]
    exact wipe_none (h w List.mem_cons_self)
theorem compL_cons {wk : Wk} {step : D → Store → Option (Option D × Store)} {d : D} {ds : List D} {S S2 : Store} {ys : List D} (h : compL wk step (d :: ds) S = some (ys, S2)) : ∃ r S1 rs, step d S = some (r, S1) ∧ okW S1 wk = true ∧ compL wk step ds S1 = some (rs, S2) ∧ ys = r.toList ++ rs := by
  rw [compL] at h
  split at h; rotate_left; cases h
  rename_i r S1 e1
  split at h; rotate_left; cases h
  rename_i hw
  split at h; rotate_left; cases h
  rename_i rs S2' e2
  cases h
  exact ⟨r, S1, rs, e1, hw, e2, rfl⟩
abbrev BI := Shared × Hp × Addr × List (Str × Addr) × List Addr
abbrev blkOf (X : Cx) (scope : Scope) (i : BI) : Cx := X.blk i.1 i.2.1 scope (compEnvC scope i.2.2.2.1 i.2.2.1 X.env) i.2.2.2.2
/-- a display's reading, and that of a name's store of it on one line -/
def SL (X : Cx) (N : List Str) (e : Expr) (f : Env → Store → Option (D × Store)) : Prop :=
  ∃ t, PE X e t ∧ (∀ (i : Nat) (y : Str) (py spos : Pos), N[i]? = some y → X.env.scope.names.lookup y = some .local → swapsWith e (some (.Name y py)) spos.line X.env = pure true → PS X (.Assign [.Name y py] e spos) (tAsg t (gName i))) ∧
    ∀ ρ G σ Q, Wf X.K G → REnv X.K G ρ σ → PostE X.K G (f ρ G.S) Q → t σ G.H Q
theorem SL.se {e : Expr} {f : Env → Store → Option (D × Store)} (h : SL X N e f) : SE X e f := let ⟨t, p, _, k⟩ := h; ⟨t, p, k⟩
theorem sl_comp (ok : Ok c T N sc X) {elt tg iter : Expr} {ifs : List Expr} {scope : Scope} {pos : Pos} {o : Bool} {ee ec : E} {etg : Tg} {eit : Sw.It} {own : List Nat}
    (hi : SI X tg iter (evalI c eit)) (hb : BlkOk N sc scope (own.map fun i => (N.getD i "", i)))
    (hg : ∀ i, SG (blkOf X scope i) tg etg) (ht : ∀ i, SC (blkOf X scope i) ifs (evalC c ec)) (he : ∀ i, SE (blkOf X scope i) elt (evalE c ee))
    (hin : tgIn own etg = true) (hf : ∀ x, foldedSetIterable iter X.env x = pure x) : SL X N (.ListComp elt [⟨tg, iter, ifs, 0⟩] scope pos) (evalE c (.comp o ee etg eit ec own)) := by
  obtain ⟨wi, pi, ki⟩ := hi
  obtain ⟨g, pg, kg⟩ := SG.all (K := X.K) (blkOf X scope) (fun _ => rfl) hg
  obtain ⟨tt, pt, kt⟩ := SC.all (K := X.K) (blkOf X scope) (fun _ => rfl) ht
  obtain ⟨te, pe, ke⟩ := SE.all (K := X.K) (blkOf X scope) (fun _ => rfl) he
  have hown : (own.map fun i => (N.getD i ("" : Str), i)).map (·.2) = own := by
    rw [List.map_map]
    exact List.map_id' own
  refine ⟨_, pe_lc ok.calm (by rw [ok.hN]; exact ok.nd) pi (own := own.map fun i => (N.getD i "", i)) (by rw [ok.hN, ok.hsc]; exact hb) (fun s H C cl fp => pg (s, H, C, cl, fp)) (fun s H C cl fp => pt (s, H, C, cl, fp)) (fun s H C cl fp => pe (s, H, C, cl, fp)) hf,
    fun i y py spos hy hyl hsw => ps_setLc ok.calm (by rw [ok.hN]; exact ok.nd) (by rw [ok.hN]; exact hy) hyl hsw pi (own := own.map fun i => (N.getD i "", i)) (by rw [ok.hN, ok.hsc]; exact hb) (fun s H C cl fp => pg (s, H, C, cl, fp)) (fun s H C cl fp => pt (s, H, C, cl, fp)) (fun s H C cl fp => pe (s, H, C, cl, fp)) hf, fun ρ G σ Q w en h => ?_⟩
  rw [hown]
  rw [evalE] at h
  split at h; rotate_left; exact h.no
  rename_i wk S1 e1
  split at h; rotate_left; exact h.no
  rename_i ys S2 e2
  split at h; rotate_left; exact h.no
  rename_i hz
  refine ki ρ G σ _ wk S1 w en e1 fun G1 J hS st w1 en1 j hok0 D hD => ?_
  generalize hds : wk.ds = ds at *
  subst hS
  have h := h.mono st
  obtain ⟨sx0, w0⟩ := rsv_ok w1 hD
  refine ⟨fun i m H => m = ds.length - i ∧ i ≤ ds.length ∧ ∃ G' accD acc rest, G'.H = H ∧ StpX G1 G' ∧ Wf X.K G' ∧ (∀ a, G'.Rs a ↔ G1.Rs a ∨ a = D) ∧ G'.H D = some (.lst acc) ∧ Reps X.K G' accD acc ∧ acc.length ≤ i ∧ okW G'.S wk = true ∧
      compL wk (fun d S' => match asg etg d (wipeE ρ own) with
        | some ρ1 => match evalC c ec ρ1 S' with
          | some (true, S2) => match evalE c ee ρ1 S2 with
            | some (y, S3) => some (some y, S3)
            | none => none
          | some (false, S2) => some (none, S2)
          | none => none
        | none => none) (ds.drop i) G'.S = some (rest, S2) ∧ ys = accD ++ rest,
    ⟨ds.length, by omega, by omega, G1.rsv D [], [], [], ys, rfl, sx0, w0, fun a => .rfl, upd_same, .nil, by simp, hok0, e2, rfl⟩, ?_⟩
  rintro i m H ⟨rfl, hi, G', accD, acc, rest, rfl, sx, w', hrs, hl, ra, hal, hok, hc, hy⟩
  by_cases hlt : i < ds.length
  · obtain ⟨jg, _⟩ := j G' sx w' hok
    have hget : ds[i]? = some ds[i] := List.getElem?_eq_getElem hlt
    obtain ⟨go, yl⟩ := jg i _ (by rw [hds]; exact hget)
    rw [List.drop_eq_getElem_cons hlt] at hc
    obtain ⟨r, S1', rs, es, hok2, ec', ey⟩ := compL_cons hc
    refine .inr ⟨go, fun H' => ∃ G' accD acc rest, G'.H = H' ∧ StpX G1 G' ∧ Wf X.K G' ∧ (∀ a, G'.Rs a ↔ G1.Rs a ∨ a = D) ∧ G'.H D = some (.lst acc) ∧ Reps X.K G' accD acc ∧ acc.length ≤ i + 1 ∧ okW G'.S wk = true ∧
      compL wk _ (ds.drop (i + 1)) G'.S = some (rest, S2) ∧ ys = accD ++ rest, fun H' n => ⟨ds.length - (i + 1), by omega, rfl, by omega, n⟩, fun x H2 hyl => ?_⟩
    obtain ⟨G2, rfl, hS2, st2, w2, rx⟩ := yl x H2 hyl
    have sx2 := sx.trans st2
    split at es; rotate_left; cases es
    rename_i ρ1 ea
    refine kg (wipeE ρ own) G2 (L2.wipe σ own) _ x _ ρ1 w2 ((en1.stepX sx2 w1).wipe own) rx ea fun σ2 en2 hw => ⟨?_, ?_⟩
    · rw [hw own hin]
      exact wipe_sub fun j hj => hj
    · have l2 : G2.H D = some (.lst acc) ∧ ¬ G2.Own D := st2.keep D _ hl (w'.nown ((hrs D).mpr (.inr rfl)))
      split at es
      · rename_i S3 e3
        rw [← hS2] at e3
        refine kt ρ1 G2 σ2 _ w2 en2 ⟨true, S3, e3, fun G3 hS3 st3 w3 => ?_⟩
        refine iteT ?_
        split at es; rotate_left; cases es
        rename_i y S4 e4
        cases es
        subst hS3
        have l3 := st3.keep D _ l2.1 l2.2
        refine ke ρ1 G3 σ2 _ w3 (en2.step st3 w2) ⟨y, _, e4, fun G4 v hS4 st4 w4 ry => ?_⟩
        have l4 := st4.keep D _ l3.1 l3.2
        have sx4 := (sx2.trans st3).trans st4
        have hrs4 : ∀ a, G4.Rs a ↔ G1.Rs a ∨ a = D := fun a => by rw [st4.rs, st3.rs, st2.rs]; exact hrs a
        have rD : G4.Rs D := (hrs4 D).mpr (.inr rfl)
        have mv := wrR_move (K := X.K) (vs := acc ++ [v]) rD l4.1
        refine ⟨acc, l4.1, by omega, G4.wrR D (acc ++ [v]), accD ++ [y], acc ++ [v], rs, rfl, ?_, wrR_ok w4 rD l4.1, hrs4, upd_same, ((((ra.step st2 w').step st3 w2).step st4 w3).move mv).append (.cons (ry.move mv) .nil), by simp; omega, ?_, ?_, ?_⟩
        · refine ⟨⟨sx4.st.len, sx4.st.beta, fun a u q n => ?_, fun a u q => ?_, sx4.st.new, rfl, sx4.st.bd⟩, sx4.up, sx4.fr⟩
          · obtain ⟨q1, n1⟩ := sx4.st.keep a u q n
            refine ⟨?_, n1⟩
            show upd G4.H D _ a = _
            rw [upd_ne (fun e => by rw [e, hD] at q; cases q)]
            exact q1
          · obtain ⟨o', q1⟩ := sx4.st.dom a u q
            refine ⟨o', ?_⟩
            show upd G4.H D _ a = _
            rw [upd_ne (fun e => by rw [e, hD] at q; cases q)]
            exact q1
        · show okW G4.S wk = true
          rw [hS4]
          exact hok2
        · show compL _ _ _ G4.S = _
          rw [hS4]
          exact ec'
        · rw [hy, ey]
          show accD ++ (y :: rs) = (accD ++ [y]) ++ rs
          simp
      · rename_i S3 e3
        rw [← hS2] at e3
        cases es
        refine kt ρ1 G2 σ2 _ w2 en2 ⟨false, _, e3, fun G3 hS3 st3 w3 => ?_⟩
        refine iteF ?_
        have l3 := st3.keep D _ l2.1 l2.2
        exact ⟨G3, accD, acc, rs, rfl, sx2.trans st3, w3, fun a => by rw [st3.rs, st2.rs]; exact hrs a, l3.1, (ra.step st2 w').step st3 w2, by omega, by rw [hS3]; exact hok2, by rw [hS3]; exact ec', by rw [hy, ey]; rfl⟩
      · cases es
  · have ei : i = ds.length := by omega
    subst ei
    rw [List.drop_length, compL] at hc
    cases hc
    rw [List.append_nil] at hy
    subst hy
    obtain ⟨_, js⟩ := j G' sx w' hok
    rw [hds] at js
    exact .inl ⟨js _ (Nat.le_refl _), h.rsv w1 hD sx rfl hrs w' hl ra⟩
end
end Sw

set_option Elab.async false
set_option linter.all false
set_option maxRecDepth 100000
set_option maxHeartbeats 4000000
namespace Sw
open PySem PySem.Spec PyProof.Rows L2

/-! ### statements -/
def EndF (K : PySem.W.Frag) (D : Ends) (G : Gh) (σ : L2.St) : Flow' → Prop
  | .nx => D.nx σ G.H
  | .bk => D.bk σ G.H
  | .ct => D.ct σ G.H
  | .ret d => ∀ v, Rep K G d v → D.rt v G.H
def PostS (K : PySem.W.Frag) (G : Gh) (r : Option (Flow' × Env × Store)) (D : Ends) : Prop :=
  ∃ fl ρ S', r = some (fl, ρ, S') ∧ ∀ G' σ, G'.S = S' → Stp G G' → Wf K G' → REnv K G' ρ σ → EndF K D G' σ fl
def SS (X : Cx) (s : Stmt) (f : Env → Store → Option (Flow' × Env × Store)) : Prop :=
  ∃ t, PS X s t ∧ ∀ ρ G σ D, Wf X.K G → REnv X.K G ρ σ → PostS X.K G (f ρ G.S) D → t D σ G.H
def SSs (X : Cx) (s : List Stmt) (f : Env → Store → Option (Flow' × Env × Store)) : Prop :=
  ∃ t, PSs X s t ∧ ∀ ρ G σ D, Wf X.K G → REnv X.K G ρ σ → PostS X.K G (f ρ G.S) D → t D σ G.H
structure OkS (c : Fns) (T : Tab) (N : List Str) (sc : Scope) (X : Cx) : Prop extends Ok c T N sc X where
  kind : sc.kind = .function
  fnL : OkL sc sc X
  po : PassesOwn (model X.prog X.w) X.A X.env X.xe
section
variable {X : Cx} {c : Fns} {M : Nat} {T : Tab} {N : List Str} {sc : Scope} {K : PySem.W.Frag} {G G1 G2 G' : Gh}
theorem PostS.mono {r : Option (Flow' × Env × Store)} {D : Ends} (h : PostS K G r D) (s : Stp G G1) : PostS K G1 r D :=
  let ⟨fl, ρ, S', e, q⟩ := h; ⟨fl, ρ, S', e, fun G' v a b c d => q G' v a (s.trans b) c d⟩
theorem PostS.no {D : Ends} (h : PostS K G none D) {P : Prop} : P := by
  obtain ⟨_, _, _, e, _⟩ := h
  cases e
theorem PostS.now {fl : Flow'} {ρ : Env} {σ : L2.St} {D : Ends} (h : PostS K G (some (fl, ρ, G.S)) D) (w : Wf K G) (en : REnv K G ρ σ) : EndF K D G σ fl := by
  obtain ⟨_, _, _, e, q⟩ := h
  cases e
  exact q G σ rfl (.refl G) w en
theorem PostS.at {fl : Flow'} {ρ : Env} {S' : Store} {σ : L2.St} {D : Ends} (h : PostS K G (some (fl, ρ, S')) D) (hS : G'.S = S') (s : Stp G G') (w : Wf K G') (en : REnv K G' ρ σ) : EndF K D G' σ fl := by
  obtain ⟨_, _, _, e, q⟩ := h
  cases e
  exact q G' σ hS s w en
theorem PostS.mapE {r : Option Env} {S : Store} {D : Ends} (h : PostS K G (r.map fun ρ1 => (Flow'.nx, ρ1, S)) D) : ∃ k, r = some k ∧ PostS K G (some (.nx, k, S)) D := by
  cases r with
  | none => exact h.no
  | some k => exact ⟨k, rfl, h⟩
theorem PostS.mapS {r : Option Store} {ρ : Env} {D : Ends} (h : PostS K G (r.map fun S4 => (Flow'.nx, ρ, S4)) D) : ∃ k, r = some k ∧ PostS K G (some (.nx, ρ, k)) D := by
  cases r with
  | none => exact h.no
  | some k => exact ⟨k, rfl, h⟩
def isComp : Expr → Bool
  | .ListComp _ _ _ _ => true
  | .SetComp _ _ _ _ => true
  | .DictComp _ _ _ _ _ => true
  | _ => false
theorem swaps_no {e : Expr} (h : isComp e = false) (t : Option Expr) (l : Nat) (env : PySem.Env) : swapsWith e t l env = pure false := by
  cases e <;> first | rfl | cases h
theorem ss_stk {s : Stmt} : SS X s (exec c M .stk) := ⟨fun _ _ _ => False, ⟨fun _ _ _ _ _ _ h => h.elim⟩, fun ρ G σ D w en h => by
  rw [exec] at h
  exact h.no⟩
theorem ss_set (ok : OkS c T N sc X) {i : Nat} {x : Str} {e : Expr} {ee : E} {p pos : Pos} (hi : N[i]? = some x) (hl : isLoc sc x = true) (he : SE X e (evalE c ee)) (hc : isComp e = false) : SS X (.Assign [.Name x p] e pos) (exec c M (.set i ee)) := by
  obtain ⟨t, pe, k⟩ := he
  have hx := loc_of hl
  refine ⟨_, ps_set (i := i) (by rw [ok.hN]; exact ok.nd) (by rw [ok.hN]; exact hi) (by rw [ok.hsc]; exact hx) pe (swaps_no hc _ _ _) (by rw [ok.hsc]; exact (ok.fnL x hx).2), fun ρ G σ D w en h => ?_⟩
  rw [exec] at h
  split at h; rotate_left; exact h.no
  rename_i d S1 e1
  refine SE.go (e := e) k w en e1 fun G1 v hS st w1 en1 rx => ?_
  subst hS
  exact (h.mono st).now w1 (en1.set rx)
/-- name = [.. for ..] -/
def swapB (scope sc : Scope) (x : Str) (p pos : Pos) : Bool :=
  isLocal sc x && p.line == pos.line && !(scope.names.any fun (n, k) => n == x && (k == .local || k == .cell))
theorem swaps_comp (ok : OkS c T N sc X) {elt : Expr} {gs : List Comprehension} {scope : Scope} {x : Str} {p pos : Pos} {l : Nat} : swapsWith (.ListComp elt gs scope pos) (some (.Name x p)) l X.env = pure (swapB scope sc x p pos) := by
  have hk : X.env.scope.kind = .function := by rw [ok.hsc]; exact ok.kind
  have hb : X.env.blockKind = .function := by unfold Env.blockKind; rw [hk]; rfl
  have he : (X.env.kindOf x == some .local) = isLocal sc x := by
    unfold isLocal
    show (X.env.scope.names.lookup x == some .local) = _
    rw [ok.hsc]
    split
    · rename_i q
      rw [q]
      rfl
    · rename_i q
      cases e : sc.names.lookup x with
      | none => rfl
      | some k => cases k <;> first | rfl | exact (q e).elim
  unfold swapsWith swapB
  simp only [hb, he, Expr.pos]
  rfl
theorem ss_setL (ok : OkS c T N sc X) {i : Nat} {x : Str} {elt : Expr} {gs : List Comprehension} {scope : Scope} {cpos : Pos} {ee : E} {p pos : Pos} (hi : N[i]? = some x) (hl : isLoc sc x = true) (he : SL X N (.ListComp elt gs scope cpos) (evalE c ee)) : SS X (.Assign [.Name x p] (.ListComp elt gs scope cpos) pos) (exec c M (.set i ee)) := by
  obtain ⟨t, pe, ps, k⟩ := he
  have hx := loc_of hl
  have fin : ∀ ρ G σ D, Wf X.K G → REnv X.K G ρ σ → PostS X.K G (exec c M (.set i ee) ρ G.S) D → tAsg t (gName i) D σ G.H := fun ρ G σ D w en h => by
    rw [exec] at h
    split at h; rotate_left; exact h.no
    rename_i d S1 e1
    refine SE.go (e := elt) k w en e1 fun G1 v hS st w1 en1 rx => ?_
    subst hS
    exact (h.mono st).now w1 (en1.set rx)
  by_cases hs : swapB scope sc x p cpos = true
  · have hloc : isLocal sc x = true := by
      unfold swapB at hs
      rw [Bool.and_eq_true, Bool.and_eq_true] at hs
      exact hs.1.1
    exact ⟨_, ps i x p pos hi (by rw [ok.hsc]; exact local_of hloc) (by rw [swaps_comp ok, hs]), fin⟩
  · have hs : swapB scope sc x p cpos = false := by simpa using hs
    exact ⟨_, ps_set (i := i) (by rw [ok.hN]; exact ok.nd) (by rw [ok.hN]; exact hi) (by rw [ok.hsc]; exact hx) pe (by rw [swaps_comp ok, hs]) (by rw [ok.hsc]; exact (ok.fnL x hx).2), fin⟩
def isTupE : Expr → Bool
  | .Tuple _ _ _ => true
  | _ => false
theorem swapsSole_tup {e : Expr} {es : List Expr} {k : Nat} {p : Pos} (l : Nat) (env : PySem.Env) : swapsWithSole [.Tuple es k p] e l env = pure false := by
  show swapsWith e (some (.Tuple es k p)) l env = _
  cases e <;> rfl
theorem swapped_no {e : Expr} (h : isTupE e = false) {es : List Expr} {k : Nat} {p : Pos} (env : PySem.Env) : swappedStores [.Tuple es k p] e env = pure none := by
  cases e <;> first | rfl | cases h
theorem ss_setT (ok : OkS c T N sc X) {es : List Expr} {k : Nat} {p pos : Pos} {e : Expr} {ee : E} {tg : Tg} (hg : SG X (.Tuple es k p) tg) (he : SE X e (evalE c ee)) (hn : isTupE e = false) : SS X (.Assign [.Tuple es k p] e pos) (exec c M (.setT tg ee)) := by
  obtain ⟨t, pe, ke⟩ := he
  obtain ⟨g, pg, kg⟩ := hg
  refine ⟨_, ps_asg pe pg (swapsSole_tup _ _) (swapped_no hn _) rfl, fun ρ G σ D w en h => ?_⟩
  rw [exec] at h
  split at h; rotate_left; exact h.no
  rename_i d S1 e1
  obtain ⟨ρ1, ea, h⟩ := h.mapE
  refine SE.go (e := e) ke w en e1 fun G1 v hS st w1 en1 rx => ?_
  subst hS
  exact kg ρ G1 σ d v _ ρ1 w1 en1 rx ea fun σ1 en2 _ => (h.mono st).now w1 en2
def parB (sc : Scope) (x y : Str) (px py : Pos) (a b : Expr) : Bool :=
  isLocal sc x && isLocal sc y && px.line == py.line && !(x == y) && notStar a && notStar b && !([a, b].all (foldedForSure 8)) && !([a, b].all (constantsAlone 8))
theorem local_beq {x : Str} (ok : OkS c T N sc X) (h : isLocal sc x = true) : (X.env.kindOf x == some .local) = true := by
  show (X.env.scope.names.lookup x == some .local) = true
  rw [ok.hsc, local_of h]
  rfl
theorem star_any {a b : Expr} (ha : notStar a = true) (hb : notStar b = true) : ([a, b].any fun | .Starred .. => true | _ => false) = false := by
  cases a <;> first | (cases ha; done) | (cases b <;> first | rfl | cases hb)
theorem swapped_par (ok : OkS c T N sc X) {x y : Str} {a b : Expr} {px py pt pt2 : Pos} {kt k2 : Nat} (h : parB sc x y px py a b = true) : swappedStores [.Tuple [.Name x px, .Name y py] kt pt] (.Tuple [a, b] k2 pt2) X.env = pure (some [x, y]) := by
  unfold parB at h
  simp only [Bool.and_eq_true, Bool.not_eq_true'] at h
  obtain ⟨⟨⟨⟨⟨⟨⟨h1, h2⟩, h3⟩, h4⟩, h5⟩, h6⟩, h7⟩, h8⟩ := h
  have hk : X.env.scope.kind = .function := by rw [ok.hsc]; exact ok.kind
  have hb : X.env.blockKind = .function := by unfold Env.blockKind; rw [hk]; rfl
  have l1 := local_beq ok h1
  have l2 := local_beq ok h2
  have h4' : (x == y) = false := h4
  have hyx : (y == x) = false := by
    rw [beq_eq_false_iff_ne] at h4' ⊢
    exact fun e => h4' e.symm
  have h3' : py.line == px.line := by
    have e : px.line = py.line := by simpa using h3
    simp [e]
  unfold swappedStores
  simp only [hb, star_any h5 h6, h7, h8, List.filterMap_cons, List.filterMap_nil, l1, l2, Expr.pos, List.head?, Option.map, Option.getD, beq_self_eq_true, h3', Bool.and_self, if_true, List.length_cons, List.length_nil]
  simp [List.eraseDups_cons, hyx]
  intro hh
  rcases hh with hh | hh
  · cases a <;> first | (cases hh; done) | (cases h5; done)
  · cases b <;> first | (cases hh; done) | (cases h6; done)
theorem ss_par (ok : OkS c T N sc X) {i j : Nat} {x y : Str} {a b : Expr} {ea eb : E} {px py pt pt2 pos : Pos} {kt k2 : Nat} (hi : N[i]? = some x) (hj : N[j]? = some y) (h : parB sc x y px py a b = true) (hij : i ≠ j) (ha : SE X a (evalE c ea)) (hb : SE X b (evalE c eb)) :
    SS X (.Assign [.Tuple [.Name x px, .Name y py] kt pt] (.Tuple [a, b] k2 pt2) pos) (exec c M (.par i j ea eb)) := by
  obtain ⟨ta, pa, ka⟩ := ha
  obtain ⟨tb, pb, kb⟩ := hb
  have h' := h
  unfold parB at h'
  simp only [Bool.and_eq_true, Bool.not_eq_true'] at h'
  obtain ⟨⟨⟨⟨⟨⟨⟨h1, h2⟩, h3⟩, h4⟩, h5⟩, h6⟩, h7⟩, h8⟩ := h'
  refine ⟨_, ps_par ok.calm (by rw [ok.hN]; exact ok.nd) (by rw [ok.hN]; exact hi) (by rw [ok.hN]; exact hj) hij (by rw [ok.hsc]; exact local_of h1) (by rw [ok.hsc]; exact local_of h2) (pa_cons pa (pa_cons pb pa_nil (star_cons h6 _ _)) (star_cons h5 _ _)) (swapped_par ok h) (swapsSole_tup _ _), fun ρ G σ D w en hp => ?_⟩
  rw [exec] at hp
  split at hp; rotate_left; exact hp.no
  rename_i d S1 e1
  split at hp; rotate_left; exact hp.no
  rename_i d2 S2 e2
  refine SE.go (e := a) ka w en e1 fun G1 v hS st w1 en1 rx => ?_
  subst hS
  refine SE.go (e := b) kb w1 en1 e2 fun G2 u hS2 st2 w2 en2 ry => ?_
  subst hS2
  exact ⟨v, u, rfl, ((hp.mono st).mono st2).now w2 ((en2.set (rx.step st2 w1)).set ry)⟩
def augOp : Bop → Option Operator
  | .add => some .Add
  | .sub => some .Sub
  | _ => none
theorem ss_aug (ok : OkS c T N sc X) {i : Nat} {x : Str} {op : Bop} {o : Operator} {e : Expr} {ee : E} {p pos : Pos} (hi : N[i]? = some x) (hl : isLoc sc x = true) (ho : augOp op = some o) (he : SE X e (evalE c ee)) : SS X (.AugAssign (.Name x p) o e pos) (exec c M (.aug i op ee)) := by
  obtain ⟨t, pe, k⟩ := he
  have hx := loc_of hl
  have fin : ∀ (f : Int → Int → Int), (∀ x y, augI op x y = some (f x y)) → ∀ ρ G σ D, Wf X.K G → REnv X.K G ρ σ → PostS X.K G (exec c M (.aug i op ee) ρ G.S) D → tAug i t (ipI f) D σ G.H := fun f hf ρ G σ D w en h => by
    rw [exec] at h
    split at h; rotate_left; exact h.no
    rename_i a ea
    split at h; rotate_left; exact h.no
    rename_i b S1 eb
    simp only [hf] at h
    obtain ⟨v, h1, h2⟩ := en.get i _ ea
    cases h2
    refine ⟨_, h1, ?_⟩
    refine SE.go (e := e) k w en eb fun G1 v hS st w1 en1 rx => ?_
    subst hS
    cases rx
    exact ⟨a, b, rfl, rfl, (h.mono st).now w1 (en1.set (.int _))⟩
  cases op with
  | add =>
    cases ho
    exact ⟨_, ps_aug (i := i) (by rw [ok.hN]; exact ok.nd) (by rw [ok.hN]; exact hi) (by rw [ok.hsc]; exact hx) pe ip_add (by rw [ok.hsc]; exact (ok.fnL x hx).2), fin _ fun _ _ => rfl⟩
  | sub =>
    cases ho
    exact ⟨_, ps_aug (i := i) (by rw [ok.hN]; exact ok.nd) (by rw [ok.hN]; exact hi) (by rw [ok.hsc]; exact hx) pe ip_sub (by rw [ok.hsc]; exact (ok.fnL x hx).2), fin _ fun _ _ => rfl⟩
  | _ => cases ho
/-! stores by place -/
theorem assign_sub {o i : Expr} {pos : Pos} (h : plainIx i = true) (env : PySem.Env) (v : Value) : assign (.Subscript o i pos) env v = (do
      let ov ← holding [v] (eval o env)
      let iv ← holding [v, ov] (eval i env)
      standAt pos
      holding [v, ov, iv] (setItem ov iv v)
      release [v, ov, iv] []) := by
  cases i <;> first | rfl | cases h
theorem swapsSole_sub {e o i : Expr} {p : Pos} (l : Nat) (env : PySem.Env) : swapsWithSole [.Subscript o i p] e l env = pure false := by
  show swapsWith e (some (.Subscript o i p)) l env = _
  cases e <;> rfl
theorem swapped_sub {e o i : Expr} {p : Pos} (env : PySem.Env) : swappedStores [.Subscript o i p] e env = pure none := by
  cases e <;> rfl
theorem setIx_ok (w : Wf K G) {x k y : D} {v u z : V} {S4 : Store} {Q : Hp → Prop} (rx : Rep K G x v) (rk : Rep K G k u) (ry : Rep K G y z) (h : setIxD G.S x k y = some S4) (q : ∀ G', G'.S = S4 → Stp G G' → Wf K G' → Q G'.H) : rSetL v u z G.H Q := by
  unfold setIxD at h
  split at h; rotate_left; cases h
  rename_i b k
  split at h; rotate_left; cases h
  rename_i ds e
  split at h; rotate_left; cases h
  rename_i j ej
  split at h; rotate_left; cases h
  rename_i hb
  cases h
  cases rk
  cases rx
  obtain ⟨vs, hv, rs⟩ := w.live b ds e
  obtain ⟨st, w'⟩ := write_box (ds := ds.set j y) (vs := vs.set j z) w e (rs.set ry j) fun n hn => bnds_set (bnd_zero y hb) j hn
  exact ⟨_, vs, k, j, rfl, rfl, hv, by rw [← rs.length]; exact ej, q (G.wr b (ds.set j y) (vs.set j z)) rfl st w'⟩
theorem ss_setIx (ok : OkS c T N sc X) {a i e : Expr} {ea ei ee : E} {p pos : Pos} (ha : SE X a (evalE c ea)) (hi : SE X i (evalE c ei)) (he : SE X e (evalE c ee)) (hp : plainIx i = true) : SS X (.Assign [.Subscript a i p] e pos) (exec c M (.setIx ea ei ee)) := by
  obtain ⟨ta, pa, ka⟩ := ha
  obtain ⟨ti, pi, ki⟩ := hi
  obtain ⟨te, pe, ke⟩ := he
  refine ⟨_, ps_asg pe (pg_sub pa pi set_list (fun v => assign_sub hp _ v)) (swapsSole_sub _ _) (swapped_sub _) rfl, fun ρ G σ D w en h => ?_⟩
  rw [exec] at h
  split at h; rotate_left; exact h.no
  rename_i y S1 e1
  split at h; rotate_left; exact h.no
  rename_i x S2 e2
  split at h; rotate_left; exact h.no
  rename_i k S3 e3
  obtain ⟨S4, e4, h4⟩ := h.mapS
  refine SE.go (e := e) ke w en e1 fun G1 z hS st w1 en1 ry => ?_
  subst hS
  refine SE.go (e := a) ka w1 en1 e2 fun G2 v hS2 st2 w2 en2 rx => ?_
  subst hS2
  refine SE.go (e := i) ki w2 en2 e3 fun G3 u hS3 st3 w3 en3 rk => ?_
  subst hS3
  exact setIx_ok w3 (rx.step st3 w2) rk ((ry.step st2 w1).step st3 w2) e4 fun G' hS' st' w' => (((h4.mono st).mono st2).mono st3).at hS' st' w' (en3.step st' w3)
theorem pget_list : PGet X (rIxL X.K) := by
  intro pins s σ H o i ov iv Q I ro ri h
  obtain ⟨p, xs, i, z, rfl, rfl, hq, he, q⟩ := h
  cases ro
  obtain ⟨t, rfl⟩ := ri
  obtain ⟨its, r, pl, hz⟩ := I.list hq
  obtain ⟨j, h1, h2, h3, h4, h5⟩ := atI_get he
  obtain ⟨w, ew, rw'⟩ := r.get h2
  have hl := r.length
  have hn := line63
  have fin : EP X pins σ Q w s := ⟨z, H, I, rw', q⟩
  by_cases h0 : 0 ≤ i
  · have hj : i.toNat = j := by
      rw [seqIndex_of h0 h5] at h1
      exact Option.some.inj h1
    exact wpAny_getItem_list pl.isList h0 (by omega) (by rw [hj]; simpa using ew) fin
  · have hj : (i + (its.toArray.size : Int)).toNat = j := by
      rw [seqIndex_neg (by omega) h4] at h1
      rw [List.size_toArray, ← hl]
      exact Option.some.inj h1
    exact wpAny_getItem_list_neg pl.isList (by omega) (by rw [List.size_toArray]; omega) (by omega) (by rw [hj]; simpa using ew) fin
theorem augStore_ok {i : Expr} (h : plainIx i = true) (ov iv new : Value) : augStore i ov iv new = (do holding [new, ov, iv] (setItem ov iv new); release [new, ov, iv] []; pure .next) := by
  cases i <;> first | rfl | cases h
theorem idxBox {S : Store} {x k d : D} (h : idxD S x k = some d) (hs : ∃ ds, seqL S x = some ds) : ∃ n ds, k = .int n ∧ seqL S x = some ds ∧ L2.atI ds n = some d := by
  obtain ⟨ds, e⟩ := hs
  unfold idxD at h
  split at h; rotate_left; cases h
  rename_i n
  refine ⟨n, ds, rfl, e, ?_⟩
  split at h
  · cases e
  · cases x <;> first | (cases e; done) | skip
    · have h : (match some _ with | some ds => L2.atI ds n | none => none) = some d := h
      cases e
      exact h
    · have h : (match seqR S (.box _) with | some ds => L2.atI ds n | none => none) = some d := h
      have e' : seqR S (.box _) = some ds := e
      rw [e'] at h
      exact h
theorem ss_augIx (ok : OkS c T N sc X) {a i e : Expr} {ea ei ee : E} {op : Bop} {o : Operator} {p pos : Pos} (ha : SE X a (evalE c ea)) (hi : SE X i (evalE c ei)) (he : SE X e (evalE c ee)) (hp : plainIx i = true) (ho : augOp op = some o) : SS X (.AugAssign (.Subscript a i p) o e pos) (exec c M (.augIx ea ei op ee)) := by
  obtain ⟨ta, pa, ka⟩ := ha
  obtain ⟨ti, pi, ki⟩ := hi
  obtain ⟨te, pe, ke⟩ := he
  have fin : ∀ (f : Int → Int → Int), (∀ x y, augI op x y = some (f x y)) → ∀ ρ G σ D, Wf X.K G → REnv X.K G ρ σ → PostS X.K G (exec c M (.augIx ea ei op ee) ρ G.S) D → tAugS ta ti te (rIxL X.K) (ipI f) rSetL D σ G.H := fun f hf ρ G σ D w en h => by
    rw [exec] at h
    split at h; rotate_left; exact h.no
    rename_i x S1 e1
    split at h; rotate_left; exact h.no
    rename_i k S2 e2
    split at h; rotate_left; exact h.no
    rename_i v0 e3
    split at h; rotate_left; exact h.no
    rename_i y S3 e4
    simp only [hf] at h
    obtain ⟨S4, e5, h4⟩ := h.mapS
    refine SE.go (e := a) ka w en e1 fun G1 v hS st w1 en1 rx => ?_
    subst hS
    refine SE.go (e := i) ki w1 en1 e2 fun G2 u hS2 st2 w2 en2 rk => ?_
    subst hS2
    have rx2 := rx.step st2 w1
    have hbox : ∃ b, x = .box b := by
      unfold setIxD at e5
      split at e5; rotate_left; cases e5
      exact ⟨_, rfl⟩
    obtain ⟨b, rfl⟩ := hbox
    have hs : ∃ ds, seqL G2.S (.box b) = some ds := by
      cases k with
      | int n =>
        simp only [idxD] at e3
        split at e3; rotate_left; cases e3
        rename_i ds q
        exact ⟨ds, q⟩
      | _ => cases e3
    obtain ⟨n, ds, rfl, q1, q2⟩ := idxBox e3 hs
    obtain ⟨a', vs, rfl, hl, rs⟩ := rx2.seqL w2 q1
    obtain ⟨z, q3, q4⟩ := rs.atI q2
    cases q4
    cases rk
    refine ⟨a', vs, n, .int v0, rfl, rfl, SqL.of hl, q3, ?_⟩
    refine SE.go (e := e) ke w2 en2 e4 fun G3 u3 hS3 st3 w3 en3 ry => ?_
    subst hS3
    cases ry
    refine ⟨v0, y, rfl, rfl, ?_⟩
    exact setIx_ok w3 (rx2.step st3 w2) (.int n) (.int _) e5 fun G' hS' st' w' => (((h4.mono st).mono st2).mono st3).at hS' st' w' (en3.step st' w3)
  cases op with
  | add =>
    cases ho
    exact ⟨_, ps_augS pa pi pget_list pe ip_add set_list (augStore_ok hp), fin _ fun _ _ => rfl⟩
  | sub =>
    cases ho
    exact ⟨_, ps_augS pa pi pget_list pe ip_sub set_list (augStore_ok hp), fin _ fun _ _ => rfl⟩
  | _ => cases ho
/-! the rest -/
theorem ss_expr {e : Expr} {ee : E} {pos : Pos} (he : SE X e (evalE c ee)) (hc : isComp e = false) : SS X (.Expr e pos) (exec c M (.expr ee)) := by
  obtain ⟨t, pe, k⟩ := he
  refine ⟨_, ps_expr pe (swaps_no hc _ _ _), fun ρ G σ D w en h => ?_⟩
  rw [exec] at h
  split at h; rotate_left; exact h.no
  rename_i d S1 e1
  refine SE.go (e := e) k w en e1 fun G1 v hS st w1 en1 rx => ?_
  subst hS
  exact (h.mono st).now w1 en1
theorem ss_ret {e : Expr} {ee : E} {pos : Pos} (he : SE X e (evalE c ee)) : SS X (.Return (some e) pos) (exec c M (.ret ee)) := by
  obtain ⟨t, pe, k⟩ := he
  refine ⟨_, ps_ret pe, fun ρ G σ D w en h => ?_⟩
  rw [exec] at h
  split at h; rotate_left; exact h.no
  rename_i d S1 e1
  refine SE.go (e := e) k w en e1 fun G1 v hS st w1 en1 rx => ?_
  subst hS
  exact (h.mono st).now w1 en1 v rx
theorem ss_retN {pos : Pos} : SS X (.Return none pos) (exec c M .retN) := ⟨_, ps_retN, fun ρ G σ D w en h => by
  rw [exec] at h
  exact h.now w en .non .non⟩
theorem ss_brk {pos : Pos} : SS X (.Break pos) (exec c M .brk) := ⟨_, ps_break, fun ρ G σ D w en h => by
  rw [exec] at h
  exact h.now w en⟩
theorem ss_cont {pos : Pos} : SS X (.Continue pos) (exec c M .cont) := ⟨_, ps_continue, fun ρ G σ D w en h => by
  rw [exec] at h
  exact h.now w en⟩
theorem ss_pass {pos : Pos} : SS X (.Pass pos) (exec c M .pass) := ⟨_, ps_pass, fun ρ G σ D w en h => by
  rw [exec] at h
  exact h.now w en⟩
theorem sss_nil : SSs X [] (execs c M .nil) := ⟨_, pss_nil, fun ρ G σ D w en h => by
  rw [execs] at h
  exact h.now w en⟩
theorem sss_cons {s : Stmt} {ss : List Stmt} {e : Sw.St} {es : Sts} (h1 : SS X s (exec c M e)) (h2 : SSs X ss (execs c M es)) : SSs X (s :: ss) (execs c M (.cons e es)) := by
  obtain ⟨ta, pa, ka⟩ := h1
  obtain ⟨tb, pb, kb⟩ := h2
  refine ⟨_, pss_cons pa pb, fun ρ G σ D w en h => ?_⟩
  refine ka ρ G σ _ w en ?_
  rw [execs] at h
  split at h
  · rename_i ρ1 S1 e1
    refine ⟨.nx, ρ1, S1, e1, fun G1 σ1 hS st w1 en1 => ?_⟩
    subst hS
    exact kb ρ1 G1 σ1 D w1 en1 (h.mono st)
  · rename_i r hn e1
    obtain ⟨fl, ρ', S', er, q⟩ := h
    cases er
    refine ⟨fl, ρ', S', e1, fun G1 σ1 hS st w1 en1 => ?_⟩
    have z := q G1 σ1 hS st w1 en1
    cases fl with
    | nx => exact (hn ρ' S' rfl).elim
    | bk => exact z
    | ct => exact z
    | ret d => exact z
  · exact h.no
theorem ss_if {t : Expr} {a b : List Stmt} {et : E} {ea eb : Sts} {pos : Pos} (ht : ST X t (evalT c et)) (ha : SSs X a (execs c M ea)) (hb : SSs X b (execs c M eb)) : SS X (.If t a b pos) (exec c M (.ifS et ea eb)) := by
  obtain ⟨tt, pt, kt⟩ := ht
  obtain ⟨ta, pa, ka⟩ := ha
  obtain ⟨tb, pb, kb⟩ := hb
  refine ⟨_, ps_if pt pa pb, fun ρ G σ D w en h => ?_⟩
  rw [exec] at h
  split at h
  · rename_i S1 e1
    refine ST.go kt w en e1 fun G1 hS st w1 en1 => iteT ?_
    subst hS
    exact ka ρ G1 σ D w1 en1 (h.mono st)
  · rename_i S1 e1
    refine ST.go kt w en e1 fun G1 hS st w1 en1 => iteF ?_
    subst hS
    exact kb ρ G1 σ D w1 en1 (h.mono st)
  · exact h.no
theorem ss_while (ok : OkS c T N sc X) {t : Expr} {b : List Stmt} {et : E} {eb : Sts} {pos : Pos} (ht : ST X t (evalT c et)) (hb : SSs X b (execs c M eb)) : SS X (.While t b [] pos) (exec c M (.whileS et eb)) := by
  obtain ⟨tt, pt, kt⟩ := ht
  obtain ⟨tb, pb, kb⟩ := hb
  refine ⟨_, ps_while ok.po pt pb, fun ρ G σ D w en h => ?_⟩
  rw [exec] at h
  refine ⟨fun m σ H => ∃ ρ G', G'.H = H ∧ Wf X.K G' ∧ REnv X.K G' ρ σ ∧ PostS X.K G' (whileL (evalT c et) (execs c M eb) m ρ G'.S) D, ⟨M, ρ, G, rfl, w, en, h⟩, ?_⟩
  rintro m σ H ⟨ρ, G, rfl, w, en, h⟩
  cases m with
  | zero => rw [whileL] at h; exact h.no
  | succ m =>
    rw [whileL] at h
    split at h
    · rename_i S1 e1
      refine ST.go kt w en e1 fun G1 hS st w1 en1 => iteF ?_
      subst hS
      exact (h.mono st).now w1 en1
    · rename_i S1 e1
      refine ST.go kt w en e1 fun G1 hS st w1 en1 => iteT ?_
      subst hS
      have h := h.mono st
      refine ⟨fun σ' H' => ∃ ρ G', G'.H = H' ∧ Wf X.K G' ∧ REnv X.K G' ρ σ' ∧ PostS X.K G' (whileL (evalT c et) (execs c M eb) m ρ G'.S) D, fun σ' H' n => ⟨m, by omega, n⟩, kb ρ G1 σ _ w1 en1 ?_⟩
      split at h
      · rename_i ρ1 S2 e2
        refine ⟨.nx, ρ1, S2, e2, fun G2 σ2 hS2 st2 w2 en2 => ?_⟩
        subst hS2
        exact ⟨ρ1, G2, rfl, w2, en2, h.mono st2⟩
      · rename_i ρ1 S2 e2
        refine ⟨.ct, ρ1, S2, e2, fun G2 σ2 hS2 st2 w2 en2 => ?_⟩
        subst hS2
        exact ⟨ρ1, G2, rfl, w2, en2, h.mono st2⟩
      · rename_i ρ1 S2 e2
        refine ⟨.bk, ρ1, S2, e2, fun G2 σ2 hS2 st2 w2 en2 => ?_⟩
        exact h.at hS2 st2 w2 en2
      · rename_i d ρ1 S2 e2
        refine ⟨.ret d, ρ1, S2, e2, fun G2 σ2 hS2 st2 w2 en2 => ?_⟩
        exact h.at hS2 st2 w2 en2
      · exact h.no
    · exact h.no
theorem ss_for (ok : OkS c T N sc X) {tg iter : Expr} {b : List Stmt} {etg : Tg} {eit : Sw.It} {eb : Sts} {pos : Pos} (hi : SI X tg iter (evalI c eit)) (hg : SG X tg etg) (hb : SSs X b (execs c M eb)) (hf : ∀ x, foldedSetIterable iter X.env x = pure x) : SS X (.For tg iter b [] pos) (exec c M (.forS etg eit eb)) := by
  obtain ⟨wi, pi, ki⟩ := hi
  obtain ⟨g, pg, kg⟩ := hg
  obtain ⟨tb, pb, kb⟩ := hb
  refine ⟨_, ps_for ok.po ok.calm pi pg pb hf, fun ρ G σ D w en h => ?_⟩
  rw [exec] at h
  split at h; rotate_left; exact h.no
  rename_i wk S1 e1
  refine ki ρ G σ _ wk S1 w en e1 fun G1 J hS st w1 en1 j hok0 => ?_
  subst hS
  generalize hds : wk.ds = ds at *
  have h := h.mono st
  refine ⟨fun i m σ H => m = ds.length - i ∧ i ≤ ds.length ∧ ∃ ρ G', G'.H = H ∧ Stp G1 G' ∧ Wf X.K G' ∧ REnv X.K G' ρ σ ∧ okW G'.S wk = true ∧ PostS X.K G' (forL wk (fun d ρ S => match asg etg d ρ with
        | some ρ1 => execs c M eb ρ1 S
        | none => none) (ds.drop i) ρ G'.S) D, ⟨ds.length, by omega, by omega, ρ, G1, rfl, .refl G1, w1, en1, hok0, h⟩, ?_⟩
  rintro i m σ H ⟨rfl, hi, ρ, G', rfl, st', w', en', hok, h⟩
  by_cases hlt : i < ds.length
  · obtain ⟨jg, _⟩ := j G' (.of st') w' hok
    have hget : ds[i]? = some ds[i] := List.getElem?_eq_getElem hlt
    obtain ⟨go, yl⟩ := jg i _ (by rw [hds]; exact hget)
    refine .inr ⟨go, fun σ' H' => ∃ ρ G', G'.H = H' ∧ Stp G1 G' ∧ Wf X.K G' ∧ REnv X.K G' ρ σ' ∧ okW G'.S wk = true ∧ PostS X.K G' (forL wk _ (ds.drop (i + 1)) ρ G'.S) D, fun σ' H' n => ⟨ds.length - (i + 1), by omega, rfl, by omega, n⟩, fun x H2 hyl => ?_⟩
    obtain ⟨G2, rfl, hS2, st2, w2, rx⟩ := yl x H2 hyl
    rw [List.drop_eq_getElem_cons hlt, forL] at h
    have h := h.mono st2
    have en2 := en'.step st2 w'
    rw [← hS2] at h
    rcases ea : asg etg ds[i] ρ with _ | ρ1
    · rw [ea] at h
      exact h.no
    rw [ea] at h
    refine kg ρ G2 σ _ x _ ρ1 w2 en2 rx ea fun σ2 en3 _ => kb ρ1 G2 σ2 _ w2 en3 ?_
    have h : PostS X.K G2 (match execs c M eb ρ1 G2.S with
      | some (.nx, ρ1, S2) => if okW S2 wk = true then forL wk _ (ds.drop (i + 1)) ρ1 S2 else none
      | some (.ct, ρ1, S2) => if okW S2 wk = true then forL wk _ (ds.drop (i + 1)) ρ1 S2 else none
      | some (.bk, ρ1, S2) => some (.nx, ρ1, S2)
      | some (.ret d, ρ1, S2) => some (.ret d, ρ1, S2)
      | none => none) D := h
    split at h
    · rename_i ρ2 S3 e2
      split at h; rotate_left; exact h.no
      rename_i hok2
      refine ⟨.nx, ρ2, S3, e2, fun G3 σ3 hS3 st3 w3 en3 => ?_⟩
      subst hS3
      exact ⟨ρ2, G3, rfl, (st'.trans st2).trans st3, w3, en3, hok2, h.mono st3⟩
    · rename_i ρ2 S3 e2
      split at h; rotate_left; exact h.no
      rename_i hok2
      refine ⟨.ct, ρ2, S3, e2, fun G3 σ3 hS3 st3 w3 en3 => ?_⟩
      subst hS3
      exact ⟨ρ2, G3, rfl, (st'.trans st2).trans st3, w3, en3, hok2, h.mono st3⟩
    · rename_i ρ2 S3 e2
      exact ⟨.bk, ρ2, S3, e2, fun G3 σ3 hS3 st3 w3 en3 => h.at hS3 st3 w3 en3⟩
    · rename_i d ρ2 S3 e2
      exact ⟨.ret d, ρ2, S3, e2, fun G3 σ3 hS3 st3 w3 en3 => h.at hS3 st3 w3 en3⟩
    · exact h.no
  · have ei : i = ds.length := by omega
    subst ei
    rw [List.drop_length, forL] at h
    obtain ⟨_, js⟩ := j G' (.of st') w' hok
    rw [hds] at js
    exact .inl ⟨js _ (Nat.le_refl _), h.now w' en'⟩
end
end Sw

set_option Elab.async false
set_option linter.all false
set_option maxRecDepth 100000
set_option maxHeartbeats 4000000
namespace Sw
open PySem PySem.Spec PyProof.Rows L2

/-! ### is a text of the program the evaluator's own text? -/
def mVar (N : List Str) (sc : Scope) (i : Nat) (x : Str) : Bool := decide (N[i]? = some x) && isVis sc x && !(x == ("__debug__" : Str)) && !(x == ("__classdict__" : Str))
mutual
def mTg (N : List Str) (sc : Scope) : Tg → Expr → Bool
  | .name i, .Name x _ => decide (N[i]? = some x) && isLoc sc x
  | .tup ts, .Tuple xs _ _ => mTgs N sc ts xs
  | _, _ => false
def mTgs (N : List Str) (sc : Scope) : Tgs → List Expr → Bool
  | .nil, [] => true
  | .cons t ts, x :: xs => notStar x && mTg N sc t x && mTgs N sc ts xs
  | _, _ => false
end
def okIter : Expr → Bool
  | .Set _ _ _ => false
  | _ => true
theorem okIter_ok {e : Expr} (h : okIter e = true) (env : PySem.Env) : ∀ x, foldedSetIterable e env x = pure x := by
  intro x
  cases e <;> first | rfl | cases h
def isNop : E → Bool
  | .nop => true
  | _ => false
def isGlob (T : Tab) (x : Str) (d : D) : Bool := match T.gl x with
  | some e => eqB d e
  | none => false
mutual
def mE (T : Tab) (N : List Str) : E → Scope → Expr → Bool
  | .var i, sc, .Name x _ => mVar N sc i x
  | .cI i, _, .Constant (.int j) _ _ => decide (i = j)
  | .cS s, _, .Constant (.str t) _ _ => decide (s = t)
  | .cB b, _, .Constant (.bool d) _ _ => decide (b = d)
  | .cN, _, .Constant .none _ _ => true
  | .bin _ op a b, sc, .BinOp x op' y _ => decide (opB op = op') && mE T N a sc x && mE T N b sc y
  | .neg a, sc, .UnaryOp .USub x _ => mE T N a sc x
  | .cmp op a b, sc, .Compare x [op'] [y] _ => decide (opC op = op') && mE T N a sc x && mE T N b sc y && !behindInMarks (opC op) y
  | .chain o1 o2 a b d, sc, .Compare x [p1, p2] [y, z] _ => decide (opC o1 = p1) && decide (opC o2 = p2) && mE T N a sc x && mE T N b sc y && mE T N d sc z && !behindInMarks (opC o2) z
  | .band es, sc, .BoolOp .And xs _ => !xs.isEmpty && mEs T N es sc xs
  | .bor es, sc, .BoolOp .Or xs _ => !xs.isEmpty && mEs T N es sc xs
  | .bnot a, sc, .UnaryOp .Not x _ => mE T N a sc x
  | .ifE t a b, sc, .IfExp x y z _ => mE T N t sc x && mE T N a sc y && mE T N b sc z
  | .idx a i, sc, .Subscript x y _ => mE T N a sc x && mE T N i sc y && plainIx y
  | .slice _ a lo hi, sc, .Subscript x (.Slice l h none _) _ => mE T N a sc x && (match l with
      | none => isNop lo
      | some y => mE T N lo sc y && !isNop lo) && (match h with
      | none => isNop hi
      | some y => mE T N hi sc y && !isNop hi)
  | .lst _ es, sc, .List xs _ => mEs T N es sc xs
  | .tup es, sc, .Tuple xs _ _ => mEs T N es sc xs
  | .call f _ es, sc, .Call (.Name x _) xs [] _ => decide (T.fn f = some x) && isGl sc x && !(x == ("__debug__" : Str)) && mEs T N es sc xs
  | .bi b _ es, sc, .Call (.Name x _) xs [] _ => !biIs b && decide (x = biName b) && isGl sc (biName b) && !xs.isEmpty && mEs T N es sc xs
  | .isi b a, sc, .Call (.Name x _) [y, .Name z _] [] _ => biIs b && decide (x = ("isinstance" : Str)) && decide (z = biName b) && isGl sc "isinstance" && isGl sc (biName b) && mE T N a sc y && notStar y
  | .comp _ elt tg it cond own, sc, .ListComp x [⟨t, iter, ifs, a⟩] scope _ => decide (a = 0) && mTg N scope tg t && mI T N it sc t iter && (match ifs with
      | [] => isNop cond
      | [y] => mE T N cond (relS scope sc) y && !isNop cond
      | _ => false) && mE T N elt (relS scope sc) x && blkC N sc scope (own.map fun i => (N.getD i "", i)) && tgIn own tg && okIter iter
  | .app a e, sc, .Call (.Attribute x m apos) [y] [] cpos => decide (m = ("append" : Str)) && mE T N a sc x && mE T N e sc y && plainBase x && notStar y && (apos.endLine == cpos.line)
  | .frz e, sc, x => mE T N e sc x
  | .glob x d, sc, .Name y _ => decide (x = y) && isGl sc x && !(x == ("__debug__" : Str)) && isGlob T x d
  | .stk, _, _ => true
  | _, _, _ => false
def mEs (T : Tab) (N : List Str) : Es → Scope → List Expr → Bool
  | .nil, _, [] => true
  | .cons e es, sc, x :: xs => mE T N e sc x && notStar x && mEs T N es sc xs
  | _, _, _ => false
def mI (T : Tab) (N : List Str) : Sw.It → Scope → Expr → Expr → Bool
  | .list e, sc, _, x => mE T N e sc x
  | .rng es, sc, _, .Call (.Name x _) xs [] _ => decide (x = ("range" : Str)) && isGl sc "range" && mEs T N es sc xs && (decide (xs.length = 1) || decide (xs.length = 2) || decide (xs.length = 3))
  | .enum e, sc, t, .Call (.Name x _) [y] [] _ => decide (x = ("enumerate" : Str)) && isGl sc "enumerate" && mE T N e sc y && notStar y && isTupE t
  | .zip a b, sc, t, .Call (.Name x _) [y, z] [] _ => decide (x = ("zip" : Str)) && isGl sc "zip" && mE T N a sc y && mE T N b sc z && notStar y && notStar z && isTupE t
  | .rev e, sc, _, .Call (.Name x _) [y] [] _ => decide (x = ("reversed" : Str)) && isGl sc "reversed" && mE T N e sc y && notStar y
  | _, _, _, _ => false
end
section
variable {c : Fns} {T : Tab} {N : List Str}
theorem Ok.blk {sc : Scope} {X : Cx} (ok : Ok c T N sc X) (scope : Scope) (i : BI) : Ok c T N (relS scope sc) (blkOf X scope i) where
  hN := ok.hN
  hsc := by
    show relS scope X.env.scope = relS scope sc
    rw [ok.hsc]
  nd := ok.nd
  calm := ok.calm
  hu := ok.hu
  bl := ok.bl
  call := ok.call
  gl := ok.gl
theorem OkL.blk {sc : Scope} (X : Cx) (scope : Scope) (i : BI) : OkL (relS scope sc) scope (blkOf X scope i) := fun x h => by
  rcases h with h | h
  · have e : (relS scope sc).names.lookup x = some .local := lookup_relS_keep (by decide) h
    exact ⟨.inl e, .inr e⟩
  · refine ⟨.inr (lookup_relS_keep (by decide) h), .inl ?_⟩
    show (scope.names.lookup x == some .cell) = true
    rw [h]
    rfl
mutual
theorem mTg_ok {sc lsc : Scope} {X : Cx} (ok : Ok c T N sc X) (fn : OkL sc lsc X) : ∀ (t : Tg) (x : Expr), mTg N lsc t x = true → SG X x t
  | .name i, x, h => by
    cases x with
    | Name s p =>
      simp only [mTg, Bool.and_eq_true, decide_eq_true_eq] at h
      exact sg_name ok fn h.1 h.2
    | _ => simp [mTg] at h
  | .tup ts, x, h => by
    cases x with
    | Tuple xs k p =>
      simp only [mTg] at h
      exact sg_tup ok (mTgs_ok ok fn ts xs h).1 (mTgs_ok ok fn ts xs h).2
    | _ => simp [mTg] at h
theorem mTgs_ok {sc lsc : Scope} {X : Cx} (ok : Ok c T N sc X) (fn : OkL sc lsc X) : ∀ (ts : Tgs) (xs : List Expr), mTgs N lsc ts xs = true → TgL ts xs ∧ SGs X xs ts
  | .nil, [], _ => ⟨.nil, sgs_nil⟩
  | .nil, _ :: _, h => by simp [mTgs] at h
  | .cons t ts, [], h => by simp [mTgs] at h
  | .cons t ts, x :: xs, h => by
    simp only [mTgs, Bool.and_eq_true] at h
    obtain ⟨⟨h1, h2⟩, h3⟩ := h
    obtain ⟨a, b⟩ := mTgs_ok ok fn ts xs h3
    exact ⟨.cons h1 a, sgs_cons h1 (mTg_ok ok fn t x h2) b⟩
end
theorem isNop_eq {e : E} (h : isNop e = true) : e = .nop := by
  cases e <;> first | rfl | cases h
theorem isNop_ne {e : E} (h : isNop e = false) : e ≠ .nop := fun z => by
  subst z
  cases h
mutual
theorem mE_ok : ∀ (e : E) (sc : Scope) (x : Expr), mE T N e sc x = true → ∀ X, Ok c T N sc X → SE X x (evalE c e) ∧ ST X x (evalT c e) ∧ ∀ (o : Bool) (elt : E) (tg : Tg) (it : Sw.It) (cond : E) (own : List Nat), e = .comp o elt tg it cond own → SL X N x (evalE c e)
  | .nop, sc, x, h => by simp [mE] at h
  | .var i, sc, x, h => fun X ok => by
    cases x with
    | Name s p =>
      simp only [mE, mVar, Bool.and_eq_true, decide_eq_true_eq, Bool.not_eq_true'] at h
      obtain ⟨⟨⟨h1, h2⟩, h3⟩, h4⟩ := h
      have s := se_var (c := c) ok (pos := p) h1 h2 h3 h4
      exact ⟨s, st_tru s rfl _ fun ρ S => by simp only [evalT], fun _ _ _ _ _ _ z => nomatch z⟩
    | _ => simp [mE] at h
  | .cI i, sc, x, h => fun X ok => by
    cases x with
    | Constant k j p =>
      cases k with
      | int j =>
        simp only [mE, decide_eq_true_eq] at h
        subst h
        exact ⟨se_cI, st_tru (c := c) (se_cI (c := c)) rfl _ fun ρ S => by simp only [evalT], fun _ _ _ _ _ _ z => nomatch z⟩
      | _ => simp [mE] at h
    | _ => simp [mE] at h
  | .cS i, sc, x, h => fun X ok => by
    cases x with
    | Constant k j p =>
      cases k with
      | str j =>
        simp only [mE, decide_eq_true_eq] at h
        subst h
        exact ⟨se_cS, st_tru (c := c) (se_cS (c := c)) rfl _ fun ρ S => by simp only [evalT], fun _ _ _ _ _ _ z => nomatch z⟩
      | _ => simp [mE] at h
    | _ => simp [mE] at h
  | .cB i, sc, x, h => fun X ok => by
    cases x with
    | Constant k j p =>
      cases k with
      | bool j =>
        simp only [mE, decide_eq_true_eq] at h
        subst h
        exact ⟨se_cB, st_tru (c := c) (se_cB (c := c)) rfl _ fun ρ S => by simp only [evalT], fun _ _ _ _ _ _ z => nomatch z⟩
      | _ => simp [mE] at h
    | _ => simp [mE] at h
  | .cN, sc, x, h => fun X ok => by
    cases x with
    | Constant k j p =>
      cases k with
      | none => exact ⟨se_cN, st_tru (c := c) (se_cN (c := c)) rfl _ fun ρ S => by simp only [evalT], fun _ _ _ _ _ _ z => nomatch z⟩
      | _ => simp [mE] at h
    | _ => simp [mE] at h
  | .bin o op a b, sc, x, h => fun X ok => by
    cases x with
    | BinOp y op' z p =>
      simp only [mE, Bool.and_eq_true, decide_eq_true_eq] at h
      obtain ⟨⟨rfl, h1⟩, h2⟩ := h
      have s := se_bin (c := c) (o := o) (op := op) (pos := p) (mE_ok a sc y h1 X ok).1 (mE_ok b sc z h2 X ok).1
      exact ⟨s, st_tru s rfl _ fun ρ S => by simp only [evalT], fun _ _ _ _ _ _ z => nomatch z⟩
    | _ => simp [mE] at h
  | .neg a, sc, x, h => fun X ok => by
    cases x with
    | UnaryOp op y p =>
      cases op with
      | USub =>
        simp only [mE] at h
        have s := se_neg (c := c) (pos := p) (mE_ok a sc y h X ok).1
        exact ⟨s, st_tru s rfl _ fun ρ S => by simp only [evalT], fun _ _ _ _ _ _ z => nomatch z⟩
      | _ => simp [mE] at h
    | _ => simp [mE] at h
  | .cmp op a b, sc, x, h => fun X ok => by
    cases x with
    | Compare y ops zs p =>
      match ops, zs with
      | [op'], [z] =>
        simp only [mE, Bool.and_eq_true, decide_eq_true_eq, Bool.not_eq_true'] at h
        obtain ⟨⟨⟨rfl, h1⟩, h2⟩, h3⟩ := h
        exact ⟨se_cmp ok (mE_ok a sc y h1 X ok).1 (mE_ok b sc z h2 X ok).1 h3, st_cmp ok (mE_ok a sc y h1 X ok).1 (mE_ok b sc z h2 X ok).1 h3, fun _ _ _ _ _ _ z => nomatch z⟩
      | [], _ => simp [mE] at h
      | _ :: _ :: _, _ => simp [mE] at h
      | [_], [] => simp [mE] at h
      | [_], _ :: _ :: _ => simp [mE] at h
    | _ => simp [mE] at h
  | .chain o1 o2 a b d, sc, x, h => fun X ok => by
    cases x with
    | Compare y ops zs p =>
      match ops, zs with
      | [p1, p2], [z1, z2] =>
        simp only [mE, Bool.and_eq_true, decide_eq_true_eq, Bool.not_eq_true'] at h
        obtain ⟨⟨⟨⟨⟨rfl, rfl⟩, h1⟩, h2⟩, h3⟩, h4⟩ := h
        exact ⟨se_chain ok (mE_ok a sc y h1 X ok).1 (mE_ok b sc z1 h2 X ok).1 (mE_ok d sc z2 h3 X ok).1 h4, st_chain ok (mE_ok a sc y h1 X ok).1 (mE_ok b sc z1 h2 X ok).1 (mE_ok d sc z2 h3 X ok).1 h4, fun _ _ _ _ _ _ z => nomatch z⟩
      | [], _ => simp [mE] at h
      | [_], _ => simp [mE] at h
      | _ :: _ :: _ :: _, _ => simp [mE] at h
      | [_, _], [] => simp [mE] at h
      | [_, _], [_] => simp [mE] at h
      | [_, _], _ :: _ :: _ :: _ => simp [mE] at h
    | _ => simp [mE] at h
  | .band es, sc, x, h => fun X ok => by
    cases x with
    | BoolOp op xs p =>
      cases op with
      | And =>
        simp only [mE, Bool.and_eq_true, Bool.not_eq_true', List.isEmpty_eq_false_iff] at h
        have s := mEs_ok es sc xs h.2 X ok
        exact ⟨by rw [show evalE c (.band es) = evalAnd c es from by funext ρ S; rw [evalE]]; exact s.and h.1, by rw [show evalT c (.band es) = evalAndT c es from by funext ρ S; rw [evalT]]; exact (s.andT h.1).st, fun _ _ _ _ _ _ z => nomatch z⟩
      | Or => simp [mE] at h
    | _ => simp [mE] at h
  | .bor es, sc, x, h => fun X ok => by
    cases x with
    | BoolOp op xs p =>
      cases op with
      | Or =>
        simp only [mE, Bool.and_eq_true, Bool.not_eq_true', List.isEmpty_eq_false_iff] at h
        have s := mEs_ok es sc xs h.2 X ok
        exact ⟨by rw [show evalE c (.bor es) = evalOr c es from by funext ρ S; rw [evalE]]; exact s.or h.1, by rw [show evalT c (.bor es) = evalOrT c es from by funext ρ S; rw [evalT]]; exact (s.orT h.1).st, fun _ _ _ _ _ _ z => nomatch z⟩
      | And => simp [mE] at h
    | _ => simp [mE] at h
  | .bnot a, sc, x, h => fun X ok => by
    cases x with
    | UnaryOp op y p =>
      cases op with
      | Not =>
        simp only [mE] at h
        exact ⟨se_not (mE_ok a sc y h X ok).1, st_not (mE_ok a sc y h X ok).2.1, fun _ _ _ _ _ _ z => nomatch z⟩
      | _ => simp [mE] at h
    | _ => simp [mE] at h
  | .ifE t a b, sc, x, h => fun X ok => by
    cases x with
    | IfExp y z1 z2 p =>
      simp only [mE, Bool.and_eq_true] at h
      obtain ⟨⟨h1, h2⟩, h3⟩ := h
      exact ⟨se_ifE (mE_ok t sc y h1 X ok).2.1 (mE_ok a sc z1 h2 X ok).1 (mE_ok b sc z2 h3 X ok).1, st_none fun ρ S => by simp only [evalT], fun _ _ _ _ _ _ z => nomatch z⟩
    | _ => simp [mE] at h
  | .idx a i, sc, x, h => fun X ok => by
    cases x with
    | Subscript y z p =>
      simp only [mE, Bool.and_eq_true] at h
      obtain ⟨⟨h1, h2⟩, h3⟩ := h
      have s := se_idx (c := c) (pos := p) (mE_ok a sc y h1 X ok).1 (mE_ok i sc z h2 X ok).1 h3
      exact ⟨s, st_tru s rfl _ fun ρ S => by simp only [evalT], fun _ _ _ _ _ _ z => nomatch z⟩
    | _ => simp [mE] at h
  | .slice o a lo hi, sc, x, h => fun X ok => by
    cases x with
    | Subscript y z p =>
      cases z with
      | Slice l u st p2 =>
        cases st with
        | some _ => simp [mE] at h
        | none =>
          simp only [mE, Bool.and_eq_true] at h
          obtain ⟨⟨h1, h2⟩, h3⟩ := h
          have sl : SO X l (evalO c lo) := by
            cases l with
            | none =>
              have e : lo = .nop := isNop_eq h2
              subst e
              exact so_none
            | some y =>
              simp only [Bool.and_eq_true, Bool.not_eq_true'] at h2
              exact so_some (mE_ok lo sc y h2.1 X ok).1 (isNop_ne h2.2)
          have sh : SO X u (evalO c hi) := by
            cases u with
            | none =>
              have e : hi = .nop := isNop_eq h3
              subst e
              exact so_none
            | some y =>
              simp only [Bool.and_eq_true, Bool.not_eq_true'] at h3
              exact so_some (mE_ok hi sc y h3.1 X ok).1 (isNop_ne h3.2)
          have s := se_slice (c := c) (o := o) (pos := p) (p2 := p2) (mE_ok a sc y h1 X ok).1 sl sh
          exact ⟨s, st_tru s rfl _ fun ρ S => by simp only [evalT], fun _ _ _ _ _ _ z => nomatch z⟩
      | _ => simp [mE] at h
    | _ => simp [mE] at h
  | .lst o es, sc, x, h => fun X ok => by
    cases x with
    | List xs p =>
      simp only [mE] at h
      have s := se_lst (o := o) (pos := p) (mEs_ok es sc xs h X ok)
      exact ⟨s, st_tru s rfl _ fun ρ S => by simp only [evalT], fun _ _ _ _ _ _ z => nomatch z⟩
    | _ => simp [mE] at h
  | .tup es, sc, x, h => fun X ok => by
    cases x with
    | Tuple xs k p =>
      simp only [mE] at h
      have s := se_tup (k := k) (pos := p) (mEs_ok es sc xs h X ok)
      exact ⟨s, st_tru s rfl _ fun ρ S => by simp only [evalT], fun _ _ _ _ _ _ z => nomatch z⟩
    | _ => simp [mE] at h
  | .call f o es, sc, x, h => fun X ok => by
    cases x with
    | Call g xs ks p =>
      cases g with
      | Name y p2 =>
        cases ks with
        | nil =>
          simp only [mE, Bool.and_eq_true, decide_eq_true_eq, Bool.not_eq_true'] at h
          obtain ⟨⟨⟨h1, h2⟩, h3⟩, h4⟩ := h
          have s := se_call (o := o) (p := p2) (pos := p) ok h1 h2 h3 (mEs_ok es sc xs h4 X ok)
          exact ⟨s, st_tru s rfl _ fun ρ S => by simp only [evalT], fun _ _ _ _ _ _ z => nomatch z⟩
        | cons _ _ => simp [mE] at h
      | _ => simp [mE] at h
    | _ => simp [mE] at h
  | .bi b o es, sc, x, h => fun X ok => by
    cases x with
    | Call g xs ks p =>
      cases g with
      | Name y p2 =>
        cases ks with
        | nil =>
          simp only [mE, Bool.and_eq_true, decide_eq_true_eq, Bool.not_eq_true'] at h
          obtain ⟨⟨⟨⟨hb, rfl⟩, h2⟩, h3⟩, h4⟩ := h
          cases xs with
          | nil => cases h3
          | cons y' ys =>
            have s := se_bi (o := o) (p := p2) (pos := p) ok hb h2 (mEs_ok es sc (y' :: ys) h4 X ok)
            exact ⟨s, st_tru s rfl _ fun ρ S => by simp only [evalT], fun _ _ _ _ _ _ z => nomatch z⟩
        | cons _ _ => simp [mE] at h
      | _ => simp [mE] at h
    | _ => simp [mE] at h
  | .isi b a, sc, x, h => fun X ok => by
    cases x with
    | Call g xs ks p =>
      cases g with
      | Name y p2 =>
        match xs, ks with
        | [y', z], [] =>
          cases z with
          | Name z' p3 =>
            simp only [mE, Bool.and_eq_true, decide_eq_true_eq] at h
            obtain ⟨⟨⟨⟨⟨⟨hb, rfl⟩, rfl⟩, h3⟩, h4⟩, h5⟩, h6⟩ := h
            have s := se_isi (p := p2) (p2 := p3) (pos := p) ok hb h3 h4 (mE_ok a sc y' h5 X ok).1 h6
            exact ⟨s, st_tru s rfl _ fun ρ S => by simp only [evalT], fun _ _ _ _ _ _ z => nomatch z⟩
          | _ => simp [mE] at h
        | [], _ => simp [mE] at h
        | [_], _ => simp [mE] at h
        | _ :: _ :: _ :: _, _ => simp [mE] at h
        | [_, z], _ :: _ => simp [mE] at h
      | _ => simp [mE] at h
    | _ => simp [mE] at h
  | .comp o elt tg it cond own, sc, x, h => fun X ok => by
    cases x with
    | ListComp y gs scope p =>
      match gs with
      | [⟨t, iter, ifs, a⟩] =>
        simp only [mE, Bool.and_eq_true, decide_eq_true_eq] at h
        obtain ⟨⟨⟨⟨⟨⟨⟨rfl, h1⟩, h2⟩, h3⟩, h4⟩, h5⟩, h6⟩, h7⟩ := h
        have hc : ∀ i, SC (blkOf X scope i) ifs (evalC c cond) := fun i => by
          split at h3
          · have e : cond = .nop := isNop_eq h3
            subst e
            exact sc_nil
          · rename_i y
            simp only [Bool.and_eq_true, Bool.not_eq_true'] at h3
            exact sc_one (mE_ok cond (relS scope sc) y h3.1 _ (ok.blk scope i)).2.1 (isNop_ne h3.2)
          · cases h3
        have s := sl_comp (o := o) (pos := p) ok (mI_ok it sc t iter h2 X ok) (blkOk_by h5) (fun i => mTg_ok (ok.blk scope i) (.blk X scope i) tg t h1) hc (fun i => (mE_ok elt (relS scope sc) y h4 _ (ok.blk scope i)).1) h6 (okIter_ok h7 _)
        exact ⟨s.se, st_tru s.se rfl _ fun ρ S => by simp only [evalT], fun _ _ _ _ _ _ _ => s⟩
      | [] => simp [mE] at h
      | _ :: _ :: _ => simp [mE] at h
    | _ => simp [mE] at h
  | .app a e, sc, x, h => fun X ok => by
    cases x with
    | Call g xs ks p =>
      cases g with
      | Attribute y m p2 =>
        match xs, ks with
        | [z], [] =>
          simp only [mE, Bool.and_eq_true, decide_eq_true_eq] at h
          obtain ⟨⟨⟨⟨⟨rfl, h1⟩, h2⟩, h3⟩, h4⟩, h5⟩ := h
          have s := se_app (apos := p2) (cpos := p) (mE_ok a sc y h1 X ok).1 (mE_ok e sc z h2 X ok).1 h3 h4 h5
          exact ⟨s, st_tru s rfl _ fun ρ S => by simp only [evalT], fun _ _ _ _ _ _ z => nomatch z⟩
        | [], _ => simp [mE] at h
        | _ :: _ :: _, _ => simp [mE] at h
        | [_], _ :: _ => simp [mE] at h
      | _ => simp [mE] at h
    | _ => simp [mE] at h
  | .frz e, sc, x, h => fun X ok => by
    have h : mE T N e sc x = true := by
      simp only [mE] at h
      exact h
    exact ⟨se_frz (mE_ok e sc x h X ok).1, st_none fun ρ S => by simp only [evalT], fun _ _ _ _ _ _ z => nomatch z⟩
  | .glob y d, sc, x, h => fun X ok => by
    cases x with
    | Name s p =>
      simp only [mE, Bool.and_eq_true, decide_eq_true_eq, Bool.not_eq_true'] at h
      obtain ⟨⟨⟨h1, h2⟩, h3⟩, h4⟩ := h
      subst h1
      unfold isGlob at h4
      split at h4; rotate_left; cases h4
      rename_i e he
      rw [← eqB_ok h4] at he
      have s := se_glob (c := c) ok (pos := p) h2 he h3
      exact ⟨s, st_tru s rfl _ fun ρ S => by simp only [evalT], fun _ _ _ _ _ _ z => nomatch z⟩
    | _ => simp [mE] at h
  | .stk, sc, x, h => fun X ok => ⟨se_stk, st_stk, fun _ _ _ _ _ _ z => nomatch z⟩
theorem mEs_ok : ∀ (es : Es) (sc : Scope) (xs : List Expr), mEs T N es sc xs = true → ∀ X, Ok c T N sc X → AllE X c es xs
  | .nil, sc, [], _ => fun X ok => .nil
  | .nil, sc, _ :: _, h => by simp [mEs] at h
  | .cons e es, sc, [], h => by simp [mEs] at h
  | .cons e es, sc, x :: xs, h => fun X ok => by
    simp only [mEs, Bool.and_eq_true] at h
    exact .cons (mE_ok e sc x h.1.1 X ok).1 (mE_ok e sc x h.1.1 X ok).2.1 h.1.2 (mEs_ok es sc xs h.2 X ok)
theorem mI_ok : ∀ (it : Sw.It) (sc : Scope) (t x : Expr), mI T N it sc t x = true → ∀ X, Ok c T N sc X → SI X t x (evalI c it)
  | .list e, sc, t, x, h => fun X ok => by
    have h : mE T N e sc x = true := by
      simp only [mI] at h
      exact h
    exact si_list (mE_ok e sc x h X ok).1
  | .rng es, sc, t, x, h => fun X ok => by
    cases x with
    | Call g xs ks p =>
      cases g with
      | Name y p2 =>
        cases ks with
        | nil =>
          simp only [mI, Bool.and_eq_true, decide_eq_true_eq, Bool.or_eq_true] at h
          obtain ⟨⟨⟨rfl, h1⟩, h2⟩, h3⟩ := h
          exact si_rng ok h1 (mEs_ok es sc xs h2 X ok) (by omega)
        | cons _ _ => simp [mI] at h
      | _ => simp [mI] at h
    | _ => simp [mI] at h
  | .enum e, sc, t, x, h => fun X ok => by
    cases x with
    | Call g xs ks p =>
      cases g with
      | Name y p2 =>
        match xs, ks with
        | [z], [] =>
          simp only [mI, Bool.and_eq_true, decide_eq_true_eq] at h
          obtain ⟨⟨⟨⟨rfl, h1⟩, h2⟩, h3⟩, h4⟩ := h
          cases t with
          | Tuple _ _ _ => exact si_enum ok h1 (mE_ok e sc z h2 X ok).1 h3
          | _ => cases h4
        | [], _ => simp [mI] at h
        | _ :: _ :: _, _ => simp [mI] at h
        | [_], _ :: _ => simp [mI] at h
      | _ => simp [mI] at h
    | _ => simp [mI] at h
  | .zip a b, sc, t, x, h => fun X ok => by
    cases x with
    | Call g xs ks p =>
      cases g with
      | Name y p2 =>
        match xs, ks with
        | [z1, z2], [] =>
          simp only [mI, Bool.and_eq_true, decide_eq_true_eq] at h
          obtain ⟨⟨⟨⟨⟨⟨rfl, h1⟩, h2⟩, h3⟩, h4⟩, h5⟩, h6⟩ := h
          cases t with
          | Tuple _ _ _ => exact si_zip ok h1 (mE_ok a sc z1 h2 X ok).1 (mE_ok b sc z2 h3 X ok).1 h4 h5
          | _ => cases h6
        | [], _ => simp [mI] at h
        | [_], _ => simp [mI] at h
        | _ :: _ :: _ :: _, _ => simp [mI] at h
        | [_, _], _ :: _ => simp [mI] at h
      | _ => simp [mI] at h
    | _ => simp [mI] at h
  | .rev e, sc, t, x, h => fun X ok => by
    cases x with
    | Call g xs ks p =>
      cases g with
      | Name y p2 =>
        match xs, ks with
        | [z], [] =>
          simp only [mI, Bool.and_eq_true, decide_eq_true_eq] at h
          obtain ⟨⟨⟨rfl, h1⟩, h2⟩, h3⟩ := h
          exact si_rev ok h1 (mE_ok e sc z h2 X ok).1 h3
        | [], _ => simp [mI] at h
        | _ :: _ :: _, _ => simp [mI] at h
        | [_], _ :: _ => simp [mI] at h
      | _ => simp [mI] at h
    | _ => simp [mI] at h
end
end
end Sw

set_option Elab.async false
set_option linter.all false
set_option maxRecDepth 100000
set_option maxHeartbeats 4000000
namespace Sw
open PySem PySem.Spec PyProof.Rows L2

/-! ### statements of the program -/
def dName : Stmt → Option (Str × Pos × Expr × Pos)
  | .Assign [.Name x p] v q => some (x, p, v, q)
  | _ => none
theorem dName_ok {s : Stmt} {z : Str × Pos × Expr × Pos} (h : dName s = some z) : ∃ x p v q, z = (x, p, v, q) ∧ s = .Assign [.Name x p] v q := by
  unfold dName at h
  split at h
  · cases h
    exact ⟨_, _, _, _, rfl, rfl⟩
  · cases h
def dTup : Stmt → Option (List Expr × Nat × Pos × Expr × Pos)
  | .Assign [.Tuple es k p] v q => some (es, k, p, v, q)
  | _ => none
theorem dTup_ok {s : Stmt} {z : List Expr × Nat × Pos × Expr × Pos} (h : dTup s = some z) : ∃ es k p v q, z = (es, k, p, v, q) ∧ s = .Assign [.Tuple es k p] v q := by
  unfold dTup at h
  split at h
  · cases h
    exact ⟨_, _, _, _, _, rfl, rfl⟩
  · cases h
def dPar : Stmt → Option (Str × Pos × Str × Pos × Nat × Pos × Expr × Expr × Nat × Pos × Pos)
  | .Assign [.Tuple [.Name x px, .Name y py] k p] (.Tuple [u, v] k2 p2) q => some (x, px, y, py, k, p, u, v, k2, p2, q)
  | _ => none
theorem dPar_ok {s : Stmt} {z : Str × Pos × Str × Pos × Nat × Pos × Expr × Expr × Nat × Pos × Pos} (h : dPar s = some z) : ∃ x px y py k p u v k2 p2 q, z = (x, px, y, py, k, p, u, v, k2, p2, q) ∧ s = .Assign [.Tuple [.Name x px, .Name y py] k p] (.Tuple [u, v] k2 p2) q := by
  unfold dPar at h
  split at h
  · cases h
    exact ⟨_, _, _, _, _, _, _, _, _, _, _, rfl, rfl⟩
  · cases h
def dAug : Stmt → Option (Str × Pos × Operator × Expr × Pos)
  | .AugAssign (.Name x p) o v q => some (x, p, o, v, q)
  | _ => none
theorem dAug_ok {s : Stmt} {z : Str × Pos × Operator × Expr × Pos} (h : dAug s = some z) : ∃ x p o v q, z = (x, p, o, v, q) ∧ s = .AugAssign (.Name x p) o v q := by
  unfold dAug at h
  split at h
  · cases h
    exact ⟨_, _, _, _, _, rfl, rfl⟩
  · cases h
def dSub : Stmt → Option (Expr × Expr × Pos × Expr × Pos)
  | .Assign [.Subscript x y p] v q => some (x, y, p, v, q)
  | _ => none
theorem dSub_ok {s : Stmt} {z : Expr × Expr × Pos × Expr × Pos} (h : dSub s = some z) : ∃ x y p v q, z = (x, y, p, v, q) ∧ s = .Assign [.Subscript x y p] v q := by
  unfold dSub at h
  split at h
  · cases h
    exact ⟨_, _, _, _, _, rfl, rfl⟩
  · cases h
def dAugSub : Stmt → Option (Expr × Expr × Pos × Operator × Expr × Pos)
  | .AugAssign (.Subscript x y p) o v q => some (x, y, p, o, v, q)
  | _ => none
theorem dAugSub_ok {s : Stmt} {z : Expr × Expr × Pos × Operator × Expr × Pos} (h : dAugSub s = some z) : ∃ x y p o v q, z = (x, y, p, o, v, q) ∧ s = .AugAssign (.Subscript x y p) o v q := by
  unfold dAugSub at h
  split at h
  · cases h
    exact ⟨_, _, _, _, _, _, rfl, rfl⟩
  · cases h
def dExpr : Stmt → Option (Expr × Pos)
  | .Expr v q => some (v, q)
  | _ => none
theorem dExpr_ok {s : Stmt} {z : Expr × Pos} (h : dExpr s = some z) : ∃ v q, z = (v, q) ∧ s = .Expr v q := by
  unfold dExpr at h
  split at h
  · cases h
    exact ⟨_, _, rfl, rfl⟩
  · cases h
def dIf : Stmt → Option (Expr × List Stmt × List Stmt × Pos)
  | .If x a b q => some (x, a, b, q)
  | _ => none
theorem dIf_ok {s : Stmt} {z : Expr × List Stmt × List Stmt × Pos} (h : dIf s = some z) : ∃ x a b q, z = (x, a, b, q) ∧ s = .If x a b q := by
  unfold dIf at h
  split at h
  · cases h
    exact ⟨_, _, _, _, rfl, rfl⟩
  · cases h
def dWhile : Stmt → Option (Expr × List Stmt × Pos)
  | .While x a [] q => some (x, a, q)
  | _ => none
theorem dWhile_ok {s : Stmt} {z : Expr × List Stmt × Pos} (h : dWhile s = some z) : ∃ x a q, z = (x, a, q) ∧ s = .While x a [] q := by
  unfold dWhile at h
  split at h
  · cases h
    exact ⟨_, _, _, rfl, rfl⟩
  · cases h
def dFor : Stmt → Option (Expr × Expr × List Stmt × Pos)
  | .For t i a [] q => some (t, i, a, q)
  | _ => none
theorem dFor_ok {s : Stmt} {z : Expr × Expr × List Stmt × Pos} (h : dFor s = some z) : ∃ t i a q, z = (t, i, a, q) ∧ s = .For t i a [] q := by
  unfold dFor at h
  split at h
  · cases h
    exact ⟨_, _, _, _, rfl, rfl⟩
  · cases h
def dRet : Stmt → Option (Expr × Pos)
  | .Return (some v) q => some (v, q)
  | _ => none
theorem dRet_ok {s : Stmt} {z : Expr × Pos} (h : dRet s = some z) : ∃ v q, z = (v, q) ∧ s = .Return (some v) q := by
  unfold dRet at h
  split at h
  · cases h
    exact ⟨_, _, rfl, rfl⟩
  · cases h
def dRetN : Stmt → Option (Pos)
  | .Return none q => some q
  | _ => none
theorem dRetN_ok {s : Stmt} {z : Pos} (h : dRetN s = some z) : ∃ q, z = q ∧ s = .Return none q := by
  unfold dRetN at h
  split at h
  · cases h
    exact ⟨_, rfl, rfl⟩
  · cases h
def dBrk : Stmt → Option (Pos)
  | .Break q => some q
  | _ => none
theorem dBrk_ok {s : Stmt} {z : Pos} (h : dBrk s = some z) : ∃ q, z = q ∧ s = .Break q := by
  unfold dBrk at h
  split at h
  · cases h
    exact ⟨_, rfl, rfl⟩
  · cases h
def dCont : Stmt → Option (Pos)
  | .Continue q => some q
  | _ => none
theorem dCont_ok {s : Stmt} {z : Pos} (h : dCont s = some z) : ∃ q, z = q ∧ s = .Continue q := by
  unfold dCont at h
  split at h
  · cases h
    exact ⟨_, rfl, rfl⟩
  · cases h
def dPass : Stmt → Option (Pos)
  | .Pass q => some q
  | _ => none
theorem dPass_ok {s : Stmt} {z : Pos} (h : dPass s = some z) : ∃ q, z = q ∧ s = .Pass q := by
  unfold dPass at h
  split at h
  · cases h
    exact ⟨_, rfl, rfl⟩
  · cases h

def isCompE : E → Bool
  | .comp _ _ _ _ _ _ => true
  | _ => false
mutual
def mS (T : Tab) (N : List Str) (sc : Scope) : Sw.St → Stmt → Bool
  | .set i e, s => match dName s with
    | some (x, _, v, _) => decide (N[i]? = some x) && isLoc sc x && mE T N e sc v && (!isComp v || isCompE e)
    | none => false
  | .setT tg e, s => match dTup s with
    | some (es, k, p, v, _) => mTg N sc tg (.Tuple es k p) && mE T N e sc v && !isTupE v
    | none => false
  | .par i j a b, s => match dPar s with
    | some (x, px, y, py, _, _, u, v, _, _, _) => decide (N[i]? = some x) && decide (N[j]? = some y) && parB sc x y px py u v && !(decide (i = j)) && mE T N a sc u && mE T N b sc v
    | none => false
  | .aug i op e, s => match dAug s with
    | some (x, _, o, v, _) => decide (N[i]? = some x) && isLoc sc x && decide (augOp op = some o) && mE T N e sc v
    | none => false
  | .setIx a i e, s => match dSub s with
    | some (x, y, _, v, _) => mE T N a sc x && mE T N i sc y && mE T N e sc v && plainIx y
    | none => false
  | .augIx a i op e, s => match dAugSub s with
    | some (x, y, _, o, v, _) => mE T N a sc x && mE T N i sc y && mE T N e sc v && plainIx y && decide (augOp op = some o)
    | none => false
  | .expr e, s => match dExpr s with
    | some (v, _) => mE T N e sc v && !isComp v
    | none => false
  | .ifS t a b, s => match dIf s with
    | some (x, y, z, _) => mE T N t sc x && mSs T N sc a y && mSs T N sc b z
    | none => false
  | .whileS t b, s => match dWhile s with
    | some (x, y, _) => mE T N t sc x && mSs T N sc b y
    | none => false
  | .forS tg it b, s => match dFor s with
    | some (t, iter, y, _) => mTg N sc tg t && mI T N it sc t iter && mSs T N sc b y && okIter iter
    | none => false
  | .ret e, s => match dRet s with
    | some (v, _) => mE T N e sc v
    | none => false
  | .retN, s => (dRetN s).isSome
  | .brk, s => (dBrk s).isSome
  | .cont, s => (dCont s).isSome
  | .pass, s => (dPass s).isSome
  | .stk, _ => true
def mSs (T : Tab) (N : List Str) (sc : Scope) : Sts → List Stmt → Bool
  | .nil, [] => true
  | .cons s ss, x :: xs => mS T N sc s x && mSs T N sc ss xs
  | _, _ => false
end
section
variable {c : Fns} {M : Nat} {T : Tab} {N : List Str} {sc : Scope} {X : Cx}
theorem set_ok (ok : OkS c T N sc X) {i : Nat} {e : E} {y : Str} {p q : Pos} {v : Expr} (h1 : N[i]? = some y) (h2 : isLoc sc y = true) (h3 : mE T N e sc v = true) (h4 : isComp v = false ∨ isCompE e = true) : SS X (.Assign [.Name y p] v q) (exec c M (.set i e)) := by
  by_cases hc : isComp v = false
  · exact ss_set ok h1 h2 (mE_ok e sc v h3 X ok.toOk).1 hc
  · have h4 : isCompE e = true := h4.resolve_left hc
    cases e with
    | comp o elt tg it cond own =>
      cases v with
      | ListComp y' gs scope p3 => exact ss_setL ok h1 h2 ((mE_ok _ sc _ h3 X ok.toOk).2.2 o elt tg it cond own rfl)
      | _ => simp [mE] at h3
    | _ => cases h4
mutual
theorem mS_ok (ok : OkS c T N sc X) : ∀ (s : Sw.St) (x : Stmt), mS T N sc s x = true → SS X x (exec c M s)
  | .set i e, x, h => by
    rw [mS] at h
    split at h; rotate_left; cases h
    rename_i e1
    obtain ⟨_, _, _, _, e2, rfl⟩ := dName_ok e1
    cases e2
    simp only [Bool.and_eq_true, decide_eq_true_eq, Bool.or_eq_true, Bool.not_eq_true'] at h
    obtain ⟨⟨⟨h1, h2⟩, h3⟩, h4⟩ := h
    exact set_ok ok h1 h2 h3 h4
  | .setT tg e, x, h => by
    rw [mS] at h
    split at h; rotate_left; cases h
    rename_i e1
    obtain ⟨_, _, _, _, _, e2, rfl⟩ := dTup_ok e1
    cases e2
    simp only [Bool.and_eq_true, Bool.not_eq_true'] at h
    obtain ⟨⟨h1, h2⟩, h3⟩ := h
    exact ss_setT ok (mTg_ok ok.toOk ok.fnL tg _ h1) (mE_ok e sc _ h2 X ok.toOk).1 h3
  | .par i j a b, x, h => by
    rw [mS] at h
    split at h; rotate_left; cases h
    rename_i e1
    obtain ⟨_, _, _, _, _, _, _, _, _, _, _, e2, rfl⟩ := dPar_ok e1
    cases e2
    simp only [Bool.and_eq_true, decide_eq_true_eq, Bool.not_eq_true', decide_eq_false_iff_not] at h
    obtain ⟨⟨⟨⟨⟨h1, h2⟩, h3⟩, h4⟩, h5⟩, h6⟩ := h
    exact ss_par ok h1 h2 h3 h4 (mE_ok a sc _ h5 X ok.toOk).1 (mE_ok b sc _ h6 X ok.toOk).1
  | .aug i op e, x, h => by
    rw [mS] at h
    split at h; rotate_left; cases h
    rename_i e1
    obtain ⟨_, _, _, _, _, e2, rfl⟩ := dAug_ok e1
    cases e2
    simp only [Bool.and_eq_true, decide_eq_true_eq] at h
    obtain ⟨⟨⟨h1, h2⟩, h3⟩, h4⟩ := h
    exact ss_aug ok h1 h2 h3 (mE_ok e sc _ h4 X ok.toOk).1
  | .setIx a i e, x, h => by
    rw [mS] at h
    split at h; rotate_left; cases h
    rename_i e1
    obtain ⟨_, _, _, _, _, e2, rfl⟩ := dSub_ok e1
    cases e2
    simp only [Bool.and_eq_true] at h
    obtain ⟨⟨⟨h1, h2⟩, h3⟩, h4⟩ := h
    exact ss_setIx ok (mE_ok a sc _ h1 X ok.toOk).1 (mE_ok i sc _ h2 X ok.toOk).1 (mE_ok e sc _ h3 X ok.toOk).1 h4
  | .augIx a i op e, x, h => by
    rw [mS] at h
    split at h; rotate_left; cases h
    rename_i e1
    obtain ⟨_, _, _, _, _, _, e2, rfl⟩ := dAugSub_ok e1
    cases e2
    simp only [Bool.and_eq_true, decide_eq_true_eq] at h
    obtain ⟨⟨⟨⟨h1, h2⟩, h3⟩, h4⟩, h5⟩ := h
    exact ss_augIx ok (mE_ok a sc _ h1 X ok.toOk).1 (mE_ok i sc _ h2 X ok.toOk).1 (mE_ok e sc _ h3 X ok.toOk).1 h4 h5
  | .expr e, x, h => by
    rw [mS] at h
    split at h; rotate_left; cases h
    rename_i e1
    obtain ⟨_, _, e2, rfl⟩ := dExpr_ok e1
    cases e2
    simp only [Bool.and_eq_true, Bool.not_eq_true'] at h
    exact ss_expr (mE_ok e sc _ h.1 X ok.toOk).1 h.2
  | .ifS t a b, x, h => by
    rw [mS] at h
    split at h; rotate_left; cases h
    rename_i e1
    obtain ⟨_, _, _, _, e2, rfl⟩ := dIf_ok e1
    cases e2
    simp only [Bool.and_eq_true] at h
    exact ss_if (mE_ok t sc _ h.1.1 X ok.toOk).2.1 (mSs_ok ok a _ h.1.2) (mSs_ok ok b _ h.2)
  | .whileS t b, x, h => by
    rw [mS] at h
    split at h; rotate_left; cases h
    rename_i e1
    obtain ⟨_, _, _, e2, rfl⟩ := dWhile_ok e1
    cases e2
    simp only [Bool.and_eq_true] at h
    exact ss_while ok (mE_ok t sc _ h.1 X ok.toOk).2.1 (mSs_ok ok b _ h.2)
  | .forS tg it b, x, h => by
    rw [mS] at h
    split at h; rotate_left; cases h
    rename_i e1
    obtain ⟨_, _, _, _, e2, rfl⟩ := dFor_ok e1
    cases e2
    simp only [Bool.and_eq_true] at h
    obtain ⟨⟨⟨h1, h2⟩, h3⟩, h4⟩ := h
    exact ss_for ok (mI_ok it sc _ _ h2 X ok.toOk) (mTg_ok ok.toOk ok.fnL tg _ h1) (mSs_ok ok b _ h3) (okIter_ok h4 _)
  | .ret e, x, h => by
    rw [mS] at h
    split at h; rotate_left; cases h
    rename_i e1
    obtain ⟨_, _, e2, rfl⟩ := dRet_ok e1
    cases e2
    exact ss_ret (mE_ok e sc _ h X ok.toOk).1
  | .retN, x, h => by
    rw [mS, Option.isSome_iff_exists] at h
    obtain ⟨z, e1⟩ := h
    obtain ⟨_, e2, rfl⟩ := dRetN_ok e1
    exact ss_retN
  | .brk, x, h => by
    rw [mS, Option.isSome_iff_exists] at h
    obtain ⟨z, e1⟩ := h
    obtain ⟨_, e2, rfl⟩ := dBrk_ok e1
    exact ss_brk
  | .cont, x, h => by
    rw [mS, Option.isSome_iff_exists] at h
    obtain ⟨z, e1⟩ := h
    obtain ⟨_, e2, rfl⟩ := dCont_ok e1
    exact ss_cont
  | .pass, x, h => by
    rw [mS, Option.isSome_iff_exists] at h
    obtain ⟨z, e1⟩ := h
    obtain ⟨_, e2, rfl⟩ := dPass_ok e1
    exact ss_pass
  | .stk, x, h => ss_stk
theorem mSs_ok (ok : OkS c T N sc X) : ∀ (s : Sts) (x : List Stmt), mSs T N sc s x = true → SSs X x (execs c M s)
  | .nil, [], _ => sss_nil
  | .nil, _ :: _, h => by simp [mSs] at h
  | .cons s ss, [], h => by simp [mSs] at h
  | .cons s ss, x :: xs, h => by
    simp only [mSs, Bool.and_eq_true] at h
    exact sss_cons (mS_ok ok s x h.1) (mSs_ok ok ss xs h.2)
end
end

/-! ### a def's end: its new lists packed -/
section
variable {K : PySem.W.Frag} {G G1 G2 G' : Gh} {n : Nat}
structure Killed (K : PySem.W.Frag) (n : Nat) (G G' : Gh) (F : List Addr) : Prop where
  wf : Wf K G'
  mono : Mono K G G'
  beta : G'.β = G.β
  len : G'.S.length = G.S.length
  low : ∀ i, i < n → G'.S[i]? = G.S[i]?
  rs : ∀ a, G'.Rs a ↔ G.Rs a ∨ a ∈ F
  own : ∀ a, G'.Own a ↔ G.Own a ∧ a ∉ F
  F : ∀ a ∈ F, G.Own a ∧ ∃ i, n ≤ i ∧ i < G.S.length ∧ G.β i = a
theorem Killed.none (w : Wf K G) : Killed K n G G [] := ⟨w, ⟨rfl, fun r => r, fun r => r⟩, rfl, rfl, fun _ _ => rfl, fun a => by simp, fun a => by simp, fun a h => nomatch h⟩
theorem Killed.trans {F F' F2 : List Addr} (a : Killed K n G G1 F) (b : Killed K n G1 G2 F') (h : ∀ x, x ∈ F2 ↔ x ∈ F ∨ x ∈ F') : Killed K n G G2 F2 where
  wf := b.wf
  mono := a.mono.trans b.mono
  beta := b.beta.trans a.beta
  len := b.len.trans a.len
  low := fun i hi => (b.low i hi).trans (a.low i hi)
  rs := fun x => by rw [b.rs, a.rs, h, or_assoc]
  own := fun x => by rw [b.own, a.own, h, not_or, and_assoc]
  F := fun x hx => by
    rcases (h x).mp hx with z | z
    · exact a.F x z
    · obtain ⟨h1, i, h2, h3, h4⟩ := b.F x z
      exact ⟨((a.own x).mp h1).1, i, h2, by rw [← a.len]; exact h3, by rw [← a.beta]; exact h4⟩
abbrev Gh.kill (G : Gh) (i : Nat) : Gh := { G with S := G.S.set i .dead, Rs := fun a => G.Rs a ∨ a = G.β i }
theorem kill_ok (w : Wf K G) {i : Nat} {ds : List D} (h : G.S[i]? = some (.live ds)) (hn : n ≤ i) : Killed K n G (G.kill i) [G.β i] := by
  have hi : i < G.S.length := (List.getElem?_eq_some_iff.mp h).1
  have ow : ∀ a, (G.kill i).Own a ↔ G.Own a ∧ a ≠ G.β i := by
    intro a
    constructor
    · rintro ⟨j, es, e, rfl⟩
      have e' : (if j = i then some Cell.dead else G.S[j]?) = some (.live es) := by
        rw [← get_set _ _ _ _ hi]
        exact e
      by_cases q : j = i
      · rw [if_pos q] at e'
        cases e'
      · rw [if_neg q] at e'
        exact ⟨⟨j, es, e', rfl⟩, fun z => q (w.inj j i es ds e' h z)⟩
    · rintro ⟨⟨j, es, e, rfl⟩, z⟩
      have q : j ≠ i := fun q => z (by rw [q])
      exact ⟨j, es, by show (G.S.set i .dead)[j]? = _; rw [get_set _ _ _ _ hi, if_neg q]; exact e, rfl⟩
  have bo : G.Own (G.β i) := ⟨i, ds, h, rfl⟩
  have mv : Move K G (G.kill i) := ⟨fun a vs h1 h2 h3 => ⟨h1, fun z => h2 ((ow a).mp z).1, fun z => z.elim h3 fun q => h2 (by rw [q]; exact bo)⟩, fun _ _ h => h, fun _ _ _ h => h, by show G.S.length ≤ (G.S.set i _).length; simp, fun _ _ => rfl⟩
  have m : Mono K G (G.kill i) := .of mv rfl
  refine ⟨⟨fun j es e => ?_, fun j es e => ?_, fun j k es fs e1 e2 e3 => ?_, fun j es e => ?_, fun a z => ?_, fun j z => ?_⟩, m, rfl, by show (G.S.set i _).length = _; simp, fun j hj => ?_, fun a => by show (G.Rs a ∨ a = G.β i) ↔ _; simp, fun a => by rw [ow]; simp, fun a ha => ?_⟩
  · have e' : (if j = i then some Cell.dead else G.S[j]?) = some (.live es) := by
      rw [← get_set _ _ _ _ hi]
      exact e
    by_cases q : j = i
    · rw [if_pos q] at e'
      cases e'
    · rw [if_neg q] at e'
      obtain ⟨vs, h1, h2⟩ := w.live j es e'
      exact ⟨vs, h1, h2.move mv⟩
  · have e' : (if j = i then some Cell.dead else G.S[j]?) = some (.frz es) := by
      rw [← get_set _ _ _ _ hi]
      exact e
    by_cases q : j = i
    · rw [if_pos q] at e'
      cases e'
    · rw [if_neg q] at e'
      obtain ⟨vs, h1, h2, h3, h4⟩ := w.frz j es e'
      exact ⟨vs, h1, fun z => h2 ((ow _).mp z).1, fun z => z.elim h3 fun q => h2 (by rw [q]; exact bo), h4.move mv⟩
  · have e1' : (if j = i then some Cell.dead else G.S[j]?) = some (.live es) := by
      rw [← get_set _ _ _ _ hi]
      exact e1
    have e2' : (if k = i then some Cell.dead else G.S[k]?) = some (.live fs) := by
      rw [← get_set _ _ _ _ hi]
      exact e2
    by_cases q : j = i
    · rw [if_pos q] at e1'
      cases e1'
    · by_cases q2 : k = i
      · rw [if_pos q2] at e2'
        cases e2'
      · rw [if_neg q] at e1'
        rw [if_neg q2] at e2'
        exact w.inj j k es fs e1' e2' e3
  · have e' : (if j = i then some Cell.dead else G.S[j]?) = some (.live es) := by
      rw [← get_set _ _ _ _ hi]
      exact e
    by_cases q : j = i
    · rw [if_pos q] at e'
      cases e'
    · rw [if_neg q] at e'
      rintro (z | z)
      · exact w.nrs j es e' z
      · exact q (w.inj j i es ds e' h z)
  · rcases z with z | z
    · exact w.rs a z
    · rw [z]
      exact w.there i hi
  · have z' : j < (G.S.set i Cell.dead).length := z
    exact w.there j (by simpa using z')
  · show (G.S.set i .dead)[j]? = _
    rw [get_set _ _ _ _ hi, if_neg (by omega)]
  · rw [List.mem_singleton.mp ha]
    exact ⟨bo, i, hn, hi, rfl⟩
def GoodP (K : PySem.W.Frag) (n : Nat) (f : D → Store → Option (D × Store)) : Prop := ∀ d S d' S', f d S = some (d', S') → ∀ G v, G.S = S → Wf K G → Rep K G d v → ∃ G' F, G'.S = S' ∧ Killed K n G G' F ∧ RepF K G' d' v F ∧ F.Nodup
theorem packA_ok {f : D → Store → Option (D × Store)} (hf : GoodP K n f) : ∀ ds S ds' S', frzA f ds S = some (ds', S') → ∀ G vs, G.S = S → Wf K G → Reps K G ds vs → ∃ G' F, G'.S = S' ∧ Killed K n G G' F ∧ RepFs K G' ds' vs F ∧ F.Nodup := by
  intro ds
  induction ds with
  | nil =>
    intro S d' S' h G v hS w r
    cases h
    cases r
    exact ⟨G, [], hS, .none w, .nil, .nil⟩
  | cons d ds ih =>
    intro S d' S' h G v hS w r
    rw [frzA] at h
    split at h
    · rename_i d1 S1 e1
      split at h
      · rename_i ds2 S2 e2
        cases h
        cases r with
        | cons r rs =>
          obtain ⟨G1, F1, hS1, k1, r1, n1⟩ := hf d S d1 S1 e1 G _ hS w r
          obtain ⟨G2, F2, hS2, k2, r2, n2⟩ := ih S1 ds2 _ e2 G1 _ hS1 k1.wf (k1.mono.reps rs)
          refine ⟨G2, F1 ++ F2, hS2, k1.trans k2 fun x => List.mem_append, .cons (r1.mono k2.mono) r2, List.nodup_append.mpr ⟨n1, n2, fun a ha b hb e => ?_⟩⟩
          subst e
          exact ((k1.own a).mp (k2.F a hb).1).2 ha
      · cases h
    · cases h
theorem packD_ok : ∀ k, GoodP K n (packD k n)
  | 0 => fun d S d' S' h => by
    unfold packD at h
    cases h
  | k + 1 => fun d S d' S' h G v hS w r => by
    have same : some (d, S) = some (d', S') → ∃ G' F, G'.S = S' ∧ Killed K n G G' F ∧ RepF K G' d' v F ∧ F.Nodup := fun h => by
      cases h
      exact ⟨G, [], hS, .none w, .old r, .nil⟩
    cases d with
    | box i =>
      rw [packD] at h
      split at h
      · exact same h
      · rename_i hni
        split at h
        · rename_i ds e
          split at h
          · rename_i ds' S1 e1
            cases h
            subst hS
            have k0 := kill_ok (n := n) w e (by omega)
            obtain ⟨vs, hv, rs⟩ := w.live i ds e
            obtain ⟨G1, F1, hS1, k1, r1, n1⟩ := packA_ok (packD_ok k) ds _ ds' S' e1 (G.kill i) vs rfl k0.wf (k0.mono.reps rs)
            cases r
            have nf : G.β i ∉ F1 := fun z => ((k0.own _).mp (k1.F _ z).1).2 (by simp)
            refine ⟨G1, F1 ++ [G.β i], hS1, k0.trans k1 fun x => by simp [or_comm], .fre (by rw [k1.mono.H]; exact hv) r1, List.nodup_append.mpr ⟨n1, by simp, fun a ha b hb e => ?_⟩⟩
            rw [List.mem_singleton.mp hb] at e
            subst e
            exact nf ha
          · cases h
        · rename_i ds e
          cases h
          subst hS
          obtain ⟨vs, h1, h2, h3, h4⟩ := w.frz i ds e
          cases r
          exact ⟨G, [], rfl, .none w, .old (.lst h1 h2 h3 h4), .nil⟩
        · cases h
    | tup ds =>
      rw [packD] at h
      split at h
      · rename_i ds' S1 e1
        cases h
        cases r with
        | tup h1 rs =>
          obtain ⟨G1, F1, hS1, k1, r1, n1⟩ := packA_ok (packD_ok k) ds S ds' S' e1 G _ hS w rs
          exact ⟨G1, F1, hS1, k1, .tup (by rw [k1.mono.H]; exact h1) r1, n1⟩
      · cases h
    | _ => exact same h
/-! the store as long as it was -/
abbrev Gh.cut (G : Gh) (n : Nat) : Gh := { G with S := G.S.take n }
theorem get_take {S : Store} {n i : Nat} {cl : Cell} (h : (S.take n)[i]? = some cl) : i < n ∧ S[i]? = some cl := by
  rw [List.getElem?_take] at h
  split at h
  · exact ⟨by assumption, h⟩
  · cases h
theorem own_cut {a : Addr} (h : (G.cut n).Own a) : G.Own a := by
  obtain ⟨i, ds, e, z⟩ := h
  exact ⟨i, ds, (get_take e).2, z⟩
mutual
theorem rep_cut (hn : n ≤ G.S.length) : ∀ {d : D} {v : V}, Rep K G d v → bnd n d = true → Rep K (G.cut n) d v
  | _, _, .non, _ => .non
  | _, _, .bl b, _ => .bl b
  | _, _, .int i, _ => .int i
  | _, _, .str x, _ => .str x
  | _, _, .lst h1 h2 h3 r, h => .lst h1 (fun z => h2 (own_cut z)) h3 (reps_cut hn r h)
  | _, _, .tup h1 r, h => .tup h1 (reps_cut hn r h)
  | _, _, .box (i := i) h1, h => by
    have hi : i < n := of_decide_eq_true h
    exact .box (G := G.cut n) (by show i < (G.S.take n).length; rw [List.length_take]; omega)
  | _, _, .scr h1, _ => .scr h1
theorem reps_cut (hn : n ≤ G.S.length) : ∀ {ds : List D} {vs : List V}, Reps K G ds vs → bnds n ds = true → Reps K (G.cut n) ds vs
  | _, _, .nil, _ => .nil
  | _, _, .cons r t, h => by
    rw [bnds_cons] at h
    exact .cons (rep_cut hn r h.1) (reps_cut hn t h.2)
end
mutual
theorem repF_cut (hn : n ≤ G.S.length) : ∀ {d : D} {v : V} {F : List Addr}, RepF K G d v F → bnd n d = true → RepF K (G.cut n) d v F
  | _, _, _, .old r, h => .old (rep_cut hn r h)
  | _, _, _, .fre h1 r, h => .fre h1 (repFs_cut hn r h)
  | _, _, _, .tup h1 r, h => .tup h1 (repFs_cut hn r h)
theorem repFs_cut (hn : n ≤ G.S.length) : ∀ {ds : List D} {vs : List V} {F : List Addr}, RepFs K G ds vs F → bnds n ds = true → RepFs K (G.cut n) ds vs F
  | _, _, _, .nil, _ => .nil
  | _, _, _, .cons r t, h => by
    rw [bnds_cons] at h
    exact .cons (repF_cut hn r h.1) (repFs_cut hn t h.2)
end
theorem wf_cut (w : Wf K G) (hn : n ≤ G.S.length) (hb : Bd n G.S) : Wf K (G.cut n) := by
  refine ⟨fun i ds e => ?_, fun i ds e => ?_, fun i j ds es e1 e2 e3 => w.inj i j ds es (get_take e1).2 (get_take e2).2 e3, fun i ds e => w.nrs i ds (get_take e).2, w.rs, fun i h => ?_⟩
  · obtain ⟨hi, e⟩ := get_take e
    obtain ⟨vs, h1, h2⟩ := w.live i ds e
    exact ⟨vs, h1, reps_cut hn h2 (hb i _ hi e)⟩
  · obtain ⟨hi, e⟩ := get_take e
    obtain ⟨vs, h1, h2, h3, h4⟩ := w.frz i ds e
    exact ⟨vs, h1, fun z => h2 (own_cut z), h3, reps_cut hn h4 (hb i _ hi e)⟩
  · have h' : i < (G.S.take n).length := h
    rw [List.length_take] at h'
    exact w.there i (by omega)
/-- a def hands back -/
theorem exit_ok {d : D} {v : V} {r : D} {S2 : Store} {Q : VK} (w : Wf K G) (st : Stp G G') (w' : Wf K G') (rd : Rep K G' d v) (h : exitD G.S.length d G'.S = some (r, S2))
    (q : ∀ G'' v F, G''.S = S2 → Stp G { G'' with Rs := G.Rs } → (∀ a, G''.Rs a ↔ G.Rs a ∨ a ∈ F) → Wf K G'' → RepF K G'' r v F → F.Nodup → (∀ a ∈ F, G.H a = none) → Q v G''.H) : Q v G'.H := by
  unfold exitD at h
  split at h; rotate_left; cases h
  rename_i r' S1 e1
  split at h; rotate_left; cases h
  rename_i hb
  cases h
  obtain ⟨G1, F, hS1, k, rf, nd⟩ := packD_ok (n := G.S.length) 8 d G'.S r S1 e1 G' v rfl w' rd
  subst hS1
  have hl : G.S.length ≤ G1.S.length := by rw [k.len]; exact st.len
  have fr : ∀ a ∈ F, G.H a = none := fun a ha => by
    obtain ⟨_, i, h1, h2, rfl⟩ := k.F a ha
    exact st.new i h1 h2
  have bd : Bd G.S.length G1.S := fun i cl hi e => by
    rw [k.low i hi] at e
    exact st.bd _ (Nat.le_refl _) w.bd i cl hi e
  have := q (G1.cut G.S.length) v F rfl ⟨?_, fun i hi => ?_, fun a o h1 h2 => ?_, fun a o h1 => ?_, fun i h1 h2 => ?_, rfl, fun m hm hb' i cl hi e => ?_⟩ (fun a => by show G1.Rs a ↔ _; rw [k.rs, st.rs]) (wf_cut k.wf hl bd) (repF_cut hl rf hb) nd fr
  · rw [← k.mono.H]
    exact this
  · show G.S.length ≤ (G1.S.take _).length
    rw [List.length_take]
    omega
  · show G1.β i = _
    rw [k.beta]
    exact st.beta i hi
  · obtain ⟨h3, h4⟩ := st.keep a o h1 h2
    refine ⟨by show G1.H a = _; rw [k.mono.H]; exact h3, fun z => h4 ?_⟩
    have z' : (G1.cut G.S.length).Own a := z
    exact ((k.own a).mp (own_cut z')).1
  · obtain ⟨o', h3⟩ := st.dom a o h1
    exact ⟨o', by show G1.H a = _; rw [k.mono.H]; exact h3⟩
  · have h2' : i < (G1.S.take G.S.length).length := h2
    rw [List.length_take] at h2'
    omega
  · obtain ⟨_, e⟩ := get_take e
    rw [k.low i (by omega)] at e
    exact st.bd m hm hb' i cl hi e
end
end Sw

set_option Elab.async false
set_option linter.all false
set_option maxRecDepth 100000
set_option maxHeartbeats 4000000
namespace Sw
open PySem PySem.Spec PyProof.Rows L2

/-! ### a def of the text and what the evaluator has of it -/
structure Def where
  /-- the name it is called by, its own name, its text, its names, its parameters, the text as the evaluator has it -/
  y : Str
  x : Str
  st : Stmt
  N : List Str
  ps : List Str
  fd : FD
def isLC (sc : Scope) (x : Str) : Bool := match sc.names.lookup x with
  | some .local => true
  | some .cell => true
  | _ => false
theorem isLC_ok {sc : Scope} {x : Str} (h : isLC sc x = true) : sc.names.lookup x = some .local ∨ sc.names.lookup x = some .cell := by
  unfold isLC at h
  split at h
  · exact .inl (by assumption)
  · exact .inr (by assumption)
  · cases h
def isFunK : ScopeKind → Bool
  | .function => true
  | _ => false
def notFree : NameKind → Bool
  | .free => false
  | _ => true
def okScope (N ps : List Str) (sc : Scope) : Bool :=
  isFunK sc.kind && !sc.isCoroutine && !sc.isGenerator && decide N.Nodup && decide (N.take ps.length = ps) && ps.all (isLC sc) && sc.names.all fun y => notFree y.2
theorem okScope_ok {N ps : List Str} {sc : Scope} (h : okScope N ps sc = true) : FnScope N ps sc := by
  unfold okScope at h
  simp only [Bool.and_eq_true] at h
  obtain ⟨⟨⟨⟨⟨⟨h1, h2⟩, h3⟩, h4⟩, h5⟩, h6⟩, h7⟩ := h
  refine ⟨?_, by simpa using h2, by simpa using h3, of_decide_eq_true h4, of_decide_eq_true h5, fun x hx => isLC_ok (List.all_eq_true.mp h6 x hx), fun y hy => ?_⟩
  · cases e : sc.kind <;> rw [e] at h1 <;> first | rfl | cases h1
  · have := List.all_eq_true.mp h7 y hy
    intro e
    rw [e] at this
    cases this
abbrev Defs := List (Nat × Def)
def FTof (defs : Defs) (f : Nat) : Option FD := (defs.lookup f).map (·.fd)
theorem callK_at {fs : Nat → Option FD} {M k f : Nat} {ds : List D} {S : Store} {fd : FD} (h : fs f = some fd) : callK fs M (k + 1) f ds S = runF (callK fs M k) M fd ds S := by
  show (match fs f with
    | some fd => runF (callK fs M k) M fd ds S
    | none => none) = _
  rw [h]
def Tof (xs : List (Nat × Str)) (gs : List (Str × D)) : Tab := ⟨fun f => xs.lookup f, fun x => gs.lookup x⟩
def okDef (xs : List (Nat × Str)) (gs : List (Str × D)) (d : Def) : Bool := okScope d.N d.ps (defScope d.st) && mSs (Tof xs gs) d.N (defScope d.st) d.fd.body (defBody d.st) && decide (d.fd.np = d.ps.length) && decide (d.fd.ns = d.N.length)
section
variable {P : Program} {w : World} {K : PySem.W.Frag} {mg : Str → Option Value} {base : Heap}
def Laid (K : PySem.W.Frag) (mg : Str → Option Value) (d : Def) (fa : Addr) (fdat : FuncData) : Prop := mg d.y = some (.ref fa) ∧ Fun K d.x d.x d.st fa fdat ∧ ∀ us : List Value, us.length = d.ps.length → bindArgs fdat ⟨us, []⟩ = pure (d.ps.zip us)
structure Tops (K : PySem.W.Frag) (mg : Str → Option Value) (xs : List (Nat × Str)) (gs : List (Str × D)) (defs : Defs) : Prop where
  eq : xs = defs.map fun p => (p.1, p.2.y)
  bl : ∀ x ∈ biNames, mg x = none
  gl : ∀ p ∈ gs, GlobOk K mg p.1 p.2
  ok : ∀ p ∈ defs, okDef xs gs p.2 = true
  at_ : ∀ p ∈ defs, ∃ fa fdat, Laid K mg p.2 fa fdat
theorem lookup_map {α β : Type} (g : α → β) (f : Nat) : ∀ l : List (Nat × α), (l.map fun p => (p.1, g p.2)).lookup f = (l.lookup f).map g
  | [] => rfl
  | (a, b) :: t => by
    show (match f == a with
      | true => some (g b)
      | false => (t.map fun p => (p.1, g p.2)).lookup f) = Option.map g (match f == a with
      | true => some b
      | false => t.lookup f)
    cases f == a
    · exact lookup_map g f t
    · rfl
theorem mem_lookup {α β : Type} [BEq α] [LawfulBEq α] {f : α} {d : β} : ∀ {l : List (α × β)}, l.lookup f = some d → (f, d) ∈ l
  | [], h => nomatch h
  | (a, b) :: t, h => by
    have h : (match f == a with
      | true => some b
      | false => t.lookup f) = some d := h
    cases e : f == a with
    | true =>
      rw [e] at h
      cases h
      rw [eq_of_beq e]
      exact List.mem_cons_self
    | false =>
      rw [e] at h
      exact List.mem_cons_of_mem _ (mem_lookup h)
theorem fnOk (M : Nat) {xs : List (Nat × Str)} {gs : List (Str × D)} {defs : Defs} (t : Tops K mg xs gs defs) : ∀ (k f : Nat) (d : Def) (fa : Addr) (fdat : FuncData), defs.lookup f = some d → Laid K mg d fa fdat →
    FnOk P w K mg base CX0 k fa fdat d.ps (spOf K (callK (FTof defs) M k) f d.ps.length)
  | 0, f, d, fa, fdat, hf, hl => by
    refine ⟨fun vs H Q E h => ?_, fun A outer s H args us vs Q E hr e0 hb hv h => ?_⟩
    · obtain ⟨G, ds, _, _, _, _, _, _, e, _⟩ := h
      cases e
    · obtain ⟨G, ds, _, _, _, _, _, _, e, _⟩ := h
      cases e
  | k + 1, f, d, fa, fdat, hf, hl => by
    have hok := t.ok _ (mem_lookup hf)
    unfold okDef at hok
    simp only [Bool.and_eq_true] at hok
    obtain ⟨⟨⟨hsc, hms⟩, hnp⟩, hns⟩ := hok
    have S := okScope_ok hsc
    have hnp := of_decide_eq_true hnp
    have hns := of_decide_eq_true hns
    refine hl.2.1.ok S (fun vs H Q E h => ?_) (fun cdv A outer s H vs Q E hr h => ?_)
    · obtain ⟨G, ds, _, hlen, _, r, _⟩ := h
      rw [← r.length]
      exact hlen
    · obtain ⟨G, ds, rfl, hlen, wf, r, hp⟩ := h
      have okS : OkS (callK (FTof defs) M k) (Tof xs gs) d.N (defScope d.st) (cxOf CX0 P w K mg base d.N d.x (defScope d.st) fa cdv A outer s G.H E).nox :=
        { hN := rfl, hsc := rfl, nd := S.nd, calm := rfl, hu := hr.units, bl := t.bl
          call := fun g x hg => by
            have hg : xs.lookup g = some x := hg
            rw [t.eq, lookup_map (fun d : Def => d.y)] at hg
            cases e : defs.lookup g with
            | none =>
              rw [e] at hg
              cases hg
            | some dg =>
              rw [e] at hg
              cases hg
              obtain ⟨ga, gdat, lg⟩ := t.at_ _ (mem_lookup e)
              refine ⟨ga, gdat, dg.ps, k, lg.1, lg.2.1.kp, .all lg.2.2, hr, fnOk M t k g dg ga gdat e lg, fun ds S r hc => ?_⟩
              cases k with
              | zero => cases hc
              | succ k =>
                have hc' : runF (callK (FTof defs) M k) M dg.fd ds S = some r := by
                  have z : callK (FTof defs) M (k + 1) g ds S = runF (callK (FTof defs) M k) M dg.fd ds S := callK_at (by unfold FTof; rw [e]; rfl)
                  rw [← z]
                  exact hc
                unfold runF at hc'
                have og := t.ok _ (mem_lookup e)
                unfold okDef at og
                simp only [Bool.and_eq_true] at og
                have hg := of_decide_eq_true og.1.2
                split at hc'
                · rename_i h
                  rw [h, hg]
                · cases hc'
          gl := fun x d h => t.gl _ (mem_lookup h)
          kind := S.kind
          fnL := fun x hx => ⟨hx, .inl rfl⟩
          po := PassesOwn.never }
      obtain ⟨tt, pss, run⟩ := mSs_ok (M := M) okS d.fd.body (defBody d.st) hms
      refine ⟨tt, pss, run (ds.map some ++ List.replicate (d.N.length - ds.length) none) G _ _ wf ?_ ?_⟩
      · have := REnv.start r (d.N.length - ds.length)
        unfold L2.start
        rw [← r.length]
        exact this
      · obtain ⟨rd, S2, he, q⟩ := hp
        have he' : runF (callK (FTof defs) M k) M d.fd ds G.S = some (rd, S2) := by
          have z : callK (FTof defs) M (k + 1) f ds G.S = runF (callK (FTof defs) M k) M d.fd ds G.S := callK_at (by unfold FTof; rw [hf]; rfl)
          rw [← z]
          exact he
        unfold runF at he'
        rw [if_pos (by rw [hlen, hnp]), hns, hnp, ← hlen] at he'
        split at he'
        · rename_i dd ρ S1 e1
          refine ⟨_, _, _, e1, fun G' σ hS st w' en v rv => ?_⟩
          subst hS
          exact exit_ok wf st w' rv he' q
        · rename_i ρ S1 e1
          refine ⟨_, _, _, e1, fun G' σ hS st w' en => ?_⟩
          subst hS
          exact exit_ok wf st w' .non he' q
        · cases he'
end
/-! ### the law -/
/-- the script, at the law's call -/
def gh0 (H : Hp) : Gh := ⟨H, [], fun _ => 0, fun _ => False⟩
theorem gh0_wf {K : PySem.W.Frag} {H : Hp} : Wf K (gh0 H) :=
  by
  constructor
  · intro i ds h
    cases h
  · intro i ds h
    cases h
  · intro i j ds es h
    cases h
  · intro i ds h
    cases h
  · intro a h
    cases h
  · intro i h
    exact absurd h (Nat.not_lt_zero i)
theorem law_sp {K : PySem.W.Frag} {c : Fns} {f : Nat} {H : Hp} {a : Addr} {ns : List Int} (hO : Only H) (hS : SqL K H a (ns.map V.int)) (h : c f [.scr ns] [] = some (.bl true, [])) : spOf K c f 1 [.ref a] H (fun v _ => v = .bl true) fun _ _ _ => False := by
  refine ⟨gh0 H, [.scr ns], rfl, rfl, gh0_wf, .cons (.scr ?_) .nil, _, _, h, fun G' v F hS' st hrs wf r nd fr => ?_⟩
  · rcases hS with (hS | ⟨o, hS⟩) | hS
    · rcases hO a with z | ⟨o, xs, z⟩
      · rw [hS] at z; cases z
      · rw [hS] at z; cases z
    · exact .inl ⟨o, hS⟩
    · exact .inr hS
  · cases r with
    | old r =>
      cases r
      rfl
theorem sw_walk {l : PySem.W.OpenLaw} {n k M f : Nat} {q : Program} {loose : List Str} {XP : (Str → Option Value) → Heap → Prop} {YP : World → Heap → Prop} {d : DefRec} {K : Params → PySem.W.Frag} {xs : List (Nat × Str)} {gs : List (Str × D)} {defs : Defs} {df : Def}
    (hn : l.most = some n) (hn2 : n ≤ sizeLine) (hdf : d.params.defaults = []) (hr : Room k callerA) (hY : ∀ (w : World) (h : Heap), YP w h → (K w.params).In h)
    (hf : defs.lookup f = some df) (hx : df.y = d.name) (hp : df.ps = [("script" : Str)])
    (F : ∀ (w : World) (mg : Str → Option Value) (h : Heap), (K w.params).In h → h.Ns mainGlobals mg → Tops (K w.params) mg xs gs defs)
    (law : ∀ ns : List Int, ns.length ≤ n → callK (FTof defs) M k f [.scr ns] [] = some (.bl true, [])) :
    PySem.W.WalkO q loose XP YP l.row.toRowW d [] (fun f vs => PySem.call f vs) := by
  refine L2.walk_of (n := n) (k := k) (x := "script") (CX := fun _ => CX0) (sp := fun w => spOf (K w.params) (callK (FTof defs) M k) f 1) hn hn2 hdf hr hY (fun w mg fa h X G hfa => ?_)
    (fun w H a ns hl hO hS => law_sp hO hS (law ns hl)) fun _ _ _ _ _ z => z
  have t := F w mg h X G
  obtain ⟨fa', fdat, lg⟩ := t.at_ _ (mem_lookup hf)
  have e : fa' = fa := by
    have := lg.1
    rw [hx, hfa] at this
    cases this
    rfl
  subst e
  refine ⟨fdat, fun s u => ?_, fun base _ _ => ?_⟩
  · have b := lg.2.2 [u] (by rw [hp]; rfl)
    rw [hp] at b
    exact .of_eq b
  · have := fnOk (P := l.prog) (w := w) (base := base) M t k f df fa' fdat hf lg
    rw [hp] at this
    exact this
end Sw

set_option Elab.async false
set_option linter.all false
set_option maxRecDepth 100000
set_option maxHeartbeats 4000000
namespace Sw
open PySem PySem.Spec PyProof.Rows L2
section
variable {K : PySem.W.Frag} {h : Heap} {mg : Str → Option Value}
theorem laid_mk {d : Def} {f : Addr} {oc : Value} {od an : Option Addr} {osl : Array (Option Value)} {kV doc pm cdv ct : Value} (X : K.In h) (G : h.Ns mainGlobals mg)
    (a : PySem.W.nsIn K mainGlobals d.y = some (some (.ref f)))
    (l : K.lookup f = some ⟨oc, od, .func (PySem.W.fnOf d.x d.x (defArgs d.st) (defBody d.st) (defScope d.st) .none kV doc pm an cdv ct), osl⟩)
    (c : PySem.W.codeIn K cdv d.x = true) (k : PySem.W.keepIn K (.ref f) = true)
    (b : ∀ (kV doc pm : Value) (an : Option Addr) (cdv ct : Value) (us : List Value), us.length = d.ps.length → bindArgs (PySem.W.fnOf d.x d.x (defArgs d.st) (defBody d.st) (defScope d.st) .none kV doc pm an cdv ct) ⟨us, []⟩ = pure (d.ps.zip us)) :
    ∃ fa fdat, Laid K mg d fa fdat := ⟨f, _, PySem.W.mg_of X G a, fun_mk l c k, b kV doc pm an cdv ct⟩
theorem all_nil {α : Type} {p : α → Prop} : ∀ d ∈ ([] : List α), p d := fun _ h => nomatch h
theorem all_cons {α : Type} {p : α → Prop} {d : α} {ds : List α} (h : p d) (t : ∀ d ∈ ds, p d) : ∀ x ∈ d :: ds, p x := fun x hx => by
  rcases List.mem_cons.mp hx with e | e
  · rw [e]; exact h
  · exact t x e
theorem bl_mk (h0 : mg "len" = none) (h1 : mg "abs" = none) (h2 : mg "int" = none) (h3 : mg "max" = none) (h4 : mg "min" = none) (h5 : mg "list" = none) (h6 : mg "tuple" = none) (h7 : mg "sum" = none) (h8 : mg "any" = none) (h9 : mg "all" = none)
    (h10 : mg "isinstance" = none) (h11 : mg "range" = none) (h12 : mg "enumerate" = none) (h13 : mg "zip" = none) (h14 : mg "reversed" = none) (h15 : mg "bool" = none) (h16 : mg "str" = none) : ∀ x ∈ biNames, mg x = none := fun x hx => by
  simp only [biNames, List.mem_cons, List.not_mem_nil, or_false] at hx
  rcases hx with rfl | rfl | rfl | rfl | rfl | rfl | rfl | rfl | rfl | rfl | rfl | rfl | rfl | rfl | rfl | rfl | rfl <;> assumption
end
end Sw

set_option Elab.async false
set_option linter.all false
set_option maxRecDepth 100000
set_option maxHeartbeats 4000000
namespace Sw
open PySem PySem.Spec PyProof.Rows L2
/-- trimmed: 0 numbers, 1 last -/
def t0_1 : E :=
 (.band (.cons (.cmp .gt (.var 1) (.cI 0)) (.cons (.cmp .eq (.idx (.var 0) (.bin false .sub (.var 1) (.cI 1))) (.cI 0)) .nil)))
def w0_2 : Sts :=
 (.cons (.aug 1 .sub (.cI 1))
 .nil)
def b0_trimmed : Sts :=
 (.cons (.set 1 (.bi .len false (.cons (.var 0) .nil)))
 (.cons (.whileS t0_1 w0_2)
 (.cons (.ret (.slice true (.var 0) .nop (.var 1)))
 .nil)))
abbrev f0 : FD := ⟨1, 2, b0_trimmed⟩
/-- coefficient: 0 f, 1 k -/
def b1_coefficient : Sts :=
 (.cons (.ret (.ifE (.cmp .lt (.var 1) (.bi .len false (.cons (.var 0) .nil))) (.idx (.var 0) (.var 1)) (.cI 0)))
 .nil)
abbrev f1 : FD := ⟨2, 2, b1_coefficient⟩
/-- poly_sum: 0 p, 1 f, 2 g, 3 k -/
def e2_1 : E :=
 (.bin false .mod (.bin false .add (.call 1 false (.cons (.var 1) (.cons (.var 3) .nil))) (.call 1 false (.cons (.var 2) (.cons (.var 3) .nil)))) (.var 0))
def b2_poly_sum : Sts :=
 (.cons (.ret (.call 0 true (.cons (.comp false e2_1 (.name 3) (.rng (.cons (.bi .max2 false (.cons (.bi .len false (.cons (.var 1) .nil)) (.cons (.bi .len false (.cons (.var 2) .nil)) .nil))) .nil)) .nop [3]) .nil)))
 .nil)
abbrev f2 : FD := ⟨3, 4, b2_poly_sum⟩
/-- poly_less: 0 p, 1 f, 2 g, 3 k -/
def e3_1 : E :=
 (.bin false .mod (.bin false .sub (.call 1 false (.cons (.var 1) (.cons (.var 3) .nil))) (.call 1 false (.cons (.var 2) (.cons (.var 3) .nil)))) (.var 0))
def b3_poly_less : Sts :=
 (.cons (.ret (.call 0 true (.cons (.comp false e3_1 (.name 3) (.rng (.cons (.bi .max2 false (.cons (.bi .len false (.cons (.var 1) .nil)) (.cons (.bi .len false (.cons (.var 2) .nil)) .nil))) .nil)) .nop [3]) .nil)))
 .nil)
abbrev f3 : FD := ⟨3, 4, b3_poly_less⟩
/-- poly_product: 0 p, 1 f, 2 g, 3 found, 4 k, 5 one, 6 j, 7 other -/
def w4_1 : Sts :=
 (.cons (.setIx (.var 3) (.bin false .add (.var 4) (.var 6)) (.bin false .mod (.bin false .add (.idx (.var 3) (.bin false .add (.var 4) (.var 6))) (.bin false .mul (.var 5) (.var 7))) (.var 0)))
 .nil)
def w4_2 : Sts :=
 (.cons (.forS (.tup (.cons (.name 6) (.cons (.name 7) .nil))) (.enum (.var 2)) w4_1)
 .nil)
def b4_poly_product : Sts :=
 (.cons (.ifS (.bor (.cons (.bnot (.var 1)) (.cons (.bnot (.var 2)) .nil)))
  (.cons (.ret (.lst true .nil))
  .nil)
  .nil)
 (.cons (.set 3 (.bin true .mul (.lst false (.cons (.cI 0) .nil)) (.bin false .sub (.bin false .add (.bi .len false (.cons (.var 1) .nil)) (.bi .len false (.cons (.var 2) .nil))) (.cI 1))))
 (.cons (.forS (.tup (.cons (.name 4) (.cons (.name 5) .nil))) (.enum (.var 1)) w4_2)
 (.cons (.ret (.call 0 true (.cons (.var 3) .nil)))
 .nil))))
abbrev f4 : FD := ⟨3, 8, b4_poly_product⟩
/-- number_over: 0 p, 1 a, 2 b, 3 c -/
def e5_1 : E :=
 (.var 3)
def q5_2 : E :=
 (.cmp .eq (.bin false .mod (.bin false .mul (.var 2) (.var 3)) (.var 0)) (.bin false .mod (.var 1) (.var 0)))
def b5_number_over : Sts :=
 (.cons (.ret (.idx (.comp false e5_1 (.name 3) (.rng (.cons (.var 0) .nil)) q5_2 [3]) (.cI 0)))
 .nil)
abbrev f5 : FD := ⟨3, 4, b5_number_over⟩
/-- poly_parts: 0 p, 1 f, 2 g, 3 left, 4 found, 5 place, 6 factor, 7 k, 8 own -/
def w6_1 : Sts :=
 (.cons (.setIx (.var 3) (.bin false .add (.var 5) (.var 7)) (.bin false .mod (.bin false .sub (.idx (.var 3) (.bin false .add (.var 5) (.var 7))) (.bin false .mul (.var 6) (.var 8))) (.var 0)))
 .nil)
def w6_2 : Sts :=
 (.cons (.set 6 (.call 5 false (.cons (.var 0) (.cons (.idx (.var 3) (.bin false .sub (.bin false .add (.var 5) (.bi .len false (.cons (.var 2) .nil))) (.cI 1))) (.cons (.idx (.var 2) (.neg (.cI 1))) .nil)))))
 (.cons (.setIx (.var 4) (.var 5) (.var 6))
 (.cons (.forS (.tup (.cons (.name 7) (.cons (.name 8) .nil))) (.enum (.var 2)) w6_1)
 .nil)))
def b6_poly_parts : Sts :=
 (.cons (.set 3 (.bi .list true (.cons (.var 1) .nil)))
 (.cons (.set 4 (.bin true .mul (.lst false (.cons (.cI 0) .nil)) (.bi .max2 false (.cons (.cI 0) (.cons (.bin false .add (.bin false .sub (.bi .len false (.cons (.var 1) .nil)) (.bi .len false (.cons (.var 2) .nil))) (.cI 1)) .nil)))))
 (.cons (.forS (.name 5) (.rng (.cons (.bin false .sub (.bi .len false (.cons (.var 1) .nil)) (.bi .len false (.cons (.var 2) .nil))) (.cons (.neg (.cI 1)) (.cons (.neg (.cI 1)) .nil)))) w6_2)
 (.cons (.ret (.tup (.cons (.call 0 true (.cons (.var 4) .nil)) (.cons (.call 0 true (.cons (.var 3) .nil)) .nil))))
 .nil))))
abbrev f6 : FD := ⟨3, 9, b6_poly_parts⟩
/-- poly_by: 0 p, 1 f, 2 a, 3 own -/
def e7_1 : E :=
 (.bin false .mod (.bin false .mul (.var 3) (.var 2)) (.var 0))
def b7_poly_by : Sts :=
 (.cons (.ret (.call 0 true (.cons (.comp false e7_1 (.name 3) (.list (.var 1)) .nop [3]) .nil)))
 .nil)
abbrev f7 : FD := ⟨3, 4, b7_poly_by⟩
/-- poly_common: 0 p, 1 f, 2 g -/
def t8_1 : E :=
 (.var 2)
def w8_2 : Sts :=
 (.cons (.par 1 2 (.var 2) (.idx (.call 6 false (.cons (.var 0) (.cons (.var 1) (.cons (.var 2) .nil)))) (.cI 1)))
 .nil)
def b8_poly_common : Sts :=
 (.cons (.whileS t8_1 w8_2)
 (.cons (.ret (.ifE (.var 1) (.call 7 true (.cons (.var 0) (.cons (.var 1) (.cons (.call 5 false (.cons (.var 0) (.cons (.cI 1) (.cons (.idx (.var 1) (.neg (.cI 1))) .nil)))) .nil)))) (.lst true .nil)))
 .nil))
abbrev f8 : FD := ⟨3, 3, b8_poly_common⟩
/-- poly_at: 0 p, 1 f, 2 a, 3 value, 4 own -/
def w9_1 : Sts :=
 (.cons (.set 3 (.bin false .mod (.bin false .add (.bin false .mul (.var 3) (.var 2)) (.var 4)) (.var 0)))
 .nil)
def b9_poly_at : Sts :=
 (.cons (.set 3 (.cI 0))
 (.cons (.forS (.name 4) (.rev (.var 1)) w9_1)
 (.cons (.ret (.var 3))
 .nil)))
abbrev f9 : FD := ⟨3, 5, b9_poly_at⟩
/-- _law_feed: 0 script -/
def b10_law_feed : Sts :=
 (.cons (.ret (.lst true (.cons (.bi .list true (.cons (.var 0) .nil)) (.cons (.cI 0) (.cons (.cI 0) (.cons (.cI 1) .nil))))))
 .nil)
abbrev f10 : FD := ⟨1, 1, b10_law_feed⟩
/-- _law_draw: 0 feed, 1 many, 2 cell, 3 told, 4 mixed -/
def b11_law_draw : Sts :=
 (.cons (.ifS (.band (.cons (.cmp .eq (.idx (.var 0) (.cI 2)) (.cI 0)) (.cons (.cmp .lt (.idx (.var 0) (.cI 1)) (.bi .len false (.cons (.idx (.var 0) (.cI 0)) .nil))) .nil)))
  (.cons (.set 2 (.bi .abs false (.cons (.bi .int false (.cons (.idx (.idx (.var 0) (.cI 0)) (.idx (.var 0) (.cI 1))) .nil)) .nil)))
  (.cons (.augIx (.var 0) (.cI 1) .add (.cI 1))
  (.cons (.ifS (.cmp .ge (.var 2) (.bin false .pow (.cI 10) (.cI 18)))
   (.cons (.setIx (.var 0) (.cI 2) (.var 2))
   .nil)
   (.cons (.setIx (.var 0) (.cI 3) (.bin false .mod (.bi .int false (.cons (.bin false .add (.bin false .add (.bin false .mul (.idx (.var 0) (.cI 3)) (.cI 48271)) (.bin false .mul (.var 2) (.cI 69621))) (.idx (.var 0) (.cI 1))) .nil)) (.cI 2147483647)))
   .nil))
  .nil)))
  .nil)
 (.cons (.ifS (.cmp .gt (.idx (.var 0) (.cI 2)) (.cI 0))
  (.cons (.set 3 (.bin false .mod (.bi .int false (.cons (.idx (.var 0) (.cI 2)) .nil)) (.var 1)))
  (.cons (.setIx (.var 0) (.cI 2) (.bin false .fdiv (.idx (.var 0) (.cI 2)) (.var 1)))
  (.cons (.ret (.var 3))
  .nil)))
  .nil)
 (.cons (.setIx (.var 0) (.cI 3) (.bin false .mod (.bi .int false (.cons (.bin false .add (.bin false .mul (.idx (.var 0) (.cI 3)) (.cI 16807)) (.cI 12345)) .nil)) (.cI 2147483647)))
 (.cons (.set 4 (.bin false .mod (.bi .int false (.cons (.bin false .add (.bin false .mul (.idx (.var 0) (.cI 3)) (.idx (.var 0) (.cI 3))) (.idx (.var 0) (.cI 3))) .nil)) (.cI 2147483629)))
 (.cons (.ret (.bin false .mod (.bin false .fdiv (.var 4) (.cI 11)) (.var 1)))
 .nil)))))
abbrev f11 : FD := ⟨2, 5, b11_law_draw⟩
/-- _law_is_whole: 0 x -/
def b12_law_is_whole : Sts :=
 (.cons (.ret (.band (.cons (.isi .isInt (.var 0)) (.cons (.bnot (.isi .isBool (.var 0))) .nil))))
 .nil)
abbrev f12 : FD := ⟨1, 1, b12_law_is_whole⟩
/-- _law_field: 0 feed -/
def b13_law_field : Sts :=
 (.cons (.ret (.idx (.lst false (.cons (.cI 2) (.cons (.cI 3) (.cons (.cI 5) (.cons (.cI 7) .nil))))) (.call 11 false (.cons (.var 0) (.cons (.cI 4) .nil)))))
 .nil)
abbrev f13 : FD := ⟨1, 1, b13_law_field⟩
/-- _law_trim: 0 f, 1 last, 2 k -/
def w14_1 : Sts :=
 (.cons (.ifS (.cmp .ne (.idx (.var 0) (.var 2)) (.cI 0))
  (.cons (.set 1 (.bin false .add (.var 2) (.cI 1)))
  .nil)
  .nil)
 .nil)
def b14_law_trim : Sts :=
 (.cons (.set 1 (.cI 0))
 (.cons (.forS (.name 2) (.rng (.cons (.bi .len false (.cons (.var 0) .nil)) .nil)) w14_1)
 (.cons (.ret (.slice true (.var 0) .nop (.var 1)))
 .nil)))
abbrev f14 : FD := ⟨1, 3, b14_law_trim⟩
/-- _law_inverse: 0 p, 1 a, 2 b -/
def e15_1 : E :=
 (.var 2)
def q15_2 : E :=
 (.cmp .eq (.bin false .mod (.bi .int false (.cons (.bin false .mul (.var 1) (.var 2)) .nil)) (.var 0)) (.cI 1))
def b15_law_inverse : Sts :=
 (.cons (.ret (.idx (.comp false e15_1 (.name 2) (.rng (.cons (.var 0) .nil)) q15_2 [2]) (.cI 0)))
 .nil)
abbrev f15 : FD := ⟨2, 3, b15_law_inverse⟩
/-- _law_plus: 0 p, 1 f, 2 g, 3 factor, 4 many, 5 one, 6 other, 7 k -/
def e16_1 : E :=
 (.bin false .mod (.bi .int false (.cons (.bin false .add (.idx (.var 5) (.var 7)) (.bin false .mul (.var 3) (.idx (.var 6) (.var 7)))) .nil)) (.var 0))
def b16_law_plus : Sts :=
 (.cons (.set 4 (.bi .max2 false (.cons (.bi .len false (.cons (.var 1) .nil)) (.cons (.bi .len false (.cons (.var 2) .nil)) .nil))))
 (.cons (.set 5 (.bin false .add (.var 1) (.bin false .mul (.lst false (.cons (.cI 0) .nil)) (.bin false .sub (.var 4) (.bi .len false (.cons (.var 1) .nil))))))
 (.cons (.set 6 (.bin false .add (.var 2) (.bin false .mul (.lst false (.cons (.cI 0) .nil)) (.bin false .sub (.var 4) (.bi .len false (.cons (.var 2) .nil))))))
 (.cons (.ret (.call 14 true (.cons (.comp false e16_1 (.name 7) (.rng (.cons (.var 4) .nil)) .nop [7]) .nil)))
 .nil))))
abbrev f16 : FD := ⟨4, 8, b16_law_plus⟩
/-- _law_by: 0 p, 1 f, 2 g, 3 found, 4 k, 5 j -/
def e17_1 : E :=
 (.bin false .mul (.idx (.var 1) (.var 5)) (.idx (.var 2) (.bin false .sub (.var 4) (.var 5))))
def q17_2 : E :=
 (.chain .le .lt (.cI 0) (.bin false .sub (.var 4) (.var 5)) (.bi .len false (.cons (.var 2) .nil)))
def w17_3 : Sts :=
 (.cons (.expr (.app (.var 3) (.bin false .mod (.bi .int false (.cons (.bi .sum false (.cons (.comp false e17_1 (.name 5) (.rng (.cons (.bi .len false (.cons (.var 1) .nil)) .nil)) q17_2 [5]) .nil)) .nil)) (.var 0))))
 .nil)
def b17_law_by : Sts :=
 (.cons (.set 3 (.lst true .nil))
 (.cons (.forS (.name 4) (.rng (.cons (.bin false .add (.bi .len false (.cons (.var 1) .nil)) (.bi .len false (.cons (.var 2) .nil))) .nil)) w17_3)
 (.cons (.ret (.call 14 true (.cons (.var 3) .nil)))
 .nil)))
abbrev f17 : FD := ⟨3, 6, b17_law_by⟩
/-- _law_parted: 0 p, 1 f, 2 g, 3 found, 4 left, 5 step, 6 place, 7 factor -/
def w18_1 : Sts :=
 (.cons (.ifS (.band (.cons (.cmp .ge (.bi .len false (.cons (.var 4) .nil)) (.bi .len false (.cons (.var 2) .nil))) (.cons (.cmp .gt (.bi .len false (.cons (.var 4) .nil)) (.cI 0)) .nil)))
  (.cons (.set 6 (.bin false .sub (.bi .len false (.cons (.var 4) .nil)) (.bi .len false (.cons (.var 2) .nil))))
  (.cons (.set 7 (.bin false .mod (.bi .int false (.cons (.bin false .mul (.idx (.var 4) (.neg (.cI 1))) (.call 15 false (.cons (.var 0) (.cons (.idx (.var 2) (.neg (.cI 1))) .nil)))) .nil)) (.var 0)))
  (.cons (.setIx (.var 3) (.var 6) (.var 7))
  (.cons (.set 4 (.call 16 false (.cons (.var 0) (.cons (.var 4) (.cons (.bin false .add (.bin false .mul (.lst false (.cons (.cI 0) .nil)) (.var 6)) (.var 2)) (.cons (.bin false .sub (.cI 0) (.var 7)) .nil))))))
  .nil))))
  .nil)
 .nil)
def b18_law_parted : Sts :=
 (.cons (.set 3 (.bin true .mul (.lst false (.cons (.cI 0) .nil)) (.bi .len false (.cons (.var 1) .nil))))
 (.cons (.set 4 (.bi .list false (.cons (.var 1) .nil)))
 (.cons (.forS (.name 5) (.rng (.cons (.bi .len false (.cons (.var 1) .nil)) .nil)) w18_1)
 (.cons (.ret (.tup (.cons (.call 14 true (.cons (.var 3) .nil)) (.cons (.var 4) .nil))))
 .nil))))
abbrev f18 : FD := ⟨3, 8, b18_law_parted⟩
/-- _law_common: 0 p, 1 f, 2 g, 3 one, 4 other, 5 step, 6 rest, 7 x -/
def w19_1 : Sts :=
 (.cons (.ifS (.cmp .gt (.bi .len false (.cons (.var 4) .nil)) (.cI 0))
  (.cons (.set 6 (.idx (.call 18 false (.cons (.var 0) (.cons (.var 3) (.cons (.var 4) .nil)))) (.cI 1)))
  (.cons (.set 3 (.var 4))
  (.cons (.set 4 (.var 6))
  .nil)))
  .nil)
 .nil)
def e19_2 : E :=
 (.bin false .mod (.bi .int false (.cons (.bin false .mul (.var 7) (.call 15 false (.cons (.var 0) (.cons (.idx (.var 3) (.neg (.cI 1))) .nil)))) .nil)) (.var 0))
def b19_law_common : Sts :=
 (.cons (.set 3 (.var 1))
 (.cons (.set 4 (.var 2))
 (.cons (.forS (.name 5) (.rng (.cons (.cI 200) .nil)) w19_1)
 (.cons (.ifS (.cmp .eq (.bi .len false (.cons (.var 3) .nil)) (.cI 0))
  (.cons (.ret (.lst true .nil))
  .nil)
  .nil)
 (.cons (.ret (.comp true e19_2 (.name 7) (.list (.var 3)) .nop [7]))
 .nil)))))
abbrev f19 : FD := ⟨3, 8, b19_law_common⟩
/-- _law_poly: 0 feed, 1 p, 2 most, 3 k -/
def e20_1 : E :=
 (.call 11 false (.cons (.var 0) (.cons (.var 1) .nil)))
def b20_law_poly : Sts :=
 (.cons (.ret (.call 14 true (.cons (.comp false e20_1 (.name 3) (.rng (.cons (.call 11 false (.cons (.var 0) (.cons (.bin false .add (.var 2) (.cI 1)) .nil))) .nil)) .nop [3]) .nil)))
 .nil)
abbrev f20 : FD := ⟨3, 4, b20_law_poly⟩
/-- _law_is_poly: 0 p, 1 f, 2 x -/
def e21_1 : E :=
 (.var 2)
def q21_2 : E :=
 (.bor (.cons (.bnot (.call 12 false (.cons (.var 2) .nil))) (.cons (.bnot (.chain .le .lt (.cI 0) (.var 2) (.var 0))) .nil)))
def b21_law_is_poly : Sts :=
 (.cons (.ifS (.bor (.cons (.bnot (.isi .isList (.var 1))) (.cons (.cmp .gt (.bi .len false (.cons (.comp false e21_1 (.name 2) (.list (.var 1)) q21_2 [2]) .nil)) (.cI 0)) .nil)))
  (.cons (.ret (.cB false))
  .nil)
  .nil)
 (.cons (.ret (.bor (.cons (.cmp .eq (.bi .len false (.cons (.var 1) .nil)) (.cI 0)) (.cons (.cmp .ne (.idx (.var 1) (.neg (.cI 1))) (.cI 0)) .nil))))
 .nil))
abbrev f21 : FD := ⟨2, 3, b21_law_is_poly⟩
/-- _law_value: 0 p, 1 f, 2 a, 3 total, 4 power, 5 x -/
def w22_1 : Sts :=
 (.cons (.aug 3 .add (.bin false .mul (.var 5) (.var 4)))
 (.cons (.set 4 (.bin false .mod (.bi .int false (.cons (.bin false .mul (.var 4) (.var 2)) .nil)) (.var 0)))
 .nil))
def b22_law_value : Sts :=
 (.cons (.set 3 (.cI 0))
 (.cons (.set 4 (.cI 1))
 (.cons (.forS (.name 5) (.list (.var 1)) w22_1)
 (.cons (.ret (.bin false .mod (.bi .int false (.cons (.var 3) .nil)) (.var 0)))
 .nil))))
abbrev f22 : FD := ⟨3, 6, b22_law_value⟩
/-- _law_right: 0 feed, 1 p, 2 f, 3 g, 4 h, 5 handed, 6 told, 7 due, 8 a, 9 values, 10 parts, 11 both, 12 own, 13 x -/
def e23_1 : E :=
 (.var 12)
def q23_2 : E :=
 (.bnot (.call 21 false (.cons (.var 1) (.cons (.var 12) .nil))))
def e23_3 : E :=
 (.call 9 false (.cons (.var 1) (.cons (.var 12) (.cons (.var 8) .nil))))
def e23_4 : E :=
 (.var 13)
def q23_5 : E :=
 (.bnot (.call 12 false (.cons (.var 13) .nil)))
def b23_law_right : Sts :=
 (.cons (.set 5 (.lst false (.cons (.bi .list false (.cons (.var 2) .nil)) (.cons (.bi .list false (.cons (.var 3) .nil)) (.cons (.bi .list false (.cons (.var 4) .nil)) .nil)))))
 (.cons (.set 6 (.lst false (.cons (.call 2 true (.cons (.var 1) (.cons (.idx (.var 5) (.cI 0)) (.cons (.idx (.var 5) (.cI 1)) .nil)))) (.cons (.call 3 true (.cons (.var 1) (.cons (.idx (.var 5) (.cI 0)) (.cons (.idx (.var 5) (.cI 1)) .nil)))) (.cons (.call 4 true (.cons (.var 1) (.cons (.idx (.var 5) (.cI 0)) (.cons (.idx (.var 5) (.cI 1)) .nil)))) (.cons (.call 8 true (.cons (.var 1) (.cons (.idx (.var 5) (.cI 0)) (.cons (.idx (.var 5) (.cI 1)) .nil)))) .nil))))))
 (.cons (.set 7 (.lst false (.cons (.call 16 false (.cons (.var 1) (.cons (.var 2) (.cons (.var 3) (.cons (.cI 1) .nil))))) (.cons (.call 16 false (.cons (.var 1) (.cons (.var 2) (.cons (.var 3) (.cons (.bin false .sub (.cI 0) (.cI 1)) .nil))))) (.cons (.call 17 false (.cons (.var 1) (.cons (.var 2) (.cons (.var 3) .nil)))) (.cons (.call 19 false (.cons (.var 1) (.cons (.var 2) (.cons (.var 3) .nil)))) .nil))))))
 (.cons (.ifS (.bor (.cons (.cmp .ne (.var 6) (.var 7)) (.cons (.cmp .ne (.var 5) (.lst false (.cons (.var 2) (.cons (.var 3) (.cons (.var 4) .nil))))) (.cons (.cmp .gt (.bi .len false (.cons (.comp false e23_1 (.name 12) (.list (.var 6)) q23_2 [12]) .nil)) (.cI 0)) .nil))))
  (.cons (.ret (.cB false))
  .nil)
  .nil)
 (.cons (.expr (.app (.idx (.var 6) (.cI 0)) (.cI 1)))
 (.cons (.ifS (.cmp .ne (.call 2 false (.cons (.var 1) (.cons (.var 2) (.cons (.var 3) .nil)))) (.idx (.var 7) (.cI 0)))
  (.cons (.ret (.cB false))
  .nil)
  .nil)
 (.cons (.set 8 (.call 11 false (.cons (.var 0) (.cons (.var 1) .nil))))
 (.cons (.set 9 (.bin false .add (.comp false e23_3 (.name 12) (.list (.bin false .add (.lst false (.cons (.var 2) (.cons (.var 3) .nil))) (.slice false (.var 7) .nop (.cI 2)))) .nop [12]) (.lst false (.cons (.call 22 false (.cons (.var 1) (.cons (.idx (.var 7) (.cI 2)) (.cons (.var 8) .nil)))) .nil))))
 (.cons (.ifS (.band (.cons (.cmp .lt (.bi .len false (.cons (.idx (.var 7) (.cI 2)) .nil)) (.cI 42)) (.cons (.cmp .ne (.call 9 false (.cons (.var 1) (.cons (.idx (.var 7) (.cI 2)) (.cons (.var 8) .nil)))) (.idx (.var 9) (.cI 4))) .nil)))
  (.cons (.ret (.cB false))
  .nil)
  .nil)
 (.cons (.ifS (.bor (.cons (.cmp .ne (.slice false (.var 9) .nop (.cI 2)) (.lst false (.cons (.call 22 false (.cons (.var 1) (.cons (.var 2) (.cons (.var 8) .nil)))) (.cons (.call 22 false (.cons (.var 1) (.cons (.var 3) (.cons (.var 8) .nil)))) .nil)))) (.cons (.cmp .gt (.bi .len false (.cons (.comp false e23_4 (.name 13) (.list (.var 9)) q23_5 [13]) .nil)) (.cI 0)) .nil)))
  (.cons (.ret (.cB false))
  .nil)
  .nil)
 (.cons (.ifS (.cmp .ne (.lst false (.cons (.bin false .mod (.bi .int false (.cons (.bin false .sub (.bin false .sub (.idx (.var 9) (.cI 2)) (.idx (.var 9) (.cI 0))) (.idx (.var 9) (.cI 1))) .nil)) (.var 1)) (.cons (.bin false .mod (.bi .int false (.cons (.bin false .add (.bin false .sub (.idx (.var 9) (.cI 3)) (.idx (.var 9) (.cI 0))) (.idx (.var 9) (.cI 1))) .nil)) (.var 1)) (.cons (.bin false .mod (.bi .int false (.cons (.bin false .sub (.idx (.var 9) (.cI 4)) (.bin false .mul (.idx (.var 9) (.cI 0)) (.idx (.var 9) (.cI 1)))) .nil)) (.var 1)) .nil)))) (.lst false (.cons (.cI 0) (.cons (.cI 0) (.cons (.cI 0) .nil)))))
  (.cons (.ret (.cB false))
  .nil)
  .nil)
 (.cons (.ifS (.cmp .ne (.var 3) (.lst false .nil))
  (.cons (.set 10 (.call 6 false (.cons (.var 1) (.cons (.idx (.var 5) (.cI 0)) (.cons (.idx (.var 5) (.cI 1)) .nil)))))
  (.cons (.ifS (.bor (.cons (.bnot (.isi .isTup (.var 10))) (.cons (.cmp .ne (.var 10) (.call 18 false (.cons (.var 1) (.cons (.var 2) (.cons (.var 3) .nil))))) (.cons (.cmp .ge (.bi .len false (.cons (.idx (.var 10) (.cI 1)) .nil)) (.bi .len false (.cons (.var 3) .nil))) (.cons (.cmp .ne (.var 5) (.lst false (.cons (.var 2) (.cons (.var 3) (.cons (.var 4) .nil))))) .nil)))))
   (.cons (.ret (.cB false))
   .nil)
   .nil)
  (.cons (.ifS (.cmp .ne (.call 16 false (.cons (.var 1) (.cons (.call 17 false (.cons (.var 1) (.cons (.idx (.var 10) (.cI 0)) (.cons (.var 3) .nil)))) (.cons (.idx (.var 10) (.cI 1)) (.cons (.cI 1) .nil))))) (.var 2))
   (.cons (.ret (.cB false))
   .nil)
   .nil)
  (.cons (.ifS (.bor (.cons (.cmp .ne (.call 6 false (.cons (.var 1) (.cons (.idx (.var 7) (.cI 3)) (.cons (.lst false (.cons (.cI 1) .nil)) .nil)))) (.tup (.cons (.idx (.var 7) (.cI 3)) (.cons (.lst false .nil) .nil)))) (.cons (.cmp .ne (.idx (.call 6 false (.cons (.var 1) (.cons (.var 3) (.cons (.idx (.var 7) (.cI 3)) .nil)))) (.cI 1)) (.lst false .nil)) .nil)))
   (.cons (.ret (.cB false))
   .nil)
   .nil)
  .nil))))
  .nil)
 (.cons (.ifS (.cmp .ne (.call 8 false (.cons (.var 1) (.cons (.var 3) (.cons (.var 2) .nil)))) (.idx (.var 7) (.cI 3)))
  (.cons (.ret (.cB false))
  .nil)
  .nil)
 (.cons (.ifS (.cmp .gt (.bin false .add (.bi .max2 false (.cons (.bi .len false (.cons (.var 2) .nil)) (.cons (.bi .len false (.cons (.var 3) .nil)) .nil))) (.bi .len false (.cons (.var 4) .nil))) (.cI 42))
  (.cons (.ret (.cB true))
  .nil)
  .nil)
 (.cons (.set 11 (.call 4 false (.cons (.var 1) (.cons (.var 4) (.cons (.idx (.var 7) (.cI 0)) .nil)))))
 (.cons (.ret (.cmp .eq (.var 11) (.call 2 false (.cons (.var 1) (.cons (.call 4 false (.cons (.var 1) (.cons (.var 4) (.cons (.var 2) .nil)))) (.cons (.call 4 false (.cons (.var 1) (.cons (.var 4) (.cons (.var 3) .nil)))) .nil))))))
 .nil))))))))))))))))
abbrev f23 : FD := ⟨5, 14, b23_law_right⟩
/-- law: 0 script, 1 feed, 2 turn, 3 p, 4 most, 5 f, 6 g, 7 h -/
def w24_1 : Sts :=
 (.cons (.set 3 (.call 13 false (.cons (.var 1) .nil)))
 (.cons (.set 4 (.idx (.lst false (.cons (.cI 3) (.cons (.cI 8) .nil))) (.call 11 false (.cons (.var 1) (.cons (.cI 2) .nil)))))
 (.cons (.ifS (.band (.cons (.cmp .eq (.var 2) (.cI 5)) (.cons (.cmp .eq (.call 11 false (.cons (.var 1) (.cons (.cI 8) .nil))) (.cI 0)) .nil)))
  (.cons (.set 4 (.cI 41))
  .nil)
  .nil)
 (.cons (.set 5 (.call 20 false (.cons (.var 1) (.cons (.var 3) (.cons (.var 4) .nil)))))
 (.cons (.set 6 (.call 20 false (.cons (.var 1) (.cons (.var 3) (.cons (.var 4) .nil)))))
 (.cons (.set 7 (.call 20 false (.cons (.var 1) (.cons (.var 3) (.cons (.cI 4) .nil)))))
 (.cons (.ifS (.band (.cons (.cmp .lt (.var 4) (.cI 41)) (.cons (.cmp .eq (.call 11 false (.cons (.var 1) (.cons (.cI 2) .nil))) (.cI 0)) .nil)))
  (.cons (.set 5 (.call 17 false (.cons (.var 3) (.cons (.var 5) (.cons (.var 7) .nil)))))
  (.cons (.set 6 (.call 17 false (.cons (.var 3) (.cons (.var 6) (.cons (.var 7) .nil)))))
  .nil))
  .nil)
 (.cons (.ifS (.bnot (.call 23 false (.cons (.var 1) (.cons (.var 3) (.cons (.var 5) (.cons (.var 6) (.cons (.var 7) .nil)))))))
  (.cons (.ret (.cB false))
  .nil)
  .nil)
 .nil))))))))
def b24_law : Sts :=
 (.cons (.set 1 (.call 10 true (.cons (.var 0) .nil)))
 (.cons (.forS (.name 2) (.rng (.cons (.cI 6) .nil)) w24_1)
 (.cons (.ifS (.bor (.cons (.cmp .ne (.call 6 false (.cons (.cI 5) (.cons (.lst false (.cons (.cI 1) (.cons (.cI 0) (.cons (.cI 1) .nil)))) (.cons (.lst false (.cons (.cI 2) (.cons (.cI 1) .nil))) .nil)))) (.tup (.cons (.lst false (.cons (.cI 3) (.cons (.cI 1) .nil))) (.cons (.lst false .nil) .nil)))) (.cons (.cmp .ne (.call 8 false (.cons (.cI 2) (.cons (.lst false (.cons (.cI 1) (.cons (.cI 0) (.cons (.cI 1) .nil)))) (.cons (.lst false (.cons (.cI 1) (.cons (.cI 1) .nil))) .nil)))) (.lst false (.cons (.cI 1) (.cons (.cI 1) .nil)))) (.cons (.cmp .ne (.call 8 false (.cons (.cI 3) (.cons (.lst false .nil) (.cons (.lst false .nil) .nil)))) (.lst false .nil)) .nil))))
  (.cons (.ret (.cB false))
  .nil)
  .nil)
 (.cons (.ret (.band (.cons (.cmp .eq (.call 3 false (.cons (.cI 3) (.cons (.lst false .nil) (.cons (.lst false (.cons (.cI 1) (.cons (.cI 2) .nil))) .nil)))) (.lst false (.cons (.cI 2) (.cons (.cI 1) .nil)))) (.cons (.cmp .eq (.call 8 false (.cons (.cI 7) (.cons (.lst false .nil) (.cons (.lst false (.cons (.cI 2) (.cons (.cI 3) .nil))) .nil)))) (.lst false (.cons (.cI 3) (.cons (.cI 1) .nil)))) (.cons (.cmp .eq (.call 9 false (.cons (.cI 7) (.cons (.lst false .nil) (.cons (.cI 3) .nil)))) (.cI 0)) .nil)))))
 .nil))))
abbrev f24 : FD := ⟨1, 8, b24_law⟩
end Sw

set_option Elab.async false
set_option linter.all false
set_option maxRecDepth 100000
set_option maxHeartbeats 4000000
namespace Sw
open PySem PySem.Spec PyProof.Rows L2

/-! ### reading the evaluator, step by step -/
section
variable {c : Fns} {M : Nat} {ρ ρ1 : Env} {S S1 S2 : Store}
/-- integers as data -/
def il (ns : List Int) : List D := ns.map .int
@[simp] theorem il_nil : il [] = [] := rfl
@[simp] theorem il_cons (n : Int) (ns : List Int) : il (n :: ns) = .int n :: il ns := rfl
@[simp] theorem il_length (ns : List Int) : (il ns).length = ns.length := List.length_map ..
theorem il_append (a b : List Int) : il (a ++ b) = il a ++ il b := List.map_append ..
theorem il_inj {a b : List Int} (h : il a = il b) : a = b := by
  induction a generalizing b with
  | nil => cases b with
    | nil => rfl
    | cons _ _ => cases h
  | cons x xs ih => cases b with
    | nil => cases h
    | cons y ys =>
      rw [il_cons, il_cons, List.cons.injEq] at h
      obtain ⟨h1, h2⟩ := h
      cases h1
      rw [ih h2]
theorem il_get (ns : List Int) (i : Nat) : (il ns)[i]? = ns[i]?.map .int := List.getElem?_map ..
theorem il_set (ns : List Int) (i : Nat) (x : Int) : (il ns).set i (.int x) = il (ns.set i x) := (List.map_set ..).symm
theorem il_take (ns : List Int) (i : Nat) : (il ns).take i = il (ns.take i) := (List.map_take ..).symm
theorem il_drop (ns : List Int) (i : Nat) : (il ns).drop i = il (ns.drop i) := (List.map_drop ..).symm
theorem il_rev (ns : List Int) : (il ns).reverse = il ns.reverse := (List.map_reverse ..).symm
theorem il_rep (n : Nat) (x : Int) : List.replicate n (D.int x) = il (List.replicate n x) := (List.map_replicate ..).symm
@[simp] theorem dInts_il (ns : List Int) : dInts (il ns) = some ns := by
  induction ns with
  | nil => rfl
  | cons n r ih => rw [il_cons, dInts, ih]

/-! expressions -/
@[simp] theorem ev_var (i : Nat) : evalE c (.var i) ρ S = match ρ[i]? with
    | some (some d) => some (d, S)
    | _ => none := by
  rw [evalE]
  try rfl
@[simp] theorem ev_cI (i : Int) : evalE c (.cI i) ρ S = some (.int i, S) := by
  rw [evalE]
  try rfl
@[simp] theorem ev_cS (i : Str) : evalE c (.cS i) ρ S = some (.str i, S) := by
  rw [evalE]
  try rfl
@[simp] theorem ev_cB (i : Bool) : evalE c (.cB i) ρ S = some (.bl i, S) := by
  rw [evalE]
  try rfl
@[simp] theorem ev_cN : evalE c .cN ρ S = some (.non, S) := by
  rw [evalE]
  try rfl
@[simp] theorem ev_glob (x : Str) (d : D) : evalE c (.glob x d) ρ S = some (d, S) := by
  rw [evalE]
  try rfl
@[simp] theorem ev_bin (o : Bool) (op : Bop) (a b : E) : evalE c (.bin o op a b) ρ S = match evalE c a ρ S with
    | some (x, S1) => match evalE c b ρ S1 with
      | some (y, S2) => binD o op x y S2
      | none => none
    | none => none := by
  rw [evalE]
  try rfl
@[simp] theorem ev_neg (a : E) : evalE c (.neg a) ρ S = match evalE c a ρ S with
    | some (.int i, S1) => some (.int (-i), S1)
    | _ => none := by
  rw [evalE]
  try rfl
@[simp] theorem ev_cmp (op : Cop) (a b : E) : evalE c (.cmp op a b) ρ S = match evalE c a ρ S with
    | some (x, S1) => match evalE c b ρ S1 with
      | some (y, S2) => (cmpD S2 op x y).map fun k => (.bl k, S2)
      | none => none
    | none => none := by
  rw [evalE]
  try rfl
@[simp] theorem ev_chain (o1 o2 : Cop) (a b d : E) : evalE c (.chain o1 o2 a b d) ρ S = match evalE c a ρ S with
    | some (x, S1) => match evalE c b ρ S1 with
      | some (y, S2) => match cmpD S2 o1 x y with
        | some true => match evalE c d ρ S2 with
          | some (z, S3) => (cmpD S3 o2 y z).map fun k => (.bl k, S3)
          | none => none
        | some false => some (.bl false, S2)
        | none => none
      | none => none
    | none => none := by
  rw [evalE]
  try rfl
@[simp] theorem ev_band (es : Es) : evalE c (.band es) ρ S = evalAnd c es ρ S := by
  rw [evalE]
  try rfl
@[simp] theorem ev_bor (es : Es) : evalE c (.bor es) ρ S = evalOr c es ρ S := by
  rw [evalE]
  try rfl
@[simp] theorem ev_bnot (a : E) : evalE c (.bnot a) ρ S = match evalE c a ρ S with
    | some (d, S1) => (truD S1 d).map fun k => (.bl (!k), S1)
    | none => none := by
  rw [evalE]
  try rfl
@[simp] theorem ev_ifE (t a b : E) : evalE c (.ifE t a b) ρ S = match evalT c t ρ S with
    | some (true, S1) => evalE c a ρ S1
    | some (false, S1) => evalE c b ρ S1
    | none => none := by
  rw [evalE]
  try rfl
@[simp] theorem ev_idx (a i : E) : evalE c (.idx a i) ρ S = match evalE c a ρ S with
    | some (x, S1) => match evalE c i ρ S1 with
      | some (y, S2) => (idxD S2 x y).map fun d => (d, S2)
      | none => none
    | none => none := by
  rw [evalE]
  try rfl
@[simp] theorem ev_slice (o : Bool) (a lo hi : E) : evalE c (.slice o a lo hi) ρ S = match evalE c a ρ S with
    | some (x, S1) => match evalO c lo ρ S1 with
      | some (l, S2) => match evalO c hi ρ S2 with
        | some (h, S3) => sliceD o x l h S3
        | none => none
      | none => none
    | none => none := by
  rw [evalE]
  try rfl
@[simp] theorem ev_lst (o : Bool) (es : Es) : evalE c (.lst o es) ρ S = match evalEs c es ρ S with
    | some (ds, S1) => if ds.length ≤ sizeLine then some (mk o ds S1) else none
    | none => none := by
  rw [evalE]
  try rfl
@[simp] theorem ev_tup (es : Es) : evalE c (.tup es) ρ S = match evalEs c es ρ S with
    | some (ds, S1) => if ds.length ≤ sizeLine then some (.tup ds, S1) else none
    | none => none := by
  rw [evalE]
  try rfl
@[simp] theorem ev_callT (f : Nat) (es : Es) : evalE c (.call f true es) ρ S = match evalEs c es ρ S with
    | some (ds, S1) => match c f ds S1 with
      | some (r, S2) => some (thaw r S2)
      | none => none
    | none => none := by
  rw [evalE]
  try rfl
@[simp] theorem ev_callF (f : Nat) (es : Es) : evalE c (.call f false es) ρ S = match evalEs c es ρ S with
    | some (ds, S1) => match c f ds S1 with
      | some (r, S2) => some (unfre r, S2)
      | none => none
    | none => none := by
  rw [evalE]
  try rfl
@[simp] theorem ev_bi (b : Bi) (o : Bool) (es : Es) : evalE c (.bi b o es) ρ S = match evalEs c es ρ S with
    | some (ds, S1) => biD o S1 b ds
    | none => none := by
  rw [evalE]
  try rfl
@[simp] theorem ev_isi (b : Bi) (a : E) : evalE c (.isi b a) ρ S = match evalE c a ρ S with
    | some (d, S1) => (isTy b d).map fun k => (.bl k, S1)
    | none => none := by
  rw [evalE]
  try rfl
/-- a comprehension's turn -/
def stepC (c : Fns) (elt : E) (tg : Tg) (cond : E) (own : List Nat) (ρ : Env) (d : D) (S' : Store) : Option (Option D × Store) := match asg tg d (wipeE ρ own) with
        | some ρ1 => match evalC c cond ρ1 S' with
          | some (true, S2) => match evalE c elt ρ1 S2 with
            | some (y, S3) => some (some y, S3)
            | none => none
          | some (false, S2) => some (none, S2)
          | none => none
        | none => none
@[simp] theorem ev_comp (o : Bool) (elt : E) (tg : Tg) (it : It) (cond : E) (own : List Nat) : evalE c (.comp o elt tg it cond own) ρ S = match evalI c it ρ S with
    | some (wk, S1) => match compL wk (stepC c elt tg cond own ρ) wk.ds S1 with
      | some (ys, S2) => if wk.ds.length < sizeLine then some (mk o ys S2) else none
      | none => none
    | none => none := by
  rw [evalE]
  rfl
@[simp] theorem ev_app (a e : E) : evalE c (.app a e) ρ S = match evalE c a ρ S with
    | some (.box i, S1) => match evalE c e ρ S1 with
      | some (y, S2) => match S2[i]? with
        | some (.live ds) => if ds.length < sizeLine ∧ bnd 0 y = true then some (.non, S2.set i (.live (ds ++ [y]))) else none
        | _ => none
      | none => none
    | _ => none := by
  rw [evalE]
  try rfl
@[simp] theorem ev_frz (e : E) : evalE c (.frz e) ρ S = match evalE c e ρ S with
    | some (d, S1) => frzD 8 d S1
    | none => none := by
  rw [evalE]
  try rfl
@[simp] theorem es_nil : evalEs c .nil ρ S = some ([], S) := by
  rw [evalEs]
  try rfl
@[simp] theorem es_cons (e : E) (es : Es) : evalEs c (.cons e es) ρ S = match evalE c e ρ S with
    | some (d, S1) => match evalEs c es ρ S1 with
      | some (ds, S2) => some (d :: ds, S2)
      | none => none
    | none => none := by
  rw [evalEs]
  try rfl
@[simp] theorem eo_nop : evalO c .nop ρ S = some (none, S) := by
  rw [evalO]
  try rfl
@[simp] theorem eo_var (i : Nat) : evalO c (.var i) ρ S = match evalE c (.var i) ρ S with
    | some (.int i, S1) => some (some i, S1)
    | _ => none := by
  simp only [evalO]
  try rfl
@[simp] theorem eo_cI (i : Int) : evalO c (.cI i) ρ S = some (some i, S) := by simp only [evalO, ev_cI]
@[simp] theorem eo_bin (o : Bool) (op : Bop) (a b : E) : evalO c (.bin o op a b) ρ S = match evalE c (.bin o op a b) ρ S with
    | some (.int i, S1) => some (some i, S1)
    | _ => none := by
  simp only [evalO]
  try rfl
@[simp] theorem eo_neg (a : E) : evalO c (.neg a) ρ S = match evalE c (.neg a) ρ S with
    | some (.int i, S1) => some (some i, S1)
    | _ => none := by
  simp only [evalO]
  try rfl
@[simp] theorem eo_bi (b : Bi) (o : Bool) (es : Es) : evalO c (.bi b o es) ρ S = match evalE c (.bi b o es) ρ S with
    | some (.int i, S1) => some (some i, S1)
    | _ => none := by
  simp only [evalO]
  try rfl
@[simp] theorem eo_idx (a i : E) : evalO c (.idx a i) ρ S = match evalE c (.idx a i) ρ S with
    | some (.int i, S1) => some (some i, S1)
    | _ => none := by
  simp only [evalO]
  try rfl
/-! tests -/
@[simp] theorem et_var (i : Nat) : evalT c (.var i) ρ S = truO (evalE c (.var i) ρ S) := by
  simp only [evalT]
  try rfl
@[simp] theorem et_cB (i : Bool) : evalT c (.cB i) ρ S = some (i, S) := by simp only [evalT, ev_cB, truO, truD, Option.map]
@[simp] theorem et_cmp (op : Cop) (a b : E) : evalT c (.cmp op a b) ρ S = match evalE c a ρ S with
    | some (x, S1) => match evalE c b ρ S1 with
      | some (y, S2) => (cmpD S2 op x y).map fun k => (k, S2)
      | none => none
    | none => none := by
  simp only [evalT, ev_cmp]
  cases evalE c a ρ S with
  | none => rfl
  | some r =>
    obtain ⟨x, S1⟩ := r
    dsimp only
    cases evalE c b ρ S1 with
    | none => rfl
    | some r =>
      obtain ⟨y, S2⟩ := r
      dsimp only
      cases cmpD S2 op x y <;> rfl
@[simp] theorem et_chain (o1 o2 : Cop) (a b d : E) : evalT c (.chain o1 o2 a b d) ρ S = truO (evalE c (.chain o1 o2 a b d) ρ S) := by
  simp only [evalT]
  try rfl
@[simp] theorem et_band (es : Es) : evalT c (.band es) ρ S = evalAndT c es ρ S := by
  simp only [evalT]
  try rfl
@[simp] theorem et_bor (es : Es) : evalT c (.bor es) ρ S = evalOrT c es ρ S := by
  simp only [evalT]
  try rfl
@[simp] theorem et_bnot (a : E) : evalT c (.bnot a) ρ S = match evalT c a ρ S with
    | some (k, S1) => some (!k, S1)
    | none => none := by
  simp only [evalT]
  try rfl
@[simp] theorem et_idx (a i : E) : evalT c (.idx a i) ρ S = truO (evalE c (.idx a i) ρ S) := by
  simp only [evalT]
  try rfl
@[simp] theorem et_call (f : Nat) (o : Bool) (es : Es) : evalT c (.call f o es) ρ S = truO (evalE c (.call f o es) ρ S) := by
  simp only [evalT]
  try rfl
@[simp] theorem et_bi (f : Bi) (o : Bool) (es : Es) : evalT c (.bi f o es) ρ S = truO (evalE c (.bi f o es) ρ S) := by
  simp only [evalT]
  try rfl
@[simp] theorem et_isi (f : Bi) (es : E) : evalT c (.isi f es) ρ S = truO (evalE c (.isi f es) ρ S) := by
  simp only [evalT]
  try rfl
@[simp] theorem et_bin (o : Bool) (op : Bop) (a b : E) : evalT c (.bin o op a b) ρ S = truO (evalE c (.bin o op a b) ρ S) := by
  simp only [evalT]
  try rfl
@[simp] theorem et_glob (x : Str) (d : D) : evalT c (.glob x d) ρ S = truO (evalE c (.glob x d) ρ S) := by
  simp only [evalT]
  try rfl
theorem andT_nil : evalAndT c .nil ρ S = none := by
  rw [evalAndT]
  try rfl
@[simp] theorem andT_one (e : E) : evalAndT c (.cons e .nil) ρ S = evalT c e ρ S := by
  rw [evalAndT]
  try rfl
@[simp] theorem andT_cons (e e2 : E) (es : Es) : evalAndT c (.cons e (.cons e2 es)) ρ S = match evalT c e ρ S with
    | some (true, S1) => evalAndT c (.cons e2 es) ρ S1
    | some (false, S1) => some (false, S1)
    | none => none := by
  rw [evalAndT] <;> first | rfl | (intro z; cases z)
@[simp] theorem orT_one (e : E) : evalOrT c (.cons e .nil) ρ S = evalT c e ρ S := by
  rw [evalOrT]
  try rfl
@[simp] theorem orT_cons (e e2 : E) (es : Es) : evalOrT c (.cons e (.cons e2 es)) ρ S = match evalT c e ρ S with
    | some (false, S1) => evalOrT c (.cons e2 es) ρ S1
    | some (true, S1) => some (true, S1)
    | none => none := by
  rw [evalOrT] <;> first | rfl | (intro z; cases z)
@[simp] theorem and_one (e : E) : evalAnd c (.cons e .nil) ρ S = evalE c e ρ S := by
  rw [evalAnd]
  try rfl
@[simp] theorem and_cons (e e2 : E) (es : Es) : evalAnd c (.cons e (.cons e2 es)) ρ S = match evalE c e ρ S with
    | some (d, S1) => match truD S1 d with
      | some true => evalAnd c (.cons e2 es) ρ S1
      | some false => some (d, S1)
      | none => none
    | none => none := by
  rw [evalAnd] <;> first | rfl | (intro z; cases z)
@[simp] theorem or_one (e : E) : evalOr c (.cons e .nil) ρ S = evalE c e ρ S := by
  rw [evalOr]
  try rfl
@[simp] theorem or_cons (e e2 : E) (es : Es) : evalOr c (.cons e (.cons e2 es)) ρ S = match evalE c e ρ S with
    | some (d, S1) => match truD S1 d with
      | some false => evalOr c (.cons e2 es) ρ S1
      | some true => some (d, S1)
      | none => none
    | none => none := by
  rw [evalOr] <;> first | rfl | (intro z; cases z)
@[simp] theorem truO_some (d : D) : truO (some (d, S)) = (truD S d).map fun k => (k, S) := rfl
@[simp] theorem truO_none : truO none = none := rfl
@[simp] theorem truD_bl (b : Bool) : truD S (.bl b) = some b := rfl
@[simp] theorem truD_int (i : Int) : truD S (.int i) = some (i != 0) := rfl
@[simp] theorem truD_non : truD S .non = some false := rfl
@[simp] theorem truD_lst (ds : List D) : truD S (.lst ds) = some (!ds.isEmpty) := rfl
@[simp] theorem truD_tup (ds : List D) : truD S (.tup ds) = some (!ds.isEmpty) := rfl
@[simp] theorem ec_nop : evalC c .nop ρ S = some (true, S) := by
  rw [evalC]
  try rfl
theorem ec_e {e : E} (h : e ≠ .nop) : evalC c e ρ S = evalT c e ρ S := by
  rw [evalC] <;> first | rfl | exact h

@[simp] theorem ec_cmp (op : Cop) (a b : E) : evalC c (.cmp op a b) ρ S = evalT c (.cmp op a b) ρ S := ec_e (fun z => by cases z)
@[simp] theorem ec_band (es : Es) : evalC c (.band es) ρ S = evalT c (.band es) ρ S := ec_e (fun z => by cases z)
@[simp] theorem ec_bor (es : Es) : evalC c (.bor es) ρ S = evalT c (.bor es) ρ S := ec_e (fun z => by cases z)
@[simp] theorem ec_bnot (a : E) : evalC c (.bnot a) ρ S = evalT c (.bnot a) ρ S := ec_e (fun z => by cases z)
@[simp] theorem ec_chain (o1 o2 : Cop) (a b d : E) : evalC c (.chain o1 o2 a b d) ρ S = evalT c (.chain o1 o2 a b d) ρ S := ec_e (fun z => by cases z)
@[simp] theorem ec_call (f : Nat) (o : Bool) (es : Es) : evalC c (.call f o es) ρ S = evalT c (.call f o es) ρ S := ec_e (fun z => by cases z)
@[simp] theorem ec_isi (b : Bi) (a : E) : evalC c (.isi b a) ρ S = evalT c (.isi b a) ρ S := ec_e (fun z => by cases z)
@[simp] theorem ec_idx (a i : E) : evalC c (.idx a i) ρ S = evalT c (.idx a i) ρ S := ec_e (fun z => by cases z)
@[simp] theorem ec_var (i : Nat) : evalC c (.var i) ρ S = evalT c (.var i) ρ S := ec_e (fun z => by cases z)
@[simp] theorem ec_bin (o : Bool) (op : Bop) (a b : E) : evalC c (.bin o op a b) ρ S = evalT c (.bin o op a b) ρ S := ec_e (fun z => by cases z)
@[simp] theorem ec_bi (f : Bi) (o : Bool) (es : Es) : evalC c (.bi f o es) ρ S = evalT c (.bi f o es) ρ S := ec_e (fun z => by cases z)

/-! what a loop walks -/
@[simp] theorem ei_list (e : E) : evalI c (.list e) ρ S = match evalE c e ρ S with
    | some (d, S1) => (seqK S1 d).map fun k => (k, S1)
    | none => none := by
  rw [evalI]
  try rfl
theorem ei_rng (es : Es) : evalI c (.rng es) ρ S = match evalEs c es ρ S with
    | some (ds, S1) => (rngD ds).map fun xs => (⟨xs, none⟩, S1)
    | none => none := by
  rw [evalI]
  try rfl
@[simp] theorem ei_enum (e : E) : evalI c (.enum e) ρ S = match evalE c e ρ S with
    | some (d, S1) => (seqW S1 d).map fun ds => (⟨enumD ds, none⟩, S1)
    | none => none := by
  rw [evalI]
  try rfl
@[simp] theorem ei_zip (a b : E) : evalI c (.zip a b) ρ S = match evalE c a ρ S with
    | some (x, S1) => match evalE c b ρ S1 with
      | some (y, S2) => match seqW S2 x, seqW S2 y with
        | some xs, some ys => some (⟨zipD xs ys, none⟩, S2)
        | _, _ => none
      | none => none
    | none => none := by
  rw [evalI]
  try rfl
@[simp] theorem ei_rev (e : E) : evalI c (.rev e) ρ S = match evalE c e ρ S with
    | some (d, S1) => (seqW S1 d).map fun ds => (⟨ds.reverse, none⟩, S1)
    | none => none := by
  rw [evalI]
  try rfl
@[simp] theorem seqK_lst (ds : List D) : seqK S (.lst ds) = some ⟨ds, none⟩ := rfl
@[simp] theorem seqK_tup (ds : List D) : seqK S (.tup ds) = some ⟨ds, none⟩ := rfl
@[simp] theorem seqK_scr (ns : List Int) : seqK S (.scr ns) = some ⟨il ns, none⟩ := rfl
@[simp] theorem seqW_lst (ds : List D) : seqW S (.lst ds) = some ds := rfl
@[simp] theorem seqR_lst (ds : List D) : seqR S (.lst ds) = some ds := rfl
@[simp] theorem seqR_tup (ds : List D) : seqR S (.tup ds) = some ds := rfl
@[simp] theorem seqR_scr (ns : List Int) : seqR S (.scr ns) = some (il ns) := rfl
@[simp] theorem seqR_box (i : Nat) : seqR S (.box i) = getBox S i := rfl
@[simp] theorem seqL_lst (ds : List D) : seqL S (.lst ds) = some ds := rfl
@[simp] theorem seqL_box (i : Nat) : seqL S (.box i) = getBox S i := rfl
@[simp] theorem okW_none (ds : List D) : okW S ⟨ds, none⟩ = true := rfl
/-! statements -/
@[simp] theorem xs_nil : execs c M .nil ρ S = some (.nx, ρ, S) := by
  rw [execs]
  try rfl
theorem xs_cons (s : Sw.St) (ss : Sts) : execs c M (.cons s ss) ρ S = match exec c M s ρ S with
    | some (.nx, ρ1, S1) => execs c M ss ρ1 S1
    | some r => some r
    | none => none := by
  rw [execs]
  try rfl
theorem xs_nx {s : Sw.St} {ss : Sts} (h : exec c M s ρ S = some (.nx, ρ1, S1)) : execs c M (.cons s ss) ρ S = execs c M ss ρ1 S1 := by rw [xs_cons, h]
theorem xs_end {s : Sw.St} {ss : Sts} {r : Flow' × Env × Store} (h : exec c M s ρ S = some r) (hn : r.1 ≠ .nx) : execs c M (.cons s ss) ρ S = some r := by
  rw [xs_cons, h]
  obtain ⟨fl, ρ, S⟩ := r
  cases fl <;> first | rfl | exact absurd rfl hn
theorem xs_ret {s : Sw.St} {ss : Sts} {d : D} (h : exec c M s ρ S = some (.ret d, ρ1, S1)) : execs c M (.cons s ss) ρ S = some (.ret d, ρ1, S1) := xs_end h (by simp)
@[simp] theorem x_set (i : Nat) (e : E) : exec c M (.set i e) ρ S = match evalE c e ρ S with
    | some (d, S1) => some (.nx, ρ.set i (some d), S1)
    | none => none := by
  rw [exec]
  try rfl
@[simp] theorem x_setT (tg : Tg) (e : E) : exec c M (.setT tg e) ρ S = match evalE c e ρ S with
    | some (d, S1) => (asg tg d ρ).map fun ρ1 => (.nx, ρ1, S1)
    | none => none := by
  rw [exec]
  try rfl
@[simp] theorem x_par (i j : Nat) (a b : E) : exec c M (.par i j a b) ρ S = match evalE c a ρ S with
    | some (x, S1) => match evalE c b ρ S1 with
      | some (y, S2) => some (.nx, (ρ.set i (some x)).set j (some y), S2)
      | none => none
    | none => none := by
  rw [exec]
  try rfl
@[simp] theorem x_aug (i : Nat) (op : Bop) (e : E) : exec c M (.aug i op e) ρ S = match ρ[i]? with
    | some (some (.int x)) => match evalE c e ρ S with
      | some (.int y, S1) => match augI op x y with
        | some z => some (.nx, ρ.set i (some (.int z)), S1)
        | none => none
      | _ => none
    | _ => none := by
  rw [exec]
  try rfl
@[simp] theorem augI_add (x y : Int) : augI .add x y = some (x + y) := rfl
@[simp] theorem augI_sub (x y : Int) : augI .sub x y = some (x - y) := rfl
@[simp] theorem x_setIx (a i e : E) : exec c M (.setIx a i e) ρ S = match evalE c e ρ S with
    | some (y, S1) => match evalE c a ρ S1 with
      | some (x, S2) => match evalE c i ρ S2 with
        | some (k, S3) => (setIxD S3 x k y).map fun S4 => (.nx, ρ, S4)
        | none => none
      | none => none
    | none => none := by
  rw [exec]
  try rfl
@[simp] theorem x_augIx (a i : E) (op : Bop) (e : E) : exec c M (.augIx a i op e) ρ S = match evalE c a ρ S with
    | some (x, S1) => match evalE c i ρ S1 with
      | some (k, S2) => match idxD S2 x k with
        | some (.int v) => match evalE c e ρ S2 with
          | some (.int y, S3) => match augI op v y with
            | some z => (setIxD S3 x k (.int z)).map fun S4 => (.nx, ρ, S4)
            | none => none
          | _ => none
        | _ => none
      | none => none
    | none => none := by
  rw [exec]
  try rfl
@[simp] theorem x_expr (e : E) : exec c M (.expr e) ρ S = match evalE c e ρ S with
    | some (_, S1) => some (.nx, ρ, S1)
    | none => none := by
  rw [exec]
  try rfl
@[simp] theorem x_ifS (t : E) (a b : Sts) : exec c M (.ifS t a b) ρ S = match evalT c t ρ S with
    | some (true, S1) => execs c M a ρ S1
    | some (false, S1) => execs c M b ρ S1
    | none => none := by
  rw [exec]
  try rfl
@[simp] theorem x_whileS (t : E) (b : Sts) : exec c M (.whileS t b) ρ S = whileL (evalT c t) (execs c M b) M ρ S := by
  rw [exec]
  try rfl
/-- a loop's turn -/
def stepF (c : Fns) (M : Nat) (tg : Tg) (b : Sts) (d : D) (ρ : Env) (S : Store) : Option (Flow' × Env × Store) := match asg tg d ρ with
        | some ρ1 => execs c M b ρ1 S
        | none => none
@[simp] theorem x_forS (tg : Tg) (it : It) (b : Sts) : exec c M (.forS tg it b) ρ S = match evalI c it ρ S with
    | some (wk, S1) => forL wk (stepF c M tg b) wk.ds ρ S1
    | none => none := by
  rw [exec]
  rfl
@[simp] theorem x_ret (e : E) : exec c M (.ret e) ρ S = match evalE c e ρ S with
    | some (d, S1) => some (.ret d, ρ, S1)
    | none => none := by
  rw [exec]
  try rfl
@[simp] theorem x_retN : exec c M .retN ρ S = some (.ret .non, ρ, S) := by
  rw [exec]
  try rfl
@[simp] theorem x_brk : exec c M .brk ρ S = some (.bk, ρ, S) := by
  rw [exec]
  try rfl
@[simp] theorem x_cont : exec c M .cont ρ S = some (.ct, ρ, S) := by
  rw [exec]
  try rfl
@[simp] theorem x_pass : exec c M .pass ρ S = some (.nx, ρ, S) := by
  rw [exec]
  try rfl
end
end Sw

set_option Elab.async false
set_option linter.all false
set_option maxRecDepth 100000
set_option maxHeartbeats 4000000
namespace Sw
open PySem PySem.Spec PyProof.Rows L2

section
variable {c : Fns} {M : Nat} {ρ ρ1 : Env} {S S1 S2 T : Store} {o : Bool}
theorem size_eq : sizeLine = 16777216 := rfl
/-! ### numbers -/
@[simp] theorem bin_add (i j : Int) : binD o .add (.int i) (.int j) S = some (.int (i + j), S) := rfl
@[simp] theorem bin_sub (i j : Int) : binD o .sub (.int i) (.int j) S = some (.int (i - j), S) := rfl
theorem bin_num {op : Bop} {i j r : Int} (h : numBin op i j = some r) : binD o op (.int i) (.int j) S = some (.int r, S) := by
  show (match numBin op i j with
    | some k => some (D.int k, S)
    | none => none) = _
  rw [h]
theorem bin_mulL {i j : Int} (h : -18446744073709551616 < i ∧ i < 18446744073709551616) : binD o .mul (.int i) (.int j) S = some (.int (i * j), S) := bin_num (by
  show (if (-(2 ^ 64) < i ∧ i < 2 ^ 64) ∨ (-(2 ^ 64) < j ∧ j < 2 ^ 64) then some (i * j) else none) = _
  rw [if_pos (.inl ⟨by omega, by omega⟩)])
theorem bin_mulR {i j : Int} (h : -18446744073709551616 < j ∧ j < 18446744073709551616) : binD o .mul (.int i) (.int j) S = some (.int (i * j), S) := bin_num (by
  show (if (-(2 ^ 64) < i ∧ i < 2 ^ 64) ∨ (-(2 ^ 64) < j ∧ j < 2 ^ 64) then some (i * j) else none) = _
  rw [if_pos (.inr ⟨by omega, by omega⟩)])
theorem bin_mod {i j : Int} (h : 0 < j) : binD o .mod (.int i) (.int j) S = some (.int (i % j), S) := bin_num (by
  show (if j ≠ 0 then some (i.fmod j) else none) = _
  rw [if_pos (by omega), Int.fmod_eq_emod_of_nonneg _ (by omega)])
theorem bin_fdiv {i j : Int} (h : 0 < j ∧ j < 1073741824) : binD o .fdiv (.int i) (.int j) S = some (.int (i / j), S) := bin_num (by
  show (if j ≠ 0 ∧ j.natAbs < 1073741824 then some (i.fdiv j) else none) = _
  rw [if_pos ⟨by omega, by omega⟩, Int.fdiv_eq_ediv_of_nonneg _ (by omega)])
theorem bin_pow {i j : Int} (h : 0 ≤ j ∧ j ≤ 1000000) (h2 : -18446744073709551616 < i ∧ i < 18446744073709551616) : binD o .pow (.int i) (.int j) S = some (.int (i ^ j.toNat), S) := bin_num (by
  show (if 0 ≤ j ∧ j ≤ 1000000 ∧ i.natAbs < 2 ^ 64 then some (i ^ j.toNat) else none) = _
  rw [if_pos ⟨h.1, h.2, by omega⟩])
theorem bin_rep (xs : List D) (n : Nat) (h : xs.length * n ≤ 16777216) (h2 : n ≤ 16777216) : binD o .mul (.lst xs) (.int (n : Nat)) S = some (mk o (List.replicate n xs).flatten S) := by
  simp only [binD, seqL]
  rw [if_pos ⟨trivial, by omega, by omega, by rw [Int.toNat_natCast, size_eq]; exact h⟩, Int.toNat_natCast]
theorem bin_addl (xs ys : List D) (h : xs.length + ys.length ≤ 16777216) : binD o .add (.lst xs) (.lst ys) S = some (mk o (xs ++ ys) S) := by
  simp only [binD, seqL]
  rw [if_pos ⟨trivial, by rw [size_eq]; exact h⟩]
theorem flat_rep (n : Nat) (d : D) : (List.replicate n [d]).flatten = List.replicate n d := by
  induction n with
  | zero => rfl
  | succ n ih => rw [List.replicate_succ, List.flatten_cons, ih]; rfl
@[simp] theorem cmp_lt (i j : Int) : cmpD S .lt (.int i) (.int j) = some (decide (i < j)) := rfl
@[simp] theorem cmp_le (i j : Int) : cmpD S .le (.int i) (.int j) = some (decide (i ≤ j)) := rfl
@[simp] theorem cmp_gt (i j : Int) : cmpD S .gt (.int i) (.int j) = some (decide (j < i)) := rfl
@[simp] theorem cmp_ge (i j : Int) : cmpD S .ge (.int i) (.int j) = some (decide (j ≤ i)) := rfl
@[simp] theorem cmp_eq (a b : D) : cmpD S .eq a b = eqD S a b := by cases a <;> cases b <;> rfl
@[simp] theorem cmp_ne (a b : D) : cmpD S .ne a b = (eqD S a b).map (!·) := by cases a <;> cases b <;> rfl
@[simp] theorem cmp_isN (a : D) : cmpD S .isN a .non = some (isNonD a) := by cases a <;> rfl
@[simp] theorem cmp_isNN (a : D) : cmpD S .isNN a .non = some (!isNonD a) := by cases a <;> rfl
@[simp] theorem bi_len (d : D) (ds : List D) (h : seqR S d = some ds) : biD o S .len [d] = some (.int ds.length, S) := by
  have : lenD S [d] = some (.int ds.length, S) := by
    unfold lenD
    split
    · rename_i z e
      cases e
      cases h
    · rename_i e
      cases e
      rw [h]
    · rename_i h1 h2
      exact absurd rfl (h2 d)
  exact this
@[simp] theorem bi_abs (i : Int) : biD o S .abs [.int i] = some (.int (if i < 0 then -i else i), S) := rfl
@[simp] theorem bi_int (i : Int) : biD o S .int [.int i] = some (.int i, S) := rfl
@[simp] theorem bi_max2 (i j : Int) : biD o S .max2 [.int i, .int j] = some (.int (max i j), S) := by
  show some (D.int (if j > i then j else i), S) = _
  congr 3
  omega
@[simp] theorem bi_min2 (i j : Int) : biD o S .min2 [.int i, .int j] = some (.int (min i j), S) := by
  show some (D.int (if j < i then j else i), S) = _
  congr 3
  omega
theorem bi_list (d : D) (ds : List D) (h : seqR S d = some ds) : biD o S .list [d] = some (mk o ds S) := by
  show listD o S [d] = _
  simp only [listD, h]
theorem bi_tuple (d : D) (ds : List D) (h : seqL S d = some ds) : biD o S .tuple [d] = some (.tup ds, S) := by
  show tupleD S [d] = _
  simp only [tupleD, h]
theorem bi_sum (d : D) (ns : List Int) (h : seqL S d = some (il ns)) : biD o S .sum [d] = some (.int ns.sum, S) := by
  show onInts S _ [d] = _
  simp only [onInts, h, dInts_il]
@[simp] theorem mk_t (ds : List D) : mk true ds S = (.box S.length, S ++ [.live ds]) := rfl
@[simp] theorem mk_f (ds : List D) : mk false ds S = (.lst ds, S) := rfl
/-! ### lists -/
theorem atI_nat {α : Type} {xs : List α} {j : Nat} {x : α} (h : xs[j]? = some x) : atI xs (j : Int) = some x := by
  have hj : j < xs.length := (List.getElem?_eq_some_iff.mp h).1
  unfold atI ixN
  rw [if_pos (by omega), if_pos (by omega)]
  simpa using h
theorem atI_last {α : Type} {xs : List α} {x : α} (h : xs.getLast? = some x) : atI xs (-1) = some x := by
  have hne : xs ≠ [] := fun e => by
    rw [e] at h
    cases h
  have hl : 0 < xs.length := List.length_pos_iff.mpr hne
  unfold atI ixN
  rw [if_neg (by omega), if_pos (by omega)]
  rw [List.getLast?_eq_getElem?] at h
  show xs[((-1 : Int) + xs.length).toNat]? = _
  rw [← h]
  congr 1
  omega
theorem idx_lst {a : D} {ds : List D} {k : Int} {d : D} (hs : seqR S a = some ds) (h : atI ds k = some d) : idxD S a (.int k) = some d := by
  unfold idxD
  cases a with
  | str z => cases hs
  | _ =>
    simp only [hs]
    exact h
theorem idx_nat {a : D} {ds : List D} {j : Nat} {d : D} (hs : seqR S a = some ds) (h : ds[j]? = some d) : idxD S a (.int (j : Int)) = some d := idx_lst hs (atI_nat h)
theorem slice_hi {a : D} {ds : List D} {k : Int} (ha : seqL S a = some ds) (h0 : 0 ≤ k) : sliceD o a none (some k) S = some (mk o (ds.take k.toNat) S) := by
  have e : cutD ds none (some k) = ds.take k.toNat := by
    unfold cutD
    rw [show HT.sIx ds.length 0 none = 0 from rfl, show HT.sIx ds.length ds.length (some k) = (if k < 0 then (k + (ds.length : Int)).toNat else min k.toNat ds.length) from rfl, if_neg (by omega), List.drop_zero, Nat.sub_zero, Nat.min_def]
    split
    · rfl
    · rw [List.take_length, List.take_of_length_le (by omega)]
  unfold sliceD
  cases a with
  | tup _ => cases ha
  | scr _ => cases ha
  | _ =>
    simp only [ha, e]
/-! ### what a def hands back -/
theorem unfres_il (ns : List Int) : unfres (il ns) = il ns := by
  induction ns with
  | nil => simp [unfres]
  | cons n r ih => simp [unfres, unfre, ih]
@[simp] theorem unfre_il (ns : List Int) : unfre (.fre (il ns)) = .lst (il ns) := by simp [unfre, unfres_il]
@[simp] theorem unfre_nil : unfre (.fre []) = .lst [] := unfre_il []
@[simp] theorem unfre_int (i : Int) : unfre (.int i) = .int i := by simp [unfre]
@[simp] theorem unfre_bl (i : Bool) : unfre (.bl i) = .bl i := by simp [unfre]
@[simp] theorem unfre_non : unfre .non = .non := by simp [unfre]
@[simp] theorem unfre_str (i : Str) : unfre (.str i) = .str i := by simp [unfre]
@[simp] theorem unfre_lst (ds : List D) : unfre (.lst ds) = .lst ds := by simp [unfre]
@[simp] theorem unfre_box (i : Nat) : unfre (.box i) = .box i := by simp [unfre]
@[simp] theorem unfre_tup (ds : List D) : unfre (.tup ds) = .tup (unfres ds) := by simp [unfre]
theorem unfre_fre (ds : List D) : unfre (.fre ds) = .lst (unfres ds) := by simp [unfre]
@[simp] theorem unfres_nil : unfres [] = [] := by simp [unfres]
@[simp] theorem unfres_cons (d : D) (ds : List D) : unfres (d :: ds) = unfre d :: unfres ds := by simp [unfres]
theorem thaws_il (ns : List Int) : thaws (il ns) S = (il ns, S) := by
  induction ns with
  | nil => simp [thaws]
  | cons n r ih => simp [thaws, thaw, ih]
@[simp] theorem thaw_il (ns : List Int) : thaw (.fre (il ns)) S = (.box S.length, S ++ [.live (il ns)]) := by simp [thaw, thaws_il]
@[simp] theorem thaw_nil : thaw (.fre []) S = (.box S.length, S ++ [.live []]) := thaw_il []
@[simp] theorem thaw_lst (ds : List D) : thaw (.lst ds) S = (.lst ds, S) := by simp [thaw]
@[simp] theorem thaw_int (ds : Int) : thaw (.int ds) S = (.int ds, S) := by simp [thaw]
@[simp] theorem thaw_box (ds : Nat) : thaw (.box ds) S = (.box ds, S) := by simp [thaw]
@[simp] theorem thaw_bl (ds : Bool) : thaw (.bl ds) S = (.bl ds, S) := by simp [thaw]
@[simp] theorem thaw_str (ds : Str) : thaw (.str ds) S = (.str ds, S) := by simp [thaw]
@[simp] theorem thaw_non : thaw .non S = (.non, S) := by simp [thaw]
@[simp] theorem bnds_il (n : Nat) (ns : List Int) : bnds n (il ns) = true := by
  induction ns with
  | nil => simp [bnds]
  | cons x r ih => simp [bnds, bnd, ih]
@[simp] theorem bnd_int (n : Nat) (i : Int) : bnd n (.int i) = true := by simp [bnd]
@[simp] theorem bnd_lst (n : Nat) (ds : List D) : bnd n (.lst ds) = bnds n ds := by simp [bnd]
@[simp] theorem bnd_tup (n : Nat) (ds : List D) : bnd n (.tup ds) = bnds n ds := by simp [bnd]
@[simp] theorem bnd_fre (n : Nat) (ds : List D) : bnd n (.fre ds) = bnds n ds := by simp [bnd]
@[simp] theorem bnd_bl (n : Nat) (i : Bool) : bnd n (.bl i) = true := by simp [bnd]
@[simp] theorem bnd_non (n : Nat) : bnd n .non = true := by simp [bnd]
@[simp] theorem bnd_str (n : Nat) (i : Str) : bnd n (.str i) = true := by simp [bnd]
@[simp] theorem bnds_nil (n : Nat) : bnds n [] = true := by simp [bnds]
@[simp] theorem bnds_cons' (n : Nat) (d : D) (ds : List D) : bnds n (d :: ds) = (bnd n d && bnds n ds) := by simp [bnds]
theorem frzA_same {f : D → Store → Option (D × Store)} {ds : List D} (h : ∀ d ∈ ds, f d S = some (d, S)) : frzA f ds S = some (ds, S) := by
  induction ds with
  | nil => rfl
  | cons d r ih => simp only [frzA, h d List.mem_cons_self, ih fun x hx => h x (List.mem_cons_of_mem _ hx)]
theorem mem_il {ns : List Int} {d : D} (h : d ∈ il ns) : ∃ i, d = .int i := by
  obtain ⟨i, _, e⟩ := List.mem_map.mp h
  exact ⟨i, e.symm⟩
theorem pack_il (k n : Nat) (ns : List Int) : frzA (packD (k + 1) n) (il ns) S = some (il ns, S) := frzA_same fun d hd => by
  obtain ⟨i, rfl⟩ := mem_il hd
  rfl
@[simp] theorem exit_int (n : Nat) (i : Int) : exitD n (.int i) S = some (.int i, S.take n) := by simp [exitD, packD]
@[simp] theorem exit_bl (n : Nat) (i : Bool) : exitD n (.bl i) S = some (.bl i, S.take n) := by simp [exitD, packD]
@[simp] theorem exit_non (n : Nat) : exitD n .non S = some (.non, S.take n) := by simp [exitD, packD]
@[simp] theorem exit_str (n : Nat) (i : Str) : exitD n (.str i) S = some (.str i, S.take n) := by simp [exitD, packD]
theorem exit_lst (n : Nat) (ds : List D) (h : bnds n ds = true) : exitD n (.lst ds) S = some (.lst ds, S.take n) := by simp [exitD, packD, h]
@[simp] theorem exit_il (n : Nat) (ns : List Int) : exitD n (.lst (il ns)) S = some (.lst (il ns), S.take n) := exit_lst n _ (bnds_il n ns)
theorem exit_box (j : Nat) {ns : List Int} (h : T[j]? = some (.live (il ns))) : exitD S.length (.box (S.length + j)) (S ++ T) = some (.fre (il ns), S) := by
  have hp : packD 8 S.length (.box (S.length + j)) (S ++ T) = some (.fre (il ns), (S ++ T).set (S.length + j) .dead) := by
    rw [packD]
    rw [if_neg (by omega)]
    have e : (S ++ T)[S.length + j]? = some (.live (il ns)) := by
      rw [List.getElem?_append_right (by omega)]
      simpa using h
    rw [e]
    simp only [pack_il]
  unfold exitD
  rw [hp]
  simp only [bnd_fre, bnds_il, if_true]
  rw [List.set_append_right _ _ (by omega), List.take_left']
  rfl
@[simp] theorem exit_box0 {ns : List Int} {T : Store} : exitD S.length (.box S.length) (S ++ .live (il ns) :: T) = some (.fre (il ns), S) := exit_box (T := .live (il ns) :: T) 0 rfl
@[simp] theorem exit_box00 {T : Store} : exitD S.length (.box S.length) (S ++ .live [] :: T) = some (.fre [], S) := exit_box0 (ns := [])
@[simp] theorem take_len : (S ++ T).take S.length = S := List.take_left' rfl
@[simp] theorem take_len0 : S.take S.length = S := List.take_length
@[simp] theorem app_get0 {α : Type} (S T : List α) : (S ++ T)[S.length]? = T[0]? := by
  rw [List.getElem?_append_right (Nat.le_refl _), Nat.sub_self]
@[simp] theorem app_get {α : Type} (S T : List α) (j : Nat) : (S ++ T)[S.length + j]? = T[j]? := by
  rw [List.getElem?_append_right (by omega), Nat.add_sub_cancel_left]
@[simp] theorem app_set0 {α : Type} (S T : List α) (x : α) : (S ++ T).set S.length x = S ++ T.set 0 x := by
  rw [List.set_append_right _ _ (Nat.le_refl _), Nat.sub_self]
@[simp] theorem app_set {α : Type} (S T : List α) (j : Nat) (x : α) : (S ++ T).set (S.length + j) x = S ++ T.set j x := by
  rw [List.set_append_right _ _ (by omega), Nat.add_sub_cancel_left]
theorem getBox_live {i : Nat} {ds : List D} (h : S[i]? = some (.live ds)) : getBox S i = some ds := by
  unfold getBox
  rw [h]
@[simp] theorem getBox0 (ds : List D) (T : Store) : getBox (S ++ .live ds :: T) S.length = some ds := getBox_live (by rw [app_get0]; rfl)
theorem setIx_live {b : Nat} {ds : List D} {k : Int} {y : D} {j : Nat} (h : S[b]? = some (.live ds)) (hk : k = (j : Int)) (hj : j < ds.length) (hy : bnd 0 y = true) : setIxD S (.box b) (.int k) y = some (S.set b (.live (ds.set j y))) := by
  have e : ixN ds.length k = some j := by
    unfold ixN
    rw [if_pos (by omega), if_pos (by omega), hk, Int.toNat_natCast]
  unfold setIxD
  simp only [h, e, hy, if_true]
theorem seqK_ok' {d : D} {k : Wk} (h : seqK S d = some k) : okW S k = true := by
  unfold seqK at h
  split at h
  · cases h; rfl
  · split at h
    · cases h; rfl
    · rename_i i ds e
      cases h
      simp only [okW, e]
      exact eqBs_rfl _
    · cases h
  · cases h; rfl
  · cases h; rfl
  · cases h
/-! ### calls -/
theorem callK_f {fs : Nat → Option FD} {M k f : Nat} {ds : List D} {S : Store} {fd : FD} (h : fs f = some fd) : callK fs M (k + 1) f ds S = runF (callK fs M k) M fd ds S := by
  show (match fs f with
    | some fd => runF (callK fs M k) M fd ds S
    | none => none) = _
  rw [h]
/-! ### loops -/
theorem compL_map {wk : Wk} {step : D → Store → Option (Option D × Store)} (g : D → Option D) {ds : List D} (hw : okW S wk = true) (h : ∀ d ∈ ds, step d S = some (g d, S)) : compL wk step ds S = some (ds.filterMap g, S) := by
  induction ds with
  | nil => rfl
  | cons d r ih =>
    rw [compL, h d List.mem_cons_self]
    simp only [hw, if_true, ih fun x hx => h x (List.mem_cons_of_mem _ hx), List.filterMap_cons]
    cases g d <;> rfl
theorem compL_all {wk : Wk} {step : D → Store → Option (Option D × Store)} (g : D → D) {ds : List D} (hw : okW S wk = true) (h : ∀ d ∈ ds, step d S = some (some (g d), S)) : compL wk step ds S = some (ds.map g, S) := by
  rw [compL_map (fun d => some (g d)) hw h]
  simp
theorem forL_inv {wk : Wk} {b : D → Env → Store → Option (Flow' × Env × Store)} (P : Nat → Env → Store → Prop) : ∀ (ds : List D) (n : Nat), (∀ i d ρ S, ds[i]? = some d → P (n + i) ρ S → ∃ ρ1 S1, b d ρ S = some (.nx, ρ1, S1) ∧ okW S1 wk = true ∧ P (n + i + 1) ρ1 S1) →
    ∀ ρ S, P n ρ S → ∃ ρ1 S1, forL wk b ds ρ S = some (.nx, ρ1, S1) ∧ P (n + ds.length) ρ1 S1
  | [], n, _, ρ, S, h => ⟨ρ, S, rfl, h⟩
  | d :: ds, n, hs, ρ, S, h => by
    obtain ⟨ρ1, S1, e, hw, h1⟩ := hs 0 d ρ S rfl h
    obtain ⟨ρ2, S2, e2, h2⟩ := forL_inv P ds (n + 1) (fun i d' ρ' S' hd hp => by
      have := hs (i + 1) d' ρ' S' (by simpa using hd) (by rw [show n + (i + 1) = n + 1 + i by omega]; exact hp)
      rw [show n + (i + 1) + 1 = n + 1 + i + 1 by omega] at this
      exact this) ρ1 S1 h1
    refine ⟨ρ2, S2, ?_, by rw [List.length_cons, show n + (ds.length + 1) = n + 1 + ds.length by omega]; exact h2⟩
    rw [forL, e]
    simp only [hw, if_true, e2]
/-- a loop whose turns are told -/
theorem forL_fold {wk : Wk} {α : Type} (F : D → α → α) (en : α → Env) (st : α → Store) {b : D → Env → Store → Option (Flow' × Env × Store)} : ∀ (ds : List D) (a : α), (∀ d ∈ ds, ∀ a, b d (en a) (st a) = some (.nx, en (F d a), st (F d a))) → (∀ a, okW (st a) wk = true) →
    forL wk b ds (en a) (st a) = some (.nx, en (ds.foldl (fun a d => F d a) a), st (ds.foldl (fun a d => F d a) a))
  | [], a, _, _ => rfl
  | d :: ds, a, h, hw => by
    rw [forL, h d List.mem_cons_self a]
    simp only [hw, if_true]
    rw [forL_fold F en st ds (F d a) (fun x hx => h x (List.mem_cons_of_mem _ hx)) hw]
    rfl
end
end Sw

set_option Elab.async false
set_option linter.all false
set_option maxRecDepth 100000
set_option maxHeartbeats 4000000
namespace Sw
open PySem PySem.Spec PyProof.Rows L2

/-! ### equality of plain data -/
theorem beqI {α : Type} [BEq α] [LawfulBEq α] [DecidableEq α] (a b : α) : (a == b) = decide (a = b) := by
  by_cases h : a = b
  · simp [h]
  · simp [h]
def plain : Nat → D → Bool
  | 0, _ => false
  | _ + 1, .non => true
  | _ + 1, .int _ => true
  | _ + 1, .str x => PyData.strOk x
  | n + 1, .lst ds => ds.all (plain n)
  | n + 1, .tup ds => ds.all (plain n)
  | _ + 1, _ => false
mutual
def pd : D → PyData
  | .int i => .int i
  | .str x => .str x
  | .lst ds => .list (pds ds)
  | .tup ds => .tuple (pds ds)
  | _ => .none
def pds : List D → List PyData
  | [] => []
  | d :: ds => pd d :: pds ds
end
theorem plain_dat {S : Store} : ∀ (n : Nat) (d : D), plain n d = true → dat n S d = some (pd d)
  | 0, d, h => by cases d <;> simp [plain] at h
  | n + 1, d, h => by
    have all : ∀ ds : List D, ds.all (plain n) = true → datA (dat n S) ds = some (pds ds) := fun ds => by
      induction ds with
      | nil =>
        intro _
        simp [datA, pds]
      | cons x r ih =>
        intro h
        rw [List.all_cons, Bool.and_eq_true] at h
        simp [datA, pds, plain_dat n x h.1, ih h.2]
    cases d with
    | non => simp [dat, pd]
    | int i => simp [dat, pd]
    | str x => simp [dat, pd]
    | lst ds =>
      have h : ds.all (plain n) = true := by simpa [plain] using h
      simp [dat, pd, all ds h]
    | tup ds =>
      have h : ds.all (plain n) = true := by simpa [plain] using h
      simp [dat, pd, all ds h]
    | _ => simp [plain] at h
theorem plain_lay : ∀ (n : Nat) (d : D), plain n d = true → (pd d).canLay0 = true ∧ (pd d).depth ≤ n
  | 0, d, h => by cases d <;> simp [plain] at h
  | n + 1, d, h => by
    have all : ∀ ds : List D, ds.all (plain n) = true → PyData.canLayAll0 (pds ds) = true ∧ PyData.depthAll (pds ds) ≤ n := fun ds => by
      induction ds with
      | nil =>
        intro _
        simp [PyData.canLayAll0, PyData.depthAll, pds]
      | cons x r ih =>
        intro h
        rw [List.all_cons, Bool.and_eq_true] at h
        have h1 := plain_lay n x h.1
        have h2 := ih h.2
        simp [PyData.canLayAll0, PyData.depthAll, pds, h1.1, h2.1]
        omega
    cases d with
    | non => simp [PyData.canLay0, PyData.depth, pd]
    | int i => simp [PyData.canLay0, PyData.depth, pd]
    | str x =>
      have h : PyData.strOk x = true := by simpa [plain] using h
      simp [PyData.canLay0, PyData.depth, pd, h]
    | lst ds =>
      have h : ds.all (plain n) = true := by simpa [plain] using h
      have := all ds h
      simp [PyData.canLay0, PyData.depth, pd, this.1]
      omega
    | tup ds =>
      have h : ds.all (plain n) = true := by simpa [plain] using h
      have := all ds h
      simp [PyData.canLay0, PyData.depth, pd, this.1]
      omega
    | _ => simp [plain] at h
theorem plain_shaped {n : Nat} {d : D} (h : plain n d = true) (hn : n ≤ 64) : SeqAt.shaped (pd d) = true := by
  obtain ⟨h1, h2⟩ := plain_lay n d h
  unfold SeqAt.shaped
  rw [h1, Bool.true_and]
  exact decide_eq_true (by omega)
theorem plain_eqv : ∀ (n m : Nat) (d e : D), plain n d = true → plain m e = true → PyData.eqv (pd d) (pd e) = eqB d e
  | 0, m, d, e, h, _ => by cases d <;> simp [plain] at h
  | n + 1, 0, d, e, _, h => by cases e <;> simp [plain] at h
  | n + 1, m + 1, d, e, h, h2 => by
    have all : ∀ ds es : List D, ds.all (plain n) = true → es.all (plain m) = true → PyData.eqvAll (pds ds) (pds es) = eqBs ds es := fun ds => by
      induction ds with
      | nil =>
        intro es _ _
        cases es <;> simp [pds, PyData.eqvAll, eqBs]
      | cons x r ih =>
        intro es h h2
        cases es with
        | nil => simp [pds, PyData.eqvAll, eqBs]
        | cons y t =>
          rw [List.all_cons, Bool.and_eq_true] at h h2
          simp [pds, PyData.eqvAll, eqBs, plain_eqv n m x y h.1 h2.1, ih t h.2 h2.2]
    cases d with
    | non => cases e <;> simp [plain] at h2 <;> simp [pd, PyData.eqv, eqB]
    | int i => cases e <;> simp [plain] at h2 <;> simp [pd, PyData.eqv, eqB, beqI]
    | str x => cases e <;> simp [plain] at h2 <;> simp [pd, PyData.eqv, eqB, beqI]
    | lst ds =>
      have h : ds.all (plain n) = true := by simpa [plain] using h
      cases e with
      | lst es =>
        have h2 : es.all (plain m) = true := by simpa [plain] using h2
        simp [pd, PyData.eqv, eqB, all ds es h h2]
      | _ => simp [plain] at h2 <;> simp [pd, PyData.eqv, eqB]
    | tup ds =>
      have h : ds.all (plain n) = true := by simpa [plain] using h
      cases e with
      | tup es =>
        have h2 : es.all (plain m) = true := by simpa [plain] using h2
        simp [pd, PyData.eqv, eqB, all ds es h h2]
      | _ => simp [plain] at h2 <;> simp [pd, PyData.eqv, eqB]
    | _ => simp [plain] at h
theorem eqD_plain {S : Store} {a b : D} (ha : plain 16 a = true) (hb : plain 16 b = true) : eqD S a b = some (decide (a = b)) := by
  unfold eqD
  rw [plain_dat 16 a ha, plain_dat 16 b hb]
  simp only [plain_shaped ha (by decide), plain_shaped hb (by decide), plain_eqv 16 16 a b ha hb, eqB_dec, and_self, if_true]
@[simp] theorem plain_int (n : Nat) (i : Int) : plain (n + 1) (.int i) = true := rfl
@[simp] theorem plain_non (n : Nat) : plain (n + 1) .non = true := rfl
@[simp] theorem plain_il (n : Nat) (ns : List Int) : plain (n + 2) (.lst (il ns)) = true := by
  simp only [plain, List.all_eq_true]
  intro d hd
  obtain ⟨i, rfl⟩ := mem_il hd
  rfl
@[simp] theorem plain_lst (n : Nat) (ds : List D) : plain (n + 1) (.lst ds) = ds.all (plain n) := by simp only [plain]
@[simp] theorem plain_tup (n : Nat) (ds : List D) : plain (n + 1) (.tup ds) = ds.all (plain n) := by simp only [plain]
@[simp] theorem plain_mem_il (n : Nat) (f : List Int) : (∀ x, x ∈ il f → plain (n + 1) x = true) ↔ True := ⟨fun _ => trivial, fun _ x hx => by
  obtain ⟨i, rfl⟩ := mem_il hx
  rfl⟩
@[simp] theorem eqD_int {S : Store} (i j : Int) : eqD S (.int i) (.int j) = some (decide (i = j)) := by
  rw [eqD_plain rfl rfl]
  simp
@[simp] theorem eqD_il {S : Store} (a b : List Int) : eqD S (.lst (il a)) (.lst (il b)) = some (decide (a = b)) := by
  rw [eqD_plain (plain_il 14 a) (plain_il 14 b)]
  congr 1
  refine decide_eq_decide.mpr ⟨fun h => ?_, fun h => by rw [h]⟩
  exact il_inj (D.lst.inj h)
theorem eqD_box {S : Store} {i : Nat} {ds : List D} {b : D} (h : getBox S i = some ds) : eqD S (.box i) b = eqD S (.lst ds) b := by
  unfold eqD
  rw [show dat 16 S (.box i) = dat 16 S (.lst ds) by simp [dat, h]]
end Sw

set_option Elab.async false
set_option linter.all false
set_option maxRecDepth 100000
set_option maxHeartbeats 4000000
namespace Sw

/-! ### numbers modulo p -/
def eqm (p x y : Int) : Prop := ∃ t, x = y + p * t
section
variable {p x y z u v : Int}
theorem eqm.refl (p x : Int) : eqm p x x := ⟨0, by grind⟩
theorem eqm.symm (h : eqm p x y) : eqm p y x := let ⟨t, e⟩ := h; ⟨-t, by grind⟩
theorem eqm.trans (h : eqm p x y) (h2 : eqm p y z) : eqm p x z := let ⟨t, e⟩ := h; let ⟨s, e2⟩ := h2; ⟨t + s, by grind⟩
theorem eqm.add (h : eqm p x y) (h2 : eqm p u v) : eqm p (x + u) (y + v) := let ⟨t, e⟩ := h; let ⟨s, e2⟩ := h2; ⟨t + s, by grind⟩
theorem eqm.sub (h : eqm p x y) (h2 : eqm p u v) : eqm p (x - u) (y - v) := let ⟨t, e⟩ := h; let ⟨s, e2⟩ := h2; ⟨t - s, by grind⟩
theorem eqm.mul (h : eqm p x y) (h2 : eqm p u v) : eqm p (x * u) (y * v) := let ⟨t, e⟩ := h; let ⟨s, e2⟩ := h2; ⟨t * v + y * s + p * t * s, by grind⟩
theorem eqm.of_eq (h : x = y) : eqm p x y := ⟨0, by grind⟩
theorem eqm.emod (p x : Int) : eqm p (x % p) x := ⟨-(x / p), by have := Int.emod_add_mul_ediv x p; grind⟩
theorem eqm_iff : eqm p x y ↔ x % p = y % p := by
  constructor
  · rintro ⟨t, rfl⟩
    rw [Int.add_mul_emod_self_left]
  · intro h
    exact ((eqm.emod p x).symm.trans (.of_eq h)).trans (eqm.emod p y)
theorem eqm_small (h : eqm p x y) (hx : 0 ≤ x ∧ x < p) (hy : 0 ≤ y ∧ y < p) : x = y := by
  have := eqm_iff.mp h
  rw [Int.emod_eq_of_lt hx.1 hx.2, Int.emod_eq_of_lt hy.1 hy.2] at this
  exact this
end
/-! ### sums -/
def sumN : Nat → (Nat → Int) → Int
  | 0, _ => 0
  | n + 1, h => h 0 + sumN n fun j => h (j + 1)
theorem sumN_congr : ∀ {n : Nat} {f g : Nat → Int}, (∀ j, j < n → f j = g j) → sumN n f = sumN n g
  | 0, _, _, _ => rfl
  | n + 1, f, g, h => by
    show f 0 + _ = g 0 + _
    rw [h 0 (by omega), sumN_congr fun j hj => h (j + 1) (by omega)]
theorem sumN_eqm {p : Int} : ∀ {n : Nat} {f g : Nat → Int}, (∀ j, j < n → eqm p (f j) (g j)) → eqm p (sumN n f) (sumN n g)
  | 0, _, _, _ => .refl _ _
  | n + 1, f, g, h => (h 0 (by omega)).add (sumN_eqm fun j hj => h (j + 1) (by omega))
theorem sumN_add : ∀ (n : Nat) (f g : Nat → Int), sumN n (fun j => f j + g j) = sumN n f + sumN n g
  | 0, _, _ => rfl
  | n + 1, f, g => by
    show (f 0 + g 0) + sumN n (fun j => f (j + 1) + g (j + 1)) = (f 0 + sumN n fun j => f (j + 1)) + (g 0 + sumN n fun j => g (j + 1))
    rw [sumN_add n (fun j => f (j + 1)) fun j => g (j + 1)]
    omega
theorem sumN_mul (a : Int) : ∀ (n : Nat) (f : Nat → Int), sumN n (fun j => a * f j) = a * sumN n f
  | 0, _ => by simp [sumN]
  | n + 1, f => by
    show a * f 0 + sumN n (fun j => a * f (j + 1)) = a * (f 0 + sumN n fun j => f (j + 1))
    rw [sumN_mul a n fun j => f (j + 1), Int.mul_add]
theorem sumN_zero : ∀ (n : Nat), sumN n (fun _ => 0) = 0
  | 0 => rfl
  | n + 1 => by
    show 0 + sumN n (fun _ => 0) = 0
    rw [sumN_zero n]
    rfl
theorem sumN_last : ∀ (n : Nat) (f : Nat → Int), sumN (n + 1) f = sumN n f + f n
  | 0, f => by
    show f 0 + 0 = 0 + f 0
    omega
  | n + 1, f => by
    show f 0 + sumN (n + 1) (fun j => f (j + 1)) = (f 0 + sumN n fun j => f (j + 1)) + f (n + 1)
    rw [sumN_last n fun j => f (j + 1)]
    omega
theorem sumN_rev : ∀ (n : Nat) (f : Nat → Int), sumN n f = sumN n fun j => f (n - 1 - j)
  | 0, _ => rfl
  | n + 1, f => by
    rw [sumN_last]
    show _ = f (n + 1 - 1 - 0) + sumN n fun j => f (n + 1 - 1 - (j + 1))
    rw [sumN_rev n f, show n + 1 - 1 - 0 = n by omega, Int.add_comm]
    congr 1
    exact sumN_congr fun j hj => by rw [show n - 1 - j = n + 1 - 1 - (j + 1) by omega]
/-- all but one are nothing, modulo p -/
theorem sumN_single {p : Int} {n : Nat} {f : Nat → Int} {i : Nat} (hi : i < n) (h : ∀ j, j < n → j ≠ i → eqm p (f j) 0) : eqm p (sumN n f) (f i) := by
  have : ∀ (n : Nat) (f : Nat → Int) (i : Nat), i < n → (∀ j, j < n → j ≠ i → eqm p (f j) 0) → eqm p (sumN n f) (f i) := by
    intro n
    induction n with
    | zero => intro f i hi; omega
    | succ n ih =>
      intro f i hi h
      cases i with
      | zero =>
        have e : eqm p (sumN n fun j => f (j + 1)) 0 := by
          have := sumN_eqm (p := p) (n := n) (f := fun j => f (j + 1)) (g := fun _ => 0) fun j hj => h (j + 1) (by omega) (by omega)
          rwa [sumN_zero] at this
        have := (eqm.refl p (f 0)).add e
        rw [Int.add_zero] at this
        exact this
      | succ i =>
        have e := ih (fun j => f (j + 1)) i (by omega) fun j hj hne => h (j + 1) (by omega) (by omega)
        have := (h 0 (by omega) (by omega)).add e
        rw [Int.zero_add] at this
        exact this
  exact this n f i hi h
/-! ### streams of coefficients -/
def conv (F G : Nat → Int) (k : Nat) : Int := sumN (k + 1) fun j => F j * G (k - j)
def shift (F : Nat → Int) : Nat → Int
  | 0 => 0
  | k + 1 => F k
section
variable {p : Int} {F F' G G' H : Nat → Int} {k : Nat}
theorem conv_comm (F G : Nat → Int) (k : Nat) : conv F G k = conv G F k := by
  unfold conv
  rw [sumN_rev]
  refine sumN_congr fun j hj => ?_
  rw [show k + 1 - 1 - j = k - j by omega, show k - (k - j) = j by omega, Int.mul_comm]
theorem conv_add_left (F F' G : Nat → Int) (k : Nat) : conv (fun j => F j + F' j) G k = conv F G k + conv F' G k := by
  unfold conv
  rw [← sumN_add]
  exact sumN_congr fun j _ => by rw [Int.add_mul]
theorem conv_add_right (F G G' : Nat → Int) (k : Nat) : conv F (fun j => G j + G' j) k = conv F G k + conv F G' k := by
  rw [conv_comm, conv_add_left, conv_comm G, conv_comm G']
theorem conv_mul_left (a : Int) (F G : Nat → Int) (k : Nat) : conv (fun j => a * F j) G k = a * conv F G k := by
  unfold conv
  rw [← sumN_mul]
  exact sumN_congr fun j _ => by rw [Int.mul_assoc]
theorem conv_mul_right (a : Int) (F G : Nat → Int) (k : Nat) : conv F (fun j => a * G j) k = a * conv F G k := by
  rw [conv_comm, conv_mul_left, conv_comm G]
theorem conv_congr (h1 : ∀ j, j ≤ k → F j = F' j) (h2 : ∀ j, j ≤ k → G j = G' j) : conv F G k = conv F' G' k :=
  sumN_congr fun j hj => by rw [h1 j (by omega), h2 (k - j) (by omega)]
theorem conv_eqm (h1 : ∀ j, eqm p (F j) (F' j)) (h2 : ∀ j, eqm p (G j) (G' j)) : eqm p (conv F G k) (conv F' G' k) :=
  sumN_eqm fun j _ => (h1 j).mul (h2 (k - j))
theorem conv_zero_left (G : Nat → Int) (k : Nat) : conv (fun _ => 0) G k = 0 := by
  exact (sumN_congr (g := fun _ => 0) fun j _ => Int.zero_mul _).trans (sumN_zero _)
theorem conv_shift_left (F G : Nat → Int) (k : Nat) : conv (shift F) G k = shift (conv F G) k := by
  cases k with
  | zero =>
    show 0 * G 0 + 0 = 0
    omega
  | succ k =>
    show (0 : Int) * G (k + 1) + sumN (k + 1) (fun j => F j * G (k + 1 - (j + 1))) = sumN (k + 1) fun j => F j * G (k - j)
    rw [Int.zero_mul, Int.zero_add]
    exact sumN_congr fun j _ => by rw [show k + 1 - (j + 1) = k - j by omega]
theorem conv_top {n m : Nat} (h1 : ∀ j, n < j → eqm p (F j) 0) (h2 : ∀ i, m < i → eqm p (G i) 0) : eqm p (conv F G (n + m)) (F n * G m) := by
  have := sumN_single (p := p) (n := n + m + 1) (f := fun j => F j * G (n + m - j)) (i := n) (by omega) fun j hj hne => by
    rcases Nat.lt_or_gt_of_ne hne with h | h
    · have := (eqm.refl p (F j)).mul (h2 (n + m - j) (by omega))
      rwa [Int.mul_zero] at this
    · have := (h1 j h).mul (eqm.refl p (G (n + m - j)))
      rwa [Int.zero_mul] at this
  rw [show n + m - n = m by omega] at this
  exact this
theorem conv_beyond {n m k : Nat} (h1 : ∀ j, n ≤ j → F j = 0) (h2 : ∀ i, m ≤ i → G i = 0) (hk : n + m ≤ k + 1) : conv F G k = 0 := by
  unfold conv
  rw [← sumN_zero (k + 1)]
  refine sumN_congr fun j hj => ?_
  by_cases h : n ≤ j
  · rw [h1 j h, Int.zero_mul]
  · rw [h2 (k - j) (by omega), Int.mul_zero]
end
/-! ### lists of coefficients -/
def cf (f : List Int) (k : Nat) : Int := f.getD k 0
@[simp] theorem cf_nil (k : Nat) : cf [] k = 0 := rfl
@[simp] theorem cf_zero (x : Int) (f : List Int) : cf (x :: f) 0 = x := rfl
@[simp] theorem cf_succ (x : Int) (f : List Int) (k : Nat) : cf (x :: f) (k + 1) = cf f k := rfl
theorem cf_get {f : List Int} {k : Nat} {x : Int} (h : f[k]? = some x) : cf f k = x := by
  unfold cf
  rw [List.getD_eq_getElem?_getD, h]
  rfl
theorem cf_some {f : List Int} {k : Nat} (h : k < f.length) : f[k]? = some (cf f k) := by
  rw [List.getElem?_eq_getElem h, cf_get (List.getElem?_eq_getElem h)]
theorem cf_out {f : List Int} {k : Nat} (h : f.length ≤ k) : cf f k = 0 := by
  unfold cf
  rw [List.getD_eq_getElem?_getD, List.getElem?_eq_none h]
  rfl
theorem cf_cons (x : Int) (f : List Int) (k : Nat) : cf (x :: f) k = (if k = 0 then x else 0) + shift (cf f) k := by
  cases k with
  | zero => simp [shift]
  | succ k => simp [shift]
theorem cf_range (L : Nat) (F : Nat → Int) (k : Nat) : cf ((List.range L).map F) k = if k < L then F k else 0 := by
  by_cases h : k < L
  · rw [if_pos h]
    exact cf_get (by rw [List.getElem?_map, List.getElem?_range h]; rfl)
  · rw [if_neg h]
    exact cf_out (by simpa using h)
theorem conv_assoc (f : List Int) (G H : Nat → Int) : ∀ k, conv (conv (cf f) G) H k = conv (cf f) (conv G H) k := by
  induction f with
  | nil =>
    intro k
    have e : ∀ (X : Nat → Int) (k : Nat), conv (cf []) X k = 0 := fun X k => conv_zero_left X k
    rw [e]
    exact (conv_congr (fun j _ => e G j) fun _ _ => rfl).trans (conv_zero_left H k)
  | cons a f ih =>
    have e : ∀ (X : Nat → Int) (k : Nat), conv (cf (a :: f)) X k = a * X k + shift (conv (cf f) X) k := fun X k => by
      rw [← conv_shift_left]
      cases k with
      | zero =>
        show a * X 0 + 0 = a * X 0 + (0 * X 0 + 0)
        omega
      | succ k =>
        show a * X (k + 1) + sumN (k + 1) (fun j => cf f j * X (k + 1 - (j + 1))) = a * X (k + 1) + (0 * X (k + 1) + sumN (k + 1) fun j => cf f j * X (k + 1 - (j + 1)))
        omega
    intro k
    rw [e]
    have h1 : conv (conv (cf (a :: f)) G) H k = conv (fun j => a * G j + shift (conv (cf f) G) j) H k := conv_congr (fun j _ => e G j) fun _ _ => rfl
    rw [h1, conv_add_left, conv_mul_left, conv_shift_left]
    congr 1
    cases k with
    | zero => rfl
    | succ k => exact ih k
/-! ### no noughts at the end -/
def trim : List Int → List Int
  | [] => []
  | x :: xs => if trim xs = [] ∧ x = 0 then [] else x :: trim xs
def Tr (f : List Int) : Prop := ∀ x, f.getLast? = some x → x ≠ 0
theorem cf_trim : ∀ (f : List Int) (k : Nat), cf (trim f) k = cf f k
  | [], k => rfl
  | x :: xs, k => by
    unfold trim
    split
    · rename_i h
      cases k with
      | zero => simp [h.2]
      | succ k =>
        rw [cf_succ, ← cf_trim xs k, h.1]
        rfl
    · cases k with
      | zero => rfl
      | succ k => exact cf_trim xs k
theorem trim_len : ∀ f : List Int, (trim f).length ≤ f.length
  | [] => Nat.le_refl _
  | x :: xs => by
    unfold trim
    split
    · exact Nat.zero_le _
    · exact Nat.succ_le_succ (trim_len xs)
theorem trim_tr : ∀ f : List Int, Tr (trim f)
  | [] => fun x h => nomatch h
  | x :: xs => by
    unfold trim
    split
    · exact fun x h => nomatch h
    · rename_i h
      intro y hy
      cases e : trim xs with
      | nil =>
        rw [e] at hy
        have : x = y := Option.some.inj hy
        rw [← this]
        exact fun z => h ⟨e, z⟩
      | cons a t =>
        rw [e, List.getLast?_cons_cons] at hy
        exact trim_tr xs y (by rw [e]; exact hy)
theorem last_cf {f : List Int} (h : f ≠ []) : f.getLast? = some (cf f (f.length - 1)) := by
  have := List.length_pos_iff.mpr h
  rw [List.getLast?_eq_getElem?]
  exact cf_some (by omega)
theorem Tr.top {f : List Int} (h : Tr f) (hn : f ≠ []) : cf f (f.length - 1) ≠ 0 := h _ (last_cf hn)
theorem tr_len {f : List Int} (h : Tr f) {n : Nat} (hz : ∀ k, n ≤ k → cf f k = 0) : f.length ≤ n := by
  by_cases hn : f = []
  · rw [hn]
    exact Nat.zero_le _
  · have := List.length_pos_iff.mpr hn
    by_cases hl : f.length ≤ n
    · exact hl
    · exact absurd (hz (f.length - 1) (by omega)) (h.top hn)
theorem tr_ext {f g : List Int} (hf : Tr f) (hg : Tr g) (h : ∀ k, cf f k = cf g k) : f = g := by
  have l1 : f.length ≤ g.length := tr_len hf fun k hk => by rw [h]; exact cf_out hk
  have l2 : g.length ≤ f.length := tr_len hg fun k hk => by rw [← h]; exact cf_out hk
  refine List.ext_getElem? fun k => ?_
  by_cases hk : k < f.length
  · rw [cf_some hk, cf_some (by omega), h]
  · rw [List.getElem?_eq_none (by omega), List.getElem?_eq_none (by omega)]
theorem trim_id {f : List Int} (h : Tr f) : trim f = f := tr_ext (trim_tr f) h (cf_trim f)
theorem tr_nil : Tr [] := fun _ h => nomatch h
/-- the entries of a field -/
def Rng (p : Int) (f : List Int) : Prop := ∀ x ∈ f, 0 ≤ x ∧ x < p
theorem Rng.cf {p : Int} {f : List Int} (h : Rng p f) (hp : 0 < p) (k : Nat) : 0 ≤ cf f k ∧ cf f k < p := by
  by_cases hk : k < f.length
  · exact h _ (List.mem_of_getElem? (cf_some hk))
  · rw [cf_out (by omega)]
    omega
theorem rng_of {p : Int} {f : List Int} (h : ∀ k, k < f.length → 0 ≤ Sw.cf f k ∧ Sw.cf f k < p) : Rng p f := fun x hx => by
  obtain ⟨k, hk⟩ := List.mem_iff_getElem?.mp hx
  have := (List.getElem?_eq_some_iff.mp hk).1
  rw [← cf_get hk]
  exact h k this
theorem trim_mem : ∀ {f : List Int} {x : Int}, x ∈ trim f → x ∈ f
  | [], x, h => h
  | y :: ys, x, h => by
    unfold trim at h
    split at h
    · cases h
    · rcases List.mem_cons.mp h with e | e
      · rw [e]
        exact List.mem_cons_self
      · exact List.mem_cons_of_mem _ (trim_mem e)
theorem Rng.trim {p : Int} {f : List Int} (h : Rng p f) : Rng p (trim f) := fun x hx => h x (trim_mem hx)
structure Po (p : Int) (f : List Int) : Prop where
  tr : Tr f
  rng : Rng p f
theorem po_nil {p : Int} : Po p [] := ⟨tr_nil, fun _ h => nomatch h⟩
/-- the polynomial of a stream that is nothing from L on -/
def pol (p : Int) (L : Nat) (F : Nat → Int) : List Int := trim ((List.range L).map fun k => F k % p)
section
variable {p : Int} {L L' : Nat} {F F' : Nat → Int}
theorem pol_po (hp : 0 < p) : Po p (pol p L F) := ⟨trim_tr _, Rng.trim fun x hx => by
  obtain ⟨k, _, rfl⟩ := List.mem_map.mp hx
  exact ⟨Int.emod_nonneg _ (by omega), Int.emod_lt_of_pos _ hp⟩⟩
theorem pol_cf (k : Nat) : cf (pol p L F) k = if k < L then F k % p else 0 := by
  unfold pol
  rw [cf_trim, cf_range]
theorem pol_cf' (h : ∀ k, L ≤ k → eqm p (F k) 0) (k : Nat) : cf (pol p L F) k = F k % p := by
  rw [pol_cf]
  split
  · rfl
  · rw [eqm_iff.mp (h k (by omega)), Int.zero_emod]
theorem pol_eqm (h : ∀ k, L ≤ k → eqm p (F k) 0) (k : Nat) : eqm p (cf (pol p L F) k) (F k) := by
  rw [pol_cf' h]
  exact .emod _ _
theorem po_ext {f g : List Int} (hp : 0 < p) (hf : Po p f) (hg : Po p g) (h : ∀ k, eqm p (cf f k) (cf g k)) : f = g :=
  tr_ext hf.tr hg.tr fun k => eqm_small (h k) (hf.rng.cf hp k) (hg.rng.cf hp k)
theorem pol_of (hp : 0 < p) {f : List Int} (hf : Po p f) (hL : ∀ k, L ≤ k → eqm p (F k) 0) (h : ∀ k, eqm p (F k) (cf f k)) : pol p L F = f :=
  po_ext hp (pol_po hp) hf fun k => (pol_eqm hL k).trans (h k)
theorem pol_len : (pol p L F).length ≤ L := by
  have := trim_len ((List.range L).map fun k => F k % p)
  simpa [pol] using this
theorem pol_congr (hL : ∀ k, L ≤ k → eqm p (F k) 0) (hL' : ∀ k, L' ≤ k → eqm p (F' k) 0) (h : ∀ k, eqm p (F k) (F' k)) : pol p L F = pol p L' F' :=
  tr_ext (trim_tr _) (trim_tr _) fun k => by
    rw [pol_cf' hL, pol_cf' hL']
    exact eqm_iff.mp (h k)
theorem Po.top {f : List Int} (h : Po p f) (hp : 0 < p) (hn : f ≠ []) : ¬ eqm p (cf f (f.length - 1)) 0 := fun e => by
  have := eqm_small e (h.rng.cf hp _) ⟨Int.le_refl _, hp⟩
  exact h.tr.top hn this
end
end Sw

set_option Elab.async false
set_option linter.all false
set_option maxRecDepth 100000
set_option maxHeartbeats 4000000
namespace Sw
/-! ### fields -/
/-- what is asked of p -/
structure Fld (p : Int) : Prop where
  pos : 1 < p
  dom : ∀ x y : Int, eqm p (x * y) 0 → eqm p x 0 ∨ eqm p y 0
  inv : ∀ x : Int, ¬ eqm p x 0 → ∃ y, eqm p (x * y) 1
section
variable {p : Int}
theorem Fld.p0 (F : Fld p) : 0 < p := by have := F.pos; omega
theorem Fld.one (F : Fld p) : ¬ eqm p 1 0 := fun e => by
  have := eqm_small e ⟨by omega, F.pos⟩ ⟨Int.le_refl _, F.p0⟩
  omega
theorem Fld.cancel (F : Fld p) {a x y : Int} (ha : ¬ eqm p a 0) (h : eqm p (a * x) (a * y)) : eqm p x y := by
  have : eqm p (a * (x - y)) 0 := by
    obtain ⟨t, e⟩ := h
    exact ⟨t, by grind⟩
  rcases F.dom _ _ this with h | h
  · exact absurd h ha
  · obtain ⟨t, e⟩ := h
    exact ⟨t, by grind⟩
theorem fld_of (p : Int) (hp : 1 < p) (h : ∀ x : Int, 0 < x → x < p → ∃ y, (x * y) % p = 1) : Fld p := by
  have inv : ∀ x : Int, ¬ eqm p x 0 → ∃ y, eqm p (x * y) 1 := fun x hx => by
    have h0 : x % p ≠ 0 := fun e => hx (eqm_iff.mpr (by rw [e, Int.zero_emod]))
    have h1 := Int.emod_nonneg x (show p ≠ 0 by omega)
    have h2 := Int.emod_lt_of_pos x (show 0 < p by omega)
    obtain ⟨y, hy⟩ := h (x % p) (by omega) h2
    refine ⟨y, ((eqm.emod p x).symm.mul (.refl p y)).trans (eqm_iff.mpr ?_)⟩
    rw [hy, Int.emod_eq_of_lt (by omega) hp]
  refine ⟨hp, fun x y h => ?_, inv⟩
  by_cases hx : eqm p x 0
  · exact .inl hx
  · obtain ⟨z, hz⟩ := inv x hx
    refine .inr ?_
    have h1 : eqm p (z * (x * y)) 0 := by
      have := (eqm.refl p z).mul h
      rwa [Int.mul_zero] at this
    have h2 : eqm p (z * (x * y)) y := by
      obtain ⟨t, e⟩ := hz
      exact ⟨t * y, by grind⟩
    exact h2.symm.trans h1
theorem fld2 : Fld 2 := fld_of 2 (by decide) fun x h1 h2 => ⟨1, by omega⟩
theorem fld3 : Fld 3 := fld_of 3 (by decide) fun x h1 h2 => ⟨x, by
  have : x = 1 ∨ x = 2 := by omega
  rcases this with rfl | rfl <;> decide⟩
theorem fld5 : Fld 5 := fld_of 5 (by decide) fun x h1 h2 => by
  have : x = 1 ∨ x = 2 ∨ x = 3 ∨ x = 4 := by omega
  rcases this with rfl | rfl | rfl | rfl
  · exact ⟨1, by decide⟩
  · exact ⟨3, by decide⟩
  · exact ⟨2, by decide⟩
  · exact ⟨4, by decide⟩
theorem fld7 : Fld 7 := fld_of 7 (by decide) fun x h1 h2 => by
  have : x = 1 ∨ x = 2 ∨ x = 3 ∨ x = 4 ∨ x = 5 ∨ x = 6 := by omega
  rcases this with rfl | rfl | rfl | rfl | rfl | rfl
  · exact ⟨1, by decide⟩
  · exact ⟨4, by decide⟩
  · exact ⟨5, by decide⟩
  · exact ⟨2, by decide⟩
  · exact ⟨3, by decide⟩
  · exact ⟨6, by decide⟩
/-! ### the operations -/
def padd (p : Int) (f g : List Int) : List Int := pol p (max f.length g.length) fun k => cf f k + cf g k
def psub (p : Int) (f g : List Int) : List Int := pol p (max f.length g.length) fun k => cf f k - cf g k
def pmul (p : Int) (f g : List Int) : List Int := pol p (f.length + g.length) (conv (cf f) (cf g))
def pby (p : Int) (f : List Int) (a : Int) : List Int := pol p f.length fun k => cf f k * a
theorem cf_conv_out {f g : List Int} {k : Nat} (h : f.length + g.length ≤ k + 1) : conv (cf f) (cf g) k = 0 :=
  conv_beyond (fun _ h => cf_out h) (fun _ h => cf_out h) h
theorem padd_cf (p : Int) (f g : List Int) (k : Nat) : eqm p (cf (padd p f g) k) (cf f k + cf g k) :=
  pol_eqm (fun k hk => by rw [cf_out (by omega), cf_out (by omega)]; exact .refl _ _) k
theorem psub_cf (p : Int) (f g : List Int) (k : Nat) : eqm p (cf (psub p f g) k) (cf f k - cf g k) :=
  pol_eqm (fun k hk => by rw [cf_out (by omega), cf_out (by omega)]; exact .refl _ _) k
theorem pmul_cf (p : Int) (f g : List Int) (k : Nat) : eqm p (cf (pmul p f g) k) (conv (cf f) (cf g) k) :=
  pol_eqm (fun k hk => by rw [cf_conv_out (by omega)]; exact .refl _ _) k
theorem pby_cf (p : Int) (f : List Int) (a : Int) (k : Nat) : eqm p (cf (pby p f a) k) (cf f k * a) :=
  pol_eqm (fun k hk => by rw [cf_out (by omega), Int.zero_mul]; exact .refl _ _) k
/-- h (f + g) = h f + h g -/
theorem pmul_padd (hp : 0 < p) (h f g : List Int) : pmul p h (padd p f g) = padd p (pmul p h f) (pmul p h g) := by
  refine po_ext hp (pol_po hp) (pol_po hp) fun k => ?_
  refine (pmul_cf p _ _ k).trans (.trans ?_ (padd_cf p _ _ k).symm)
  refine .trans ?_ ((pmul_cf p h f k).add (pmul_cf p h g k)).symm
  rw [← conv_add_right]
  exact conv_eqm (fun _ => .refl _ _) (padd_cf p f g)
/-! ### division -/
structure IsDiv (p : Int) (f g q r : List Int) : Prop where
  pq : Po p q
  pr : Po p r
  lt : r.length < g.length
  eq : ∀ k, eqm p (conv (cf q) (cf g) k + cf r k) (cf f k)
theorem conv_nil (F : Nat → Int) (hF : Fld p) {g : List Int} (hg : Po p g) (hn : g ≠ []) {L : Nat} (hL : ∀ j, L ≤ j → eqm p (F j) 0)
    (h : ∀ k, g.length ≤ k + 1 → eqm p (conv F (cf g) k) 0) (j : Nat) : eqm p (F j) 0 := by
  have hl := List.length_pos_iff.mpr hn
  have : ∀ n j, L ≤ j + n → eqm p (F j) 0 := by
    intro n
    induction n with
    | zero => intro j hj; exact hL j hj
    | succ n ih =>
      intro j hj
      have t := conv_top (p := p) (F := F) (G := cf g) (n := j) (m := g.length - 1) (fun i hi => ih i (by omega)) (fun i hi => by rw [cf_out (by omega)]; exact .refl _ _)
      have := t.symm.trans (h _ (by omega))
      rcases hF.dom _ _ this with e | e
      · exact e
      · exact absurd e (hg.top hF.p0 hn)
  exact this L j (by omega)
theorem div_unique (hF : Fld p) {f g q r q' r' : List Int} (hg : Po p g) (h : IsDiv p f g q r) (h' : IsDiv p f g q' r') : q = q' ∧ r = r' := by
  have hn : g ≠ [] := fun e => by
    have := h.lt
    rw [e] at this
    exact absurd this (Nat.not_lt_zero _)
  have key : ∀ k, eqm p (conv (fun j => cf q j + (-1) * cf q' j) (cf g) k) (cf r' k - cf r k) := fun k => by
    rw [conv_add_left, conv_mul_left]
    obtain ⟨t, e⟩ := h.eq k
    obtain ⟨s, e'⟩ := h'.eq k
    exact ⟨t - s, by grind⟩
  have z := conv_nil (p := p) (fun j => cf q j + (-1) * cf q' j) hF hg hn (L := max q.length q'.length) (fun j hj => by
    rw [cf_out (by omega), cf_out (by omega)]
    exact .refl _ _) fun k hk => by
      refine (key k).trans ?_
      have := h.lt
      have := h'.lt
      rw [cf_out (by omega), cf_out (by omega)]
      exact .refl _ _
  have eq : q = q' := po_ext hF.p0 h.pq h'.pq fun k => by
    obtain ⟨t, e⟩ := z k
    exact ⟨t, by grind⟩
  refine ⟨eq, po_ext hF.p0 h.pr h'.pr fun k => ?_⟩
  subst eq
  obtain ⟨t, e⟩ := h.eq k
  obtain ⟨s, e'⟩ := h'.eq k
  exact ⟨t - s, by grind⟩
/-! ### what divides -/
def Dv (p : Int) (d f : List Int) : Prop := ∃ q : List Int, ∀ k, eqm p (conv (cf q) (cf d) k) (cf f k)
def cadd (f g : List Int) : List Int := (List.range (max f.length g.length)).map fun k => cf f k + cf g k
theorem cadd_cf (f g : List Int) (k : Nat) : cf (cadd f g) k = cf f k + cf g k := by
  unfold cadd
  rw [cf_range]
  split
  · rfl
  · rw [cf_out (by omega), cf_out (by omega)]
    rfl
def cmul (f g : List Int) : List Int := (List.range (f.length + g.length)).map (conv (cf f) (cf g))
theorem cmul_cf (f g : List Int) (k : Nat) : cf (cmul f g) k = conv (cf f) (cf g) k := by
  unfold cmul
  rw [cf_range]
  split
  · rfl
  · rw [cf_conv_out (by omega)]
def cby (a : Int) (f : List Int) : List Int := f.map (a * ·)
theorem cby_cf (a : Int) (f : List Int) (k : Nat) : cf (cby a f) k = a * cf f k := by
  by_cases h : k < f.length
  · exact cf_get (by unfold cby; rw [List.getElem?_map, cf_some h]; rfl)
  · rw [show cf (cby a f) k = 0 from cf_out (by simpa [cby] using h), cf_out (by omega), Int.mul_zero]
theorem conv_one (G : Nat → Int) (a : Int) (k : Nat) : conv (cf [a]) G k = a * G k := by
  have h0 : conv (cf [a]) G k = conv (fun j => (if j = 0 then a else 0) + shift (fun _ => 0) j) G k := conv_congr (fun j _ => by
    cases j with
    | zero => simp [shift]
    | succ j => simp [shift]) fun _ _ => rfl
  rw [h0]
  cases k with
  | zero =>
    show (a + 0) * G 0 + 0 = a * G 0
    rw [Int.add_zero, Int.add_zero]
  | succ k =>
    show (a + 0) * G (k + 1) + sumN (k + 1) (fun j => ((if j + 1 = 0 then a else 0) + 0) * G (k + 1 - (j + 1))) = a * G (k + 1)
    have : sumN (k + 1) (fun j => ((if j + 1 = 0 then a else 0) + 0) * G (k + 1 - (j + 1))) = 0 :=
      (sumN_congr (g := fun _ => 0) fun j _ => by rw [if_neg (by omega), Int.add_zero, Int.zero_mul]).trans (sumN_zero _)
    rw [this, Int.add_zero, Int.add_zero]
theorem Dv.refl (p : Int) (f : List Int) : Dv p f f := ⟨[1], fun k => by rw [conv_one, Int.one_mul]; exact .refl _ _⟩
theorem Dv.nil (p : Int) (d : List Int) : Dv p d [] := ⟨[], fun k => by
  rw [show conv (cf []) (cf d) k = 0 from conv_zero_left _ k]
  exact .refl _ _⟩
theorem Dv.trans {d e f : List Int} (h : Dv p d e) (h2 : Dv p e f) : Dv p d f := by
  obtain ⟨q, hq⟩ := h
  obtain ⟨s, hs⟩ := h2
  refine ⟨cmul s q, fun k => .trans ?_ (hs k)⟩
  rw [conv_congr (F := cf (cmul s q)) (F' := conv (cf s) (cf q)) (fun j _ => cmul_cf s q j) fun _ _ => rfl, conv_assoc]
  exact conv_eqm (fun _ => .refl _ _) hq
/-- a combination -/
theorem Dv.comb {d e f g : List Int} (h : Dv p d e) (h2 : Dv p d f) (a b : List Int) (hg : ∀ k, eqm p (conv (cf a) (cf e) k + conv (cf b) (cf f) k) (cf g k)) : Dv p d g := by
  obtain ⟨q, hq⟩ := h
  obtain ⟨s, hs⟩ := h2
  refine ⟨cadd (cmul a q) (cmul b s), fun k => .trans ?_ (hg k)⟩
  rw [conv_congr (F := cf (cadd (cmul a q) (cmul b s))) (F' := fun j => conv (cf a) (cf q) j + conv (cf b) (cf s) j) (fun j _ => by rw [cadd_cf, cmul_cf, cmul_cf]) fun _ _ => rfl, conv_add_left, conv_assoc, conv_assoc]
  exact (conv_eqm (fun _ => .refl _ _) hq).add (conv_eqm (fun _ => .refl _ _) hs)
theorem IsDiv.dv_left {f g q r d : List Int} (h : IsDiv p f g q r) (h1 : Dv p d g) (h2 : Dv p d r) : Dv p d f :=
  h1.comb h2 q [1] fun k => by
    rw [conv_one, Int.one_mul]
    exact h.eq k
theorem IsDiv.dv_rest {f g q r d : List Int} (h : IsDiv p f g q r) (h1 : Dv p d f) (h2 : Dv p d g) : Dv p d r :=
  h1.comb h2 [1] (cby (-1) q) fun k => by
    rw [conv_one, conv_congr (F := cf (cby (-1) q)) (F' := fun j => (-1) * cf q j) (fun j _ => cby_cf _ _ j) fun _ _ => rfl, conv_mul_left]
    obtain ⟨t, e⟩ := h.eq k
    exact ⟨-t, by grind⟩
def npol (p : Int) (f : List Int) : List Int := pol p f.length (cf f)
theorem npol_po (hp : 0 < p) (f : List Int) : Po p (npol p f) := pol_po hp
theorem npol_cf (f : List Int) (k : Nat) : eqm p (cf (npol p f) k) (cf f k) := pol_eqm (fun k hk => by rw [cf_out hk]; exact .refl _ _) k
theorem Dv.po {d f : List Int} (hp : 0 < p) (h : Dv p d f) : ∃ q, Po p q ∧ ∀ k, eqm p (conv (cf q) (cf d) k) (cf f k) := by
  obtain ⟨q, hq⟩ := h
  exact ⟨npol p q, npol_po hp q, fun k => (conv_eqm (npol_cf q) fun _ => .refl _ _).trans (hq k)⟩
theorem Dv.div {d f : List Int} (hF : Fld p) (hd : Po p d) (hn : d ≠ []) (h : Dv p d f) : ∃ q, IsDiv p f d q [] := by
  obtain ⟨q, h1, h2⟩ := h.po hF.p0
  exact ⟨q, h1, po_nil, List.length_pos_iff.mpr hn, fun k => by rw [cf_nil, Int.add_zero]; exact h2 k⟩
/-- the leading term of a multiple -/
theorem top_of {q d f : List Int} (hF : Fld p) (hq : Po p q) (hd : Po p d) (hf : Po p f) (hqn : q ≠ []) (hdn : d ≠ []) (h : ∀ k, eqm p (conv (cf q) (cf d) k) (cf f k)) : f.length = q.length + d.length - 1 := by
  have l1 := List.length_pos_iff.mpr hqn
  have l2 := List.length_pos_iff.mpr hdn
  have t := conv_top (p := p) (F := cf q) (G := cf d) (n := q.length - 1) (m := d.length - 1) (fun j hj => by rw [cf_out (by omega)]; exact .refl _ _) (fun j hj => by rw [cf_out (by omega)]; exact .refl _ _)
  have nz : ¬ eqm p (cf f (q.length - 1 + (d.length - 1))) 0 := fun e => by
    rcases hF.dom _ _ ((t.symm.trans (h _)).trans e) with z | z
    · exact hq.top hF.p0 hqn z
    · exact hd.top hF.p0 hdn z
  have h1 : q.length - 1 + (d.length - 1) < f.length := by
    by_cases hl : q.length - 1 + (d.length - 1) < f.length
    · exact hl
    · exact absurd (by rw [cf_out (by omega)]; exact .refl _ _) nz
  have h2 : f.length ≤ q.length + d.length - 1 := tr_len hf.tr fun k hk => by
    have := h k
    rw [cf_conv_out (by omega)] at this
    exact eqm_small this.symm (hf.rng.cf hF.p0 k) ⟨Int.le_refl _, hF.p0⟩
  omega
theorem Dv.len {d f : List Int} (hF : Fld p) (hd : Po p d) (hf : Po p f) (hn : f ≠ []) (h : Dv p d f) : d.length ≤ f.length ∧ d ≠ [] := by
  obtain ⟨q, h1, h2⟩ := h.po hF.p0
  have hdn : d ≠ [] := fun e => by
    refine hn (po_ext hF.p0 hf po_nil fun k => (h2 k).symm.trans ?_)
    rw [e, conv_comm, show conv (cf []) (cf q) k = 0 from conv_zero_left _ k]
    exact .refl _ _
  have hqn : q ≠ [] := fun e => by
    refine hn (po_ext hF.p0 hf po_nil fun k => (h2 k).symm.trans ?_)
    rw [e, show conv (cf []) (cf d) k = 0 from conv_zero_left _ k]
    exact .refl _ _
  have := top_of hF h1 hd hf hqn hdn h2
  have l1 := List.length_pos_iff.mpr hqn
  exact ⟨by omega, hdn⟩
/-- a multiple by a number -/
def Sc (p : Int) (a b : List Int) : Prop := ∃ u, ¬ eqm p u 0 ∧ ∀ k, eqm p (u * cf a k) (cf b k)
theorem Dv.both {d f : List Int} (hF : Fld p) (hd : Po p d) (hf : Po p f) (hn : f ≠ []) (h : Dv p d f) (h' : Dv p f d) : Sc p d f := by
  obtain ⟨l1, hdn⟩ := h.len hF hd hf hn
  obtain ⟨l2, _⟩ := h'.len hF hf hd hdn
  obtain ⟨q, h1, h2⟩ := h.po hF.p0
  have hqn : q ≠ [] := fun e => by
    refine hn (po_ext hF.p0 hf po_nil fun k => (h2 k).symm.trans ?_)
    rw [e, show conv (cf []) (cf d) k = 0 from conv_zero_left _ k]
    exact .refl _ _
  have := top_of hF h1 hd hf hqn hdn h2
  have ll := List.length_pos_iff.mpr hqn
  have ld := List.length_pos_iff.mpr hdn
  obtain ⟨u, rfl⟩ : ∃ u, q = [u] := by
    match q, hqn, this with
    | [u], _, _ => exact ⟨u, rfl⟩
    | u :: v :: t, _, e =>
      simp only [List.length_cons] at e
      omega
  refine ⟨u, fun e => ?_, fun k => ?_⟩
  · have := h1.top hF.p0 hqn
    exact this e
  · have := h2 k
    rw [conv_one] at this
    exact this
theorem Sc.dv {d f : List Int} (h : Sc p d f) : Dv p d f := by
  obtain ⟨u, _, h⟩ := h
  exact ⟨[u], fun k => by rw [conv_one]; exact h k⟩
theorem Sc.symm (hF : Fld p) {d f : List Int} (h : Sc p d f) : Sc p f d := by
  obtain ⟨u, hu, h⟩ := h
  obtain ⟨v, hv⟩ := hF.inv u hu
  refine ⟨v, fun e => hF.one ?_, fun k => ?_⟩
  · have := (eqm.refl p u).mul e
    rw [Int.mul_zero] at this
    exact hv.symm.trans this
  · obtain ⟨t, e⟩ := h k
    obtain ⟨s, e2⟩ := hv
    exact ⟨s * cf d k - v * t, by grind⟩
theorem Sc.trans (hF : Fld p) {d e f : List Int} (h : Sc p d e) (h2 : Sc p e f) : Sc p d f := by
  obtain ⟨u, hu, h⟩ := h
  obtain ⟨v, hv, h2⟩ := h2
  refine ⟨v * u, fun z => (hF.dom _ _ z).elim hv hu, fun k => ?_⟩
  have := (eqm.refl p v).mul (h k)
  rw [← Int.mul_assoc] at this
  exact this.trans (h2 k)
/-- begins (at the top) with 1 -/
def Mo (f : List Int) : Prop := f = [] ∨ f.getLast? = some 1
theorem mo_unique (hF : Fld p) {f g : List Int} (hf : Po p f) (hg : Po p g) (mf : Mo f) (mg : Mo g) (h : Sc p f g) : f = g := by
  obtain ⟨u, hu, h⟩ := h
  have hl : f.length = g.length := by
    have l1 : f.length ≤ g.length := tr_len hf.tr fun k hk => by
      have := h k
      rw [cf_out hk] at this
      rcases hF.dom _ _ this with z | z
      · exact absurd z hu
      · exact eqm_small z (hf.rng.cf hF.p0 k) ⟨Int.le_refl _, hF.p0⟩
    have l2 : g.length ≤ f.length := tr_len hg.tr fun k hk => by
      have := h k
      rw [cf_out hk, Int.mul_zero] at this
      exact eqm_small this.symm (hg.rng.cf hF.p0 k) ⟨Int.le_refl _, hF.p0⟩
    omega
  rcases mf with rfl | mf
  · exact (List.eq_nil_of_length_eq_zero hl.symm).symm
  · have hfn : f ≠ [] := fun e => by rw [e] at mf; cases mf
    have hgn : g ≠ [] := fun e => by
      rw [e] at hl
      exact hfn (List.eq_nil_of_length_eq_zero hl)
    have mg : g.getLast? = some 1 := mg.resolve_left hgn
    rw [last_cf hfn] at mf
    rw [last_cf hgn] at mg
    have e1 : cf f (f.length - 1) = 1 := Option.some.inj mf
    have e2 : cf g (g.length - 1) = 1 := Option.some.inj mg
    have hu1 : eqm p u 1 := by
      have := h (f.length - 1)
      rw [e1, Int.mul_one, hl, e2] at this
      exact this
    refine po_ext hF.p0 hf hg fun k => ?_
    have := (hu1.mul (eqm.refl p (cf f k))).symm.trans (h k)
    rwa [Int.one_mul] at this
end
end Sw

set_option Elab.async false
set_option linter.all false
set_option maxRecDepth 100000
set_option maxHeartbeats 4000000
namespace Sw
open PySem PySem.Spec PyProof.Rows L2
theorem trim_snoc (xs : List Int) (x : Int) : trim (xs ++ [x]) = if x = 0 then trim xs else xs ++ [x] := by
  refine tr_ext (trim_tr _) ?_ fun k => ?_
  · split
    · exact trim_tr _
    · rename_i h
      intro y hy
      rw [List.getLast?_concat] at hy
      cases hy
      exact h
  · rw [cf_trim]
    split
    · rename_i h
      rw [cf_trim, h]
      by_cases hk : k < xs.length
      · exact cf_get (by rw [List.getElem?_append_left hk]; exact cf_some hk)
      · rw [cf_out (f := xs) (by omega)]
        by_cases hk2 : k = xs.length
        · exact cf_get (by rw [hk2, List.getElem?_append_right (Nat.le_refl _), Nat.sub_self]; rfl)
        · exact cf_out (by simp; omega)
    · rfl
theorem take_trim : ∀ ns : List Int, ns.take (trim ns).length = trim ns
  | [] => rfl
  | x :: xs => by
    unfold trim
    split
    · rfl
    · simp [take_trim xs]
theorem take_snoc {ns : List Int} {l : Nat} (h : l < ns.length) : ns.take (l + 1) = ns.take l ++ [cf ns l] := by
  rw [List.take_add_one, cf_some h]
  rfl
section
variable {fs : Nat → Option FD} {M k : Nat} {S : Store}
theorem while_trimmed (c : Fns) {d : D} {ns : List Int} (hd : seqR S d = some (il ns)) (hl : ∀ z, d ≠ .str z) : ∀ (l m : Nat), l ≤ ns.length → l < m →
    whileL (evalT c t0_1) (execs c M w0_2) m [some d, some (.int (l : Nat))] S = some (.nx, [some d, some (.int ((trim (ns.take l)).length : Nat))], S)
  | l, 0, _, h => by omega
  | 0, m + 1, _, _ => by
    rw [whileL]
    simp [t0_1]
    rfl
  | l + 1, m + 1, h, h2 => by
    have hi : idxD S d (.int ((l : Nat) : Int)) = some (.int (cf ns l)) := idx_nat hd (by rw [il_get, cf_some (by omega)]; rfl)
    have e1 : ((l + 1 : Nat) : Int) - 1 = ((l : Nat) : Int) := by omega
    have e2 : (0 : Int) < ((l + 1 : Nat) : Int) := by omega
    rw [whileL]
    have ht : evalT c t0_1 [some d, some (.int ((l + 1 : Nat) : Int))] S = some (decide (cf ns l = 0), S) := by
      simp [t0_1, -Int.natCast_add, e1, e2, hi]
    rw [ht]
    by_cases hz : cf ns l = 0
    · rw [decide_eq_true hz]
      have hb : execs c M w0_2 [some d, some (.int ((l + 1 : Nat) : Int))] S = some (.nx, [some d, some (.int (l : Nat))], S) := by
        rw [w0_2, xs_nx (ρ1 := [some d, some (.int (l : Nat))]) (S1 := S) (by simp [-Int.natCast_add, e1])]
        simp
      simp only [hb]
      rw [while_trimmed c hd hl l m (by omega) (by omega), take_snoc (by omega), trim_snoc, if_pos hz]
    · rw [decide_eq_false hz]
      dsimp only
      rw [take_snoc (by omega), trim_snoc, if_neg hz, ← take_snoc (by omega), List.length_take, Nat.min_eq_left h]
theorem ev_trimmed (h0 : fs 0 = some f0) {d : D} {ns : List Int} (hd : seqL S d = some (il ns)) (hM : ns.length < M) : callK fs M (k + 1) 0 [d] S = some (.fre (il (trim ns)), S) := by
  have hr : seqR S d = some (il ns) := by
    cases d <;> first | exact hd | cases hd
  have hs : ∀ z, d ≠ .str z := fun z e => by
    rw [e] at hd
    cases hd
  rw [callK_f h0]
  have hsl : sliceD true d none (some ((trim ns).length : Int)) S = some (.box S.length, S ++ [.live (il (trim ns))]) := by
    rw [slice_hi hd (by omega), Int.toNat_natCast, il_take, take_trim]
    rfl
  have hw := while_trimmed (callK fs M k) (M := M) hr hs ns.length M (Nat.le_refl _) hM
  rw [List.take_length] at hw
  have hb : execs (callK fs M k) M b0_trimmed [some d, none] S = some (.ret (.box S.length), [some d, some (.int ((trim ns).length : Nat))], S ++ [.live (il (trim ns))]) := by
    rw [b0_trimmed, xs_nx (ρ1 := [some d, some (.int (ns.length : Nat))]) (S1 := S) (by simp [bi_len d _ hr])]
    rw [xs_nx (by rw [x_whileS]; exact hw)]
    exact xs_ret (by simp only [x_ret, ev_slice, ev_var, eo_nop, eo_var, List.getElem?_cons_zero, List.getElem?_cons_succ, hsl])
  simp [runF, hb]

/-! ### the entries by their place -/
theorem ev_coefficient (h1 : fs 1 = some f1) {d : D} {f : List Int} (hd : seqR S d = some (il f)) (hs : ∀ z, d ≠ .str z) (j : Nat) : callK fs M (k + 1) 1 [d, .int (j : Nat)] S = some (.int (cf f j), S) := by
  rw [callK_f h1]
  have hb : execs (callK fs M k) M b1_coefficient [some d, some (.int (j : Nat))] S = some (.ret (.int (cf f j)), [some d, some (.int (j : Nat))], S) := by
    rw [b1_coefficient]
    refine xs_ret ?_
    by_cases h : j < f.length
    · have hi : idxD S d (.int ((j : Nat) : Int)) = some (.int (cf f j)) := idx_nat hd (by rw [il_get, cf_some h]; rfl)
      simp [bi_len d _ hd, h, hi]
    · simp [bi_len d _ hd, h, cf_out (Nat.le_of_not_lt h)]
  simp [runF, hb]
theorem rngI_il (n : Nat) : rngI 0 n = il ((List.range n).map fun (i : Nat) => (i : Int)) := by
  unfold rngI il
  rw [List.map_map]
  refine List.map_congr_left fun i _ => ?_
  simp
theorem rng_one {n : Nat} (h : n ≤ 1000000) : rngD [.int (n : Nat)] = some (rngI 0 n) := by
  show (if inRg (n : Int) then some (rngI 0 (n : Int).toNat) else none) = _
  rw [if_pos (show inRg (n : Int) from ⟨by omega, by omega⟩), Int.toNat_natCast]
theorem max_cast (a b : Nat) : max (a : Int) (b : Int) = ((max a b : Nat) : Int) := by omega
/-- a comprehension over range(n) that gives numbers -/
theorem comp_range {c : Fns} {elt : E} {i : Nat} {ρ : Env} {wk : Wk} (n : Nat) (F : Nat → Int) (hi : i < ρ.length) (hw : okW S wk = true) (h : ∀ j, j < n → evalE c elt ((wipeE ρ [i]).set i (some (.int (j : Nat)))) S = some (.int (F j), S)) :
    compL wk (stepC c elt (.name i) .nop [i] ρ) (rngI 0 n) S = some (il ((List.range n).map F), S) := by
  have := compL_map (S := S) (wk := wk) (step := stepC c elt (.name i) .nop [i] ρ) (fun d => match d with
    | .int z => some (.int (F z.toNat))
    | _ => none) (ds := rngI 0 n) hw fun d hd => by
      unfold rngI at hd
      obtain ⟨j, hj, rfl⟩ := List.mem_map.mp hd
      have hj := List.mem_range.mp hj
      have e := h j hj
      simp only [stepC, asg, ec_nop, Int.zero_add] at e ⊢
      rw [e]
      simp
  rw [this]
  congr 2
  unfold rngI il
  rw [List.filterMap_map, List.map_map, ← List.filterMap_eq_map]
  congr 1
  funext j
  simp
theorem ei_rng1 {c : Fns} {es : Es} {ρ : Env} {S S1 : Store} (n : Nat) (hes : evalEs c es ρ S = some ([.int (n : Nat)], S1)) (hn : n ≤ 1000000) : evalI c (.rng es) ρ S = some (⟨rngI 0 n, none⟩, S1) := by
  rw [ei_rng, hes]
  dsimp only
  rw [rng_one hn]
  rfl
theorem ev_comp_range {c : Fns} {es : Es} {elt : E} {i : Nat} {ρ : Env} {o : Bool} (n : Nat) (F : Nat → Int) (hes : evalEs c es ρ S = some ([.int (n : Nat)], S)) (hn : n ≤ 1000000) (hi : i < ρ.length)
    (h : ∀ j, j < n → evalE c elt ((wipeE ρ [i]).set i (some (.int (j : Nat)))) S = some (.int (F j), S)) : evalE c (.comp o elt (.name i) (.rng es) .nop [i]) ρ S = some (mk o (il ((List.range n).map F)) S) := by
  have e1 := ei_rng1 n hes hn
  rw [ev_comp, e1]
  dsimp only
  rw [comp_range n F hi rfl h]
  have hl : (rngI 0 n).length < sizeLine := by
    have e : (rngI 0 n).length = n := by simp [rngI]
    rw [e]
    exact Nat.lt_of_le_of_lt hn (by decide)
  simp only [hl, if_true]
theorem ev_poly_sum (h0 : fs 0 = some f0) (h1 : fs 1 = some f1) (h2 : fs 2 = some f2) {p : Int} (hp : 0 < p) {f g : List Int} (hf : f.length ≤ 100000) (hg : g.length ≤ 100000) (hM : 100000 < M) :
    callK fs M (k + 2) 2 [.int p, .lst (il f), .lst (il g)] S = some (.fre (il (padd p f g)), S) := by
  rw [callK_f h2]
  have hc := ev_comp_range (S := S) (c := callK fs M (k + 1)) (es := .cons (.bi .max2 false (.cons (.bi .len false (.cons (.var 1) .nil)) (.cons (.bi .len false (.cons (.var 2) .nil)) .nil))) .nil) (elt := e2_1) (i := 3) (ρ := [some (.int p), some (.lst (il f)), some (.lst (il g)), none]) (o := false) (max f.length g.length) (fun j => (cf f j + cf g j) % p)
    (by simp [bi_len _ _ (seqR_lst (S := S) (il f)), bi_len _ _ (seqR_lst (S := S) (il g)), max_cast]) (by omega) (by simp) fun j hj => by
      simp [e2_1, wipeE, ev_coefficient h1 (seqR_lst (S := S) (il f)) (fun z e => by cases e), ev_coefficient h1 (seqR_lst (S := S) (il g)) (fun z e => by cases e), bin_mod hp]
  have ht := ev_trimmed (M := M) (k := k) (S := S) h0 (d := .lst (il ((List.range (max f.length g.length)).map fun j => (cf f j + cf g j) % p))) (seqL_lst _) (by simp; omega)
  have hb : execs (callK fs M (k + 1)) M b2_poly_sum [some (.int p), some (.lst (il f)), some (.lst (il g)), none] S = some (.ret (.box S.length), [some (.int p), some (.lst (il f)), some (.lst (il g)), none], S ++ [.live (il (padd p f g))]) := by
    rw [b2_poly_sum]
    refine xs_ret ?_
    rw [x_ret, ev_callT, es_cons, hc]
    simp only [mk_f, es_nil, ht, thaw_il]
    rfl
  simp [runF, hb]
/-! ### tables of numbers -/
def tb (n : Nat) (F : Nat → Int) : List Int := (List.range n).map F
@[simp] theorem tb_length (n : Nat) (F : Nat → Int) : (tb n F).length = n := by simp [tb]
theorem tb_get {n j : Nat} (F : Nat → Int) (h : j < n) : (tb n F)[j]? = some (F j) := by
  unfold tb
  rw [List.getElem?_map, List.getElem?_range h]
  rfl
theorem cf_tb (n : Nat) (F : Nat → Int) (k : Nat) : cf (tb n F) k = if k < n then F k else 0 := cf_range n F k
theorem tb_ext {n : Nat} {F G : Nat → Int} (h : ∀ j, j < n → F j = G j) : tb n F = tb n G := List.map_congr_left fun j hj => h j (List.mem_range.mp hj)
theorem tb_set (n : Nat) (F : Nat → Int) (j : Nat) (x : Int) : (tb n F).set j x = tb n fun k => if k = j then x else F k := by
  refine List.ext_getElem? fun k => ?_
  rw [List.getElem?_set]
  by_cases hk : k < n
  · rw [tb_get _ hk, tb_get _ hk, tb_length]
    by_cases h : j = k
    · subst h
      rw [if_pos rfl, if_pos rfl, if_pos hk]
    · rw [if_neg h, if_neg (fun e => h e.symm)]
  · have h1 : (tb n F)[k]? = none := List.getElem?_eq_none (by rw [tb_length]; omega)
    have h2 : (tb n fun k => if k = j then x else F k)[k]? = none := List.getElem?_eq_none (by rw [tb_length]; omega)
    rw [h1, h2, tb_length]
    by_cases h : j = k
    · subst h
      rw [if_pos rfl, if_neg hk]
    · rw [if_neg h]
theorem tb_of (f : List Int) : f = tb f.length (cf f) := by
  refine List.ext_getElem? fun k => ?_
  by_cases hk : k < f.length
  · rw [tb_get _ hk, cf_some hk]
  · rw [List.getElem?_eq_none (by omega), List.getElem?_eq_none (by rw [tb_length]; omega)]
theorem rep_tb (n : Nat) (x : Int) : List.replicate n x = tb n fun _ => x := by
  refine List.ext_getElem? fun k => ?_
  by_cases hk : k < n
  · rw [tb_get _ hk, List.getElem?_replicate, if_pos hk]
  · rw [List.getElem?_eq_none (by simpa using Nat.le_of_not_lt hk), List.getElem?_eq_none (by rw [tb_length]; omega)]
theorem trim_tb {n : Nat} {F : Nat → Int} {p : Int} {G : Nat → Int} (h : ∀ k, k < n → F k = G k % p) : trim (tb n F) = pol p n G := by
  unfold pol
  rw [show tb n F = (List.range n).map fun k => G k % p from tb_ext h]
theorem enum_get {f : List Int} {i : Nat} {d : D} (h : (enumD (il f))[i]? = some d) : i < f.length ∧ d = .tup [.int (i : Nat), .int (cf f i)] := by
  unfold enumD at h
  rw [List.getElem?_map] at h
  by_cases hi : i < f.length
  · rw [List.getElem?_range (by simpa using hi)] at h
    cases h
    refine ⟨hi, ?_⟩
    dsimp only
    rw [List.getD_eq_getElem?_getD, il_get, cf_some hi]
    rfl
  · rw [List.getElem?_eq_none (by simpa using Nat.le_of_not_lt hi)] at h
    cases h
@[simp] theorem enum_len (ds : List D) : (enumD ds).length = ds.length := by simp [enumD]
/-- an entry of a table of the store is read, is set -/
theorem idx_tb {b n j : Nat} {F : Nat → Int} {k : Int} (h : S[b]? = some (.live (il (tb n F)))) (hk : k = (j : Int)) (hj : j < n) : idxD S (.box b) (.int k) = some (.int (F j)) := by
  rw [hk]
  exact idx_nat (getBox_live h) (by rw [il_get, tb_get _ hj]; rfl)
theorem set_tb {b n j : Nat} {F : Nat → Int} {k x : Int} (h : S[b]? = some (.live (il (tb n F)))) (hk : k = (j : Int)) (hj : j < n) : setIxD S (.box b) (.int k) (.int x) = some (S.set b (.live (il (tb n fun i => if i = j then x else F i)))) := by
  rw [setIx_live h hk (by simpa using hj) (by simp), il_set, tb_set]
/-! ### poly_product -/
theorem prod_in (c : Fns) {p : Int} (hp : 0 < p) {f g : List Int} {n k : Nat} {one : Int} (F : Nat → Int) (hk : k + g.length ≤ n) (h1 : -18446744073709551616 < one ∧ one < 18446744073709551616) (a b : Option D) :
    ∃ a' b', forL ⟨enumD (il g), none⟩ (stepF c M (.tup (.cons (.name 6) (.cons (.name 7) .nil))) w4_1) (enumD (il g)) [some (.int p), some (.lst (il f)), some (.lst (il g)), some (.box S.length), some (.int (k : Nat)), some (.int one), a, b] (S ++ [.live (il (tb n F))]) =
      some (.nx, [some (.int p), some (.lst (il f)), some (.lst (il g)), some (.box S.length), some (.int (k : Nat)), some (.int one), a', b'], S ++ [.live (il (tb n fun m => if k ≤ m ∧ m < k + g.length then (F m + one * cf g (m - k)) % p else F m))]) := by
  obtain ⟨ρ1, S1, e, ⟨a', b', rfl⟩, rfl⟩ := forL_inv (wk := ⟨enumD (il g), none⟩) (b := stepF c M (.tup (.cons (.name 6) (.cons (.name 7) .nil))) w4_1)
    (fun i ρ T => (∃ a b, ρ = [some (.int p), some (.lst (il f)), some (.lst (il g)), some (.box S.length), some (.int (k : Nat)), some (.int one), a, b]) ∧ T = S ++ [.live (il (tb n fun m => if k ≤ m ∧ m < k + i then (F m + one * cf g (m - k)) % p else F m))])
    (enumD (il g)) 0 (fun i d ρ T hd ⟨⟨a, b, hρ⟩, hT⟩ => by
      obtain ⟨hi, rfl⟩ := enum_get hd
      subst hρ
      subst hT
      rw [Nat.zero_add]
      refine ⟨_, _, ?_, rfl, ⟨some (.int (i : Nat)), some (.int (cf g i)), rfl⟩, rfl⟩
      have e1 : ((k : Int) + (i : Int)) = ((k + i : Nat) : Int) := by omega
      have hr := idx_tb (S := S ++ [.live (il (tb n fun m => if k ≤ m ∧ m < k + i then (F m + one * cf g (m - k)) % p else F m))]) (b := S.length) (n := n) (j := k + i) (F := fun m => if k ≤ m ∧ m < k + i then (F m + one * cf g (m - k)) % p else F m) (k := (k : Int) + (i : Int)) (by simp) e1 (by omega)
      have hs := set_tb (S := S ++ [.live (il (tb n fun m => if k ≤ m ∧ m < k + i then (F m + one * cf g (m - k)) % p else F m))]) (b := S.length) (n := n) (j := k + i) (F := fun m => if k ≤ m ∧ m < k + i then (F m + one * cf g (m - k)) % p else F m) (k := (k : Int) + (i : Int)) (x := (F (k + i) + one * cf g i) % p) (by simp) e1 (by omega)
      have ht : tb n (fun m => if m = k + i then (F (k + i) + one * cf g i) % p else if k ≤ m ∧ m < k + i then (F m + one * cf g (m - k)) % p else F m) = tb n fun m => if k ≤ m ∧ m < k + (i + 1) then (F m + one * cf g (m - k)) % p else F m := tb_ext fun m hm => by
        by_cases h : m = k + i
        · subst h
          rw [if_pos rfl, if_pos (by omega), Nat.add_sub_cancel_left]
        · rw [if_neg h]
          by_cases h2 : k ≤ m ∧ m < k + i
          · rw [if_pos h2, if_pos (by omega)]
          · rw [if_neg h2, if_neg (by omega)]
      rw [ht] at hs
      simp at hr
      simp [stepF, asg, asgs, w4_1, xs_cons, hr, bin_mulL h1, bin_mod hp, hs])
    [some (.int p), some (.lst (il f)), some (.lst (il g)), some (.box S.length), some (.int (k : Nat)), some (.int one), a, b] (S ++ [.live (il (tb n F))]) ⟨⟨a, b, rfl⟩, by
      congr 4
      exact tb_ext fun m _ => by rw [if_neg (by omega)]⟩
  refine ⟨a', b', ?_⟩
  rw [e]
  simp
theorem sumN_more {h : Nat → Int} : ∀ {a b : Nat}, a ≤ b → (∀ j, a ≤ j → j < b → h j = 0) → sumN b h = sumN a h := by
  intro a b hab hz
  obtain ⟨d, rfl⟩ : ∃ d, b = a + d := ⟨b - a, by omega⟩
  clear hab
  induction d with
  | zero => rfl
  | succ d ih =>
    rw [← Nat.add_assoc, sumN_last, ih fun j h1 h2 => hz j h1 (by omega), hz (a + d) (by omega) (by omega), Int.add_zero]
theorem conv_sum (f : List Int) (G : Nat → Int) (m : Nat) : sumN f.length (fun k => if k ≤ m then cf f k * G (m - k) else 0) = conv (cf f) G m := by
  unfold conv
  rw [sumN_congr (n := m + 1) (g := fun k => if k ≤ m then cf f k * G (m - k) else 0) fun j hj => by rw [if_pos (by omega)]]
  by_cases h : f.length ≤ m + 1
  · exact (sumN_more h fun j h1 _ => by
      split
      · rw [cf_out h1, Int.zero_mul]
      · rfl).symm
  · exact sumN_more (by omega) fun j h1 _ => by rw [if_neg (by omega)]
/-- small entries -/
theorem Rng.small {p : Int} {f : List Int} (h : Rng p f) (hp : 0 < p) (hs : p ≤ 1000000) (k : Nat) : -18446744073709551616 < Sw.cf f k ∧ Sw.cf f k < 18446744073709551616 := by
  have := h.cf hp k
  omega
theorem prod_out (c : Fns) {p : Int} (hp : 0 < p) (hp2 : p ≤ 1000000) {f g : List Int} (hf : Rng p f) {n : Nat} (hn : f.length + g.length ≤ n + 1) (a b a2 b2 : Option D) :
    ∃ a' b' a2' b2', forL ⟨enumD (il f), none⟩ (stepF c M (.tup (.cons (.name 4) (.cons (.name 5) .nil))) w4_2) (enumD (il f)) [some (.int p), some (.lst (il f)), some (.lst (il g)), some (.box S.length), a, b, a2, b2] (S ++ [.live (il (tb n fun _ => 0))]) =
      some (.nx, [some (.int p), some (.lst (il f)), some (.lst (il g)), some (.box S.length), a', b', a2', b2'], S ++ [.live (il (tb n fun m => conv (cf f) (cf g) m % p))]) := by
  obtain ⟨ρ1, S1, e, ⟨a', b', a2', b2', rfl⟩, rfl⟩ := forL_inv (wk := ⟨enumD (il f), none⟩) (b := stepF c M (.tup (.cons (.name 4) (.cons (.name 5) .nil))) w4_2)
    (fun i ρ T => (∃ a b a2 b2, ρ = [some (.int p), some (.lst (il f)), some (.lst (il g)), some (.box S.length), a, b, a2, b2]) ∧ T = S ++ [.live (il (tb n fun m => sumN i (fun k => if k ≤ m then cf f k * cf g (m - k) else 0) % p))])
    (enumD (il f)) 0 (fun i d ρ T hd ⟨⟨a, b, a2, b2, hρ⟩, hT⟩ => by
      obtain ⟨hi, rfl⟩ := enum_get hd
      subst hρ
      subst hT
      rw [Nat.zero_add]
      obtain ⟨a2', b2', e⟩ := prod_in (S := S) (M := M) c hp (f := f) (g := g) (n := n) (k := i) (one := cf f i) (fun m => sumN i (fun k => if k ≤ m then cf f k * cf g (m - k) else 0) % p) (by omega) (hf.small hp hp2 i) a2 b2
      refine ⟨_, _, ?_, rfl, ⟨some (.int (i : Nat)), some (.int (cf f i)), a2', b2', rfl⟩, rfl⟩
      have ht : tb n (fun m => if i ≤ m ∧ m < i + g.length then (sumN i (fun k => if k ≤ m then cf f k * cf g (m - k) else 0) % p + cf f i * cf g (m - i)) % p else sumN i (fun k => if k ≤ m then cf f k * cf g (m - k) else 0) % p) = tb n fun m => sumN (i + 1) (fun k => if k ≤ m then cf f k * cf g (m - k) else 0) % p := tb_ext fun m hm => by
        rw [sumN_last]
        by_cases h : i ≤ m
        · rw [if_pos h]
          by_cases h2 : m < i + g.length
          · rw [if_pos ⟨h, h2⟩, Int.emod_add_emod]
          · rw [if_neg (fun z => h2 z.2), cf_out (f := g) (by omega), Int.mul_zero, Int.add_zero]
        · rw [if_neg (fun z => h z.1), if_neg h, Int.add_zero]
      rw [ht] at e
      simp [stepF, asg, asgs, w4_2, xs_cons, e])
    [some (.int p), some (.lst (il f)), some (.lst (il g)), some (.box S.length), a, b, a2, b2] (S ++ [.live (il (tb n fun _ => 0))]) ⟨⟨a, b, a2, b2, rfl⟩, by
      rw [tb_ext (n := n) (F := fun _ => 0) (G := fun m => sumN 0 (fun k => if k ≤ m then cf f k * cf g (m - k) else 0) % p) fun m _ => by simp [sumN]]⟩
  refine ⟨a', b', a2', b2', ?_⟩
  rw [e]
  simp [conv_sum]
theorem ev_poly_product (h0 : fs 0 = some f0) (h4 : fs 4 = some f4) {p : Int} (hp : 0 < p) (hp2 : p ≤ 1000000) {f g : List Int} (hf : Rng p f) (hl : f.length ≤ 100000) (hg : g.length ≤ 100000) (hM : 1000000 < M) :
    callK fs M (k + 2) 4 [.int p, .lst (il f), .lst (il g)] S = some (.fre (il (pmul p f g)), S) := by
  rw [callK_f h4]
  by_cases h : f = [] ∨ g = []
  · have e : pmul p f g = [] := by
      have hz : ∀ k, conv (cf f) (cf g) k = 0 := fun k => by
        rcases h with rfl | rfl
        · exact conv_zero_left _ k
        · rw [conv_comm]
          exact conv_zero_left _ k
      exact pol_of hp po_nil (fun k _ => by rw [hz]; exact .refl _ _) fun k => by rw [hz]; exact .refl _ _
    have hb : execs (callK fs M (k + 1)) M b4_poly_product [some (.int p), some (.lst (il f)), some (.lst (il g)), none, none, none, none, none] S = some (.ret (.box S.length), [some (.int p), some (.lst (il f)), some (.lst (il g)), none, none, none, none, none], S ++ [.live (il [])]) := by
      rw [b4_poly_product]
      refine xs_ret ?_
      rcases h with rfl | rfl
      · simp [xs_cons, size_eq]
      · cases f <;> simp [xs_cons, size_eq]
    rw [e]
    simp [runF, hb]
  · have hfn : f ≠ [] := fun z => h (.inl z)
    have hgn : g ≠ [] := fun z => h (.inr z)
    have l1 := List.length_pos_iff.mpr hfn
    have l2 := List.length_pos_iff.mpr hgn
    obtain ⟨n, hn⟩ : ∃ n, f.length + g.length = n + 1 := ⟨f.length + g.length - 1, by omega⟩
    obtain ⟨a, b, a2, b2, ho⟩ := prod_out (S := S) (M := M) (callK fs M (k + 1)) hp hp2 hf (g := g) (n := n) (by omega) none none none none
    have ht := ev_trimmed (M := M) (k := k) (S := S ++ [.live (il (tb n fun m => conv (cf f) (cf g) m % p))]) h0 (d := .box S.length) (ns := tb n fun m => conv (cf f) (cf g) m % p) (by simp) (by simp; omega)
    have hp' : trim (tb n fun m => conv (cf f) (cf g) m % p) = pmul p f g := by
      rw [trim_tb (G := conv (cf f) (cf g)) fun k hk => rfl]
      exact pol_congr (fun k hk => by rw [cf_conv_out (by omega)]; exact .refl _ _) (fun k hk => by rw [cf_conv_out (by omega)]; exact .refl _ _) fun _ => .refl _ _
    have hm : binD true .mul (.lst [.int 0]) (.int ((f.length : Int) + (g.length : Int) - 1)) S = some (.box S.length, S ++ [.live (il (tb n fun _ => 0))]) := by
      have e : (f.length : Int) + (g.length : Int) - 1 = (n : Int) := by omega
      rw [e]
      rw [bin_rep [.int 0] n (by simp; omega) (by omega), flat_rep, il_rep, rep_tb, mk_t]
    have hb : execs (callK fs M (k + 1)) M b4_poly_product [some (.int p), some (.lst (il f)), some (.lst (il g)), none, none, none, none, none] S = some (.ret (.box (S.length + 1)), [some (.int p), some (.lst (il f)), some (.lst (il g)), some (.box S.length), a, b, a2, b2], S ++ [.live (il (tb n fun m => conv (cf f) (cf g) m % p)), .live (il (pmul p f g))]) := by
      rw [b4_poly_product]
      rw [xs_nx (ρ1 := [some (.int p), some (.lst (il f)), some (.lst (il g)), none, none, none, none, none]) (S1 := S) (by
        cases f with
        | nil => exact absurd rfl hfn
        | cons x f =>
          cases g with
          | nil => exact absurd rfl hgn
          | cons y g => simp)]
      rw [xs_nx (ρ1 := [some (.int p), some (.lst (il f)), some (.lst (il g)), some (.box S.length), none, none, none, none]) (S1 := S ++ [.live (il (tb n fun _ => 0))]) (by simp [bi_len _ _ (seqR_lst (S := S) (il f)), bi_len _ _ (seqR_lst (S := S) (il g)), hm, size_eq])]
      rw [xs_nx (ρ1 := [some (.int p), some (.lst (il f)), some (.lst (il g)), some (.box S.length), a, b, a2, b2]) (S1 := S ++ [.live (il (tb n fun m => conv (cf f) (cf g) m % p))]) (by simp [ho])]
      exact xs_ret (by simp [ht, hp'])
    have he := exit_box (S := S) (T := [.live (il (tb n fun m => conv (cf f) (cf g) m % p)), .live (il (pmul p f g))]) 1 rfl
    simp [runF, hb, he]
end
end Sw

set_option Elab.async false
set_option linter.all false
set_option maxRecDepth 100000
set_option maxHeartbeats 4000000
namespace Sw
open PySem PySem.Spec PyProof.Rows L2
section
variable {fs : Nat → Option FD} {M k : Nat} {S : Store} {p : Int}
/-! ### number_over -/
theorem ov_exists (F : Fld p) {a b : Int} (hb : ¬ eqm p b 0) : ∃ c, 0 ≤ c ∧ c < p ∧ eqm p (b * c) a := by
  obtain ⟨y, hy⟩ := F.inv b hb
  refine ⟨(a * y) % p, Int.emod_nonneg _ (by have := F.p0; omega), Int.emod_lt_of_pos _ F.p0, ?_⟩
  refine ((eqm.refl p b).mul (eqm.emod p (a * y))).trans ?_
  obtain ⟨t, e⟩ := hy
  exact ⟨a * t, by grind⟩
open Classical in
noncomputable def ov (p a b : Int) : Int := if h : ∃ c, 0 ≤ c ∧ c < p ∧ eqm p (b * c) a then Classical.choose h else 0
theorem ov_spec (F : Fld p) {a b : Int} (hb : ¬ eqm p b 0) : 0 ≤ ov p a b ∧ ov p a b < p ∧ eqm p (b * ov p a b) a := by
  unfold ov
  rw [dif_pos (ov_exists F hb)]
  exact Classical.choose_spec (ov_exists F hb)
theorem ov_unique (F : Fld p) {a b c : Int} (hb : ¬ eqm p b 0) (h0 : 0 ≤ c) (h1 : c < p) (h : eqm p (b * c) a) : c = ov p a b := by
  obtain ⟨g0, g1, g⟩ := ov_spec F (a := a) hb
  exact eqm_small (F.cancel hb (h.trans g.symm)) ⟨h0, h1⟩ ⟨g0, g1⟩
def pick (p a b : Int) (d : D) : Option D := match d with
  | .int z => if (b * z) % p = a % p then some (.int z) else none
  | _ => none
theorem ev_number_over (h5 : fs 5 = some f5) (F : Fld p) (hp2 : p ≤ 1000000) {a b : Int} (hb : ¬ eqm p b 0) : callK fs M (k + 1) 5 [.int p, .int a, .int b] S = some (.int (ov p a b), S) := by
  rw [callK_f h5]
  obtain ⟨n, rfl⟩ : ∃ n : Nat, p = (n : Int) := ⟨p.toNat, by have := F.p0; omega⟩
  have hp := F.p0
  have e1 := ei_rng1 (c := callK fs M k) (es := .cons (.var 0) .nil) (ρ := [some (.int (n : Nat)), some (.int a), some (.int b), none]) (S := S) (S1 := S) n (by simp) (by omega)
  have hc := compL_map (S := S) (wk := ⟨rngI 0 n, none⟩) (step := stepC (callK fs M k) e5_1 (.name 3) q5_2 [3] [some (.int (n : Nat)), some (.int a), some (.int b), none]) (pick (n : Int) a b) (ds := rngI 0 n) rfl fun d hd => by
      unfold rngI at hd
      obtain ⟨j, hj, rfl⟩ := List.mem_map.mp hd
      have hj := List.mem_range.mp hj
      have hs : -18446744073709551616 < (j : Int) ∧ (j : Int) < 18446744073709551616 := by omega
      by_cases h : (b * (j : Int)) % n = a % n
      · simp [stepC, asg, wipeE, e5_1, q5_2, bin_mulR hs, bin_mod hp, h, pick]
      · simp [stepC, asg, wipeE, e5_1, q5_2, bin_mulR hs, bin_mod hp, h, pick]
  obtain ⟨o0, o1, oe⟩ := ov_spec F (a := a) hb
  have hmem : D.int (ov n a b) ∈ (rngI 0 n).filterMap (pick (n : Int) a b) := List.mem_filterMap.mpr ⟨.int (ov n a b), by
      unfold rngI
      refine List.mem_map.mpr ⟨(ov n a b).toNat, List.mem_range.mpr (by omega), ?_⟩
      congr 1
      omega, by
      show (if (b * ov n a b) % n = a % n then _ else _) = _
      rw [if_pos (eqm_iff.mp oe)]⟩
  have hall : ∀ d ∈ (rngI 0 n).filterMap (pick (n : Int) a b), d = D.int (ov n a b) := fun d hd => by
      obtain ⟨d', h1, h2⟩ := List.mem_filterMap.mp hd
      unfold rngI at h1
      obtain ⟨j, hj, rfl⟩ := List.mem_map.mp h1
      have hj := List.mem_range.mp hj
      have h2 : (if (b * (0 + (j : Int))) % n = a % n then some (D.int (0 + (j : Int))) else none) = some d := h2
      split at h2
      · rename_i h
        cases h2
        rw [ov_unique F hb (by omega) (by omega) (eqm_iff.mpr h)]
      · cases h2
  generalize hL : (rngI 0 n).filterMap (pick (n : Int) a b) = L at *
  obtain ⟨d, t, rfl⟩ : ∃ d t, L = d :: t := by
    cases L with
    | nil => cases hmem
    | cons d t => exact ⟨d, t, rfl⟩
  have hd : d = .int (ov n a b) := hall d List.mem_cons_self
  subst hd
  have hl : (rngI 0 n).length < sizeLine := by
    have e : (rngI 0 n).length = n := by simp [rngI]
    rw [e, size_eq]
    omega
  have he : evalE (callK fs M k) (.comp false e5_1 (.name 3) (.rng (.cons (.var 0) .nil)) q5_2 [3]) [some (.int (n : Nat)), some (.int a), some (.int b), none] S = some (.lst (.int (ov n a b) :: t), S) := by
    rw [ev_comp, e1]
    dsimp only
    rw [hc]
    simp only [hl, if_true, mk_f]
  have hi : idxD S (.lst (.int (ov n a b) :: t)) (.int 0) = some (.int (ov n a b)) := idx_nat (j := 0) (seqR_lst _) rfl
  have hx : execs (callK fs M k) M b5_number_over [some (.int (n : Nat)), some (.int a), some (.int b), none] S = some (.ret (.int (ov n a b)), [some (.int (n : Nat)), some (.int a), some (.int b), none], S) := by
    rw [b5_number_over]
    refine xs_ret ?_
    rw [x_ret, ev_idx, he]
    simp [hi]
  simp [runF, hx]
/-! ### poly_parts -/
theorem parts_in (c : Fns) (hp : 0 < p) {f g : List Int} {n t m : Nat} {fac : Int} {X : List D} (F : Nat → Int) (hk : t + g.length ≤ n) (h1 : -18446744073709551616 < fac ∧ fac < 18446744073709551616) (a b : Option D) :
    ∃ a' b', forL ⟨enumD (il g), none⟩ (stepF c M (.tup (.cons (.name 7) (.cons (.name 8) .nil))) w6_1) (enumD (il g)) [some (.int p), some (.lst (il f)), some (.lst (il g)), some (.box S.length), some (.box (S.length + 1)), some (.int (t : Nat)), some (.int fac), a, b] (S ++ [.live (il (tb n F)), .live X]) =
      some (.nx, [some (.int p), some (.lst (il f)), some (.lst (il g)), some (.box S.length), some (.box (S.length + 1)), some (.int (t : Nat)), some (.int fac), a', b'], S ++ [.live (il (tb n fun m => if t ≤ m ∧ m < t + g.length then (F m - fac * cf g (m - t)) % p else F m)), .live X]) := by
  obtain ⟨ρ1, S1, e, ⟨a', b', rfl⟩, rfl⟩ := forL_inv (wk := ⟨enumD (il g), none⟩) (b := stepF c M (.tup (.cons (.name 7) (.cons (.name 8) .nil))) w6_1)
    (fun i ρ T => (∃ a b, ρ = [some (.int p), some (.lst (il f)), some (.lst (il g)), some (.box S.length), some (.box (S.length + 1)), some (.int (t : Nat)), some (.int fac), a, b]) ∧ T = S ++ [.live (il (tb n fun m => if t ≤ m ∧ m < t + i then (F m - fac * cf g (m - t)) % p else F m)), .live X])
    (enumD (il g)) 0 (fun i d ρ T hd ⟨⟨a, b, hρ⟩, hT⟩ => by
      obtain ⟨hi, rfl⟩ := enum_get hd
      subst hρ
      subst hT
      rw [Nat.zero_add]
      refine ⟨_, _, ?_, rfl, ⟨some (.int (i : Nat)), some (.int (cf g i)), rfl⟩, rfl⟩
      have e1 : ((t : Int) + (i : Int)) = ((t + i : Nat) : Int) := by omega
      have hr := idx_tb (S := S ++ [.live (il (tb n fun m => if t ≤ m ∧ m < t + i then (F m - fac * cf g (m - t)) % p else F m)), .live X]) (b := S.length) (n := n) (j := t + i) (F := fun m => if t ≤ m ∧ m < t + i then (F m - fac * cf g (m - t)) % p else F m) (k := (t : Int) + (i : Int)) (by simp) e1 (by omega)
      have hs := set_tb (S := S ++ [.live (il (tb n fun m => if t ≤ m ∧ m < t + i then (F m - fac * cf g (m - t)) % p else F m)), .live X]) (b := S.length) (n := n) (j := t + i) (F := fun m => if t ≤ m ∧ m < t + i then (F m - fac * cf g (m - t)) % p else F m) (k := (t : Int) + (i : Int)) (x := (F (t + i) - fac * cf g i) % p) (by simp) e1 (by omega)
      have ht : tb n (fun m => if m = t + i then (F (t + i) - fac * cf g i) % p else if t ≤ m ∧ m < t + i then (F m - fac * cf g (m - t)) % p else F m) = tb n fun m => if t ≤ m ∧ m < t + (i + 1) then (F m - fac * cf g (m - t)) % p else F m := tb_ext fun m hm => by
        by_cases h : m = t + i
        · subst h
          rw [if_pos rfl, if_pos (by omega), Nat.add_sub_cancel_left]
        · rw [if_neg h]
          by_cases h2 : t ≤ m ∧ m < t + i
          · rw [if_pos h2, if_pos (by omega)]
          · rw [if_neg h2, if_neg (by omega)]
      rw [ht] at hs
      simp at hr
      simp [stepF, asg, asgs, w6_1, xs_cons, hr, bin_mulL h1, bin_mod hp, hs])
    [some (.int p), some (.lst (il f)), some (.lst (il g)), some (.box S.length), some (.box (S.length + 1)), some (.int (t : Nat)), some (.int fac), a, b] (S ++ [.live (il (tb n F)), .live X]) ⟨⟨a, b, rfl⟩, by
      rw [tb_ext (n := n) (F := F) (G := fun m => if t ≤ m ∧ m < t + 0 then (F m - fac * cf g (m - t)) % p else F m) fun m _ => by rw [if_neg (by omega)]]⟩
  refine ⟨a', b', ?_⟩
  rw [e]
  simp
theorem conv_delta (t : Nat) (c : Int) (G : Nat → Int) (k : Nat) : conv (fun j => if j = t then c else 0) G k = if t ≤ k then c * G (k - t) else 0 := by
  split
  · rename_i h
    obtain ⟨z, e⟩ := sumN_single (p := 0) (n := k + 1) (f := fun j => (if j = t then c else 0) * G (k - j)) (i := t) (by omega) fun j hj hne => by
      rw [if_neg hne, Int.zero_mul]
      exact .refl _ _
    unfold conv
    rw [e, if_pos rfl]
    omega
  · rename_i h
    exact (sumN_congr (g := fun _ => 0) fun j hj => by
      show (if j = t then c else 0) * _ = 0
      rw [if_neg (by omega), Int.zero_mul]).trans (sumN_zero _)
theorem rng_down {a n : Nat} (h : a ≤ 1000000) (hn : n = a + 1) : rngD [.int (a : Nat), .int (-1), .int (-1)] = some (rngC (a : Nat) (-1) n) := by
  show (if inRg (a : Int) ∧ inRg (-1) ∧ (-1 : Int) = -1 then some (rngC (a : Int) (-1) ((a : Int) - (-1)).toNat) else none) = _
  rw [if_pos ⟨⟨by omega, by omega⟩, ⟨by omega, by omega⟩, rfl⟩, hn]
  congr 2
theorem rng_down0 {i : Int} (h : -1000000 ≤ i) (hn : i < 0) : rngD [.int i, .int (-1), .int (-1)] = some [] := by
  show (if inRg i ∧ inRg (-1) ∧ (-1 : Int) = -1 then some (rngC i (-1) (i - (-1)).toNat) else none) = _
  rw [if_pos ⟨⟨by omega, by omega⟩, ⟨by omega, by omega⟩, rfl⟩, show (i - (-1)).toNat = 0 by omega]
  rfl
/-- what holds between the turns: L what is left, Q what is found -/
structure PartsAt (p : Int) (f g : List Int) (m i : Nat) (L Q : Nat → Int) : Prop where
  rl : ∀ k, k < f.length → 0 ≤ L k ∧ L k < p
  rq : ∀ k, k < m → 0 ≤ Q k ∧ Q k < p
  q0 : ∀ k, k < m - i → Q k = 0
  l0 : ∀ k, f.length - i ≤ k → k < f.length → L k = 0
  eq : ∀ k, eqm p (conv (cf (tb m Q)) (cf g) k + cf (tb f.length L) k) (cf f k)
theorem PartsAt.start (hp : 0 < p) {f g : List Int} {m : Nat} (hf : Rng p f) : PartsAt p f g m 0 (cf f) fun _ => 0 where
  rl := fun k _ => hf.cf hp k
  rq := fun k _ => ⟨Int.le_refl _, hp⟩
  q0 := fun _ _ => rfl
  l0 := fun k h1 h2 => by omega
  eq := fun k => by
    rw [← tb_of, conv_congr (F := cf (tb m fun _ => 0)) (F' := fun _ => 0) (fun j _ => by rw [cf_tb]; split <;> rfl) fun _ _ => rfl, conv_zero_left, Int.zero_add]
    exact .refl _ _
theorem PartsAt.step (F : Fld p) {f g : List Int} {m i : Nat} {L Q : Nat → Int} (hg : Po p g) (hn : g ≠ []) (hm : m + g.length = f.length + 1) (hi : i < m) (h : PartsAt p f g m i L Q) {c : Int}
    (h0 : 0 ≤ c) (h1 : c < p) (hc : eqm p (cf g (g.length - 1) * c) (L (m - 1 - i + g.length - 1))) :
    PartsAt p f g m (i + 1) (fun k => if m - 1 - i ≤ k ∧ k < m - 1 - i + g.length then (L k - c * cf g (k - (m - 1 - i))) % p else L k) (fun k => if k = m - 1 - i then c else Q k) := by
  have hl := List.length_pos_iff.mpr hn
  have hp := F.p0
  refine ⟨fun k hk => ?_, fun k hk => ?_, fun k hk => ?_, fun k h2 h3 => ?_, fun k => ?_⟩
  · split
    · exact ⟨Int.emod_nonneg _ (by omega), Int.emod_lt_of_pos _ hp⟩
    · exact h.rl k hk
  · split
    · exact ⟨h0, h1⟩
    · exact h.rq k hk
  · rw [if_neg (by omega)]
    exact h.q0 k (by omega)
  · by_cases e : k = m - 1 - i + g.length - 1
    · rw [if_pos (by omega)]
      have e2 : k - (m - 1 - i) = g.length - 1 := by omega
      rw [e2, e]
      have z : eqm p (L (m - 1 - i + g.length - 1) - c * cf g (g.length - 1)) 0 := by
        obtain ⟨t, ht⟩ := hc
        exact ⟨-t, by grind⟩
      rw [eqm_iff.mp z, Int.zero_emod]
    · rw [if_neg (by omega)]
      exact h.l0 k (by omega) h3
  · have hq : ∀ j, cf (tb m fun k => if k = m - 1 - i then c else Q k) j = cf (tb m Q) j + (if j = m - 1 - i then c else 0) := fun j => by
      rw [cf_tb, cf_tb]
      by_cases hj : j = m - 1 - i
      · subst hj
        have hq := h.q0 (m - 1 - i) (by omega)
        simp [hq]
        omega
      · rw [if_neg hj, if_neg hj, Int.add_zero]
    rw [conv_congr (fun j _ => hq j) fun _ _ => rfl, conv_add_left, conv_delta]
    refine .trans ?_ (h.eq k)
    rw [cf_tb, cf_tb]
    by_cases hk : k < f.length
    · rw [if_pos hk, if_pos hk]
      by_cases hk2 : m - 1 - i ≤ k
      · rw [if_pos hk2]
        by_cases hk3 : k < m - 1 - i + g.length
        · rw [if_pos ⟨hk2, hk3⟩]
          obtain ⟨t, e⟩ := eqm.emod p (L k - c * cf g (k - (m - 1 - i)))
          exact ⟨t, by grind⟩
        · rw [if_neg (fun z => hk3 z.2), cf_out (f := g) (by omega), Int.mul_zero, Int.add_zero]
          exact .refl _ _
      · rw [if_neg hk2, if_neg (fun z => hk2 z.1), Int.add_zero]
        exact .refl _ _
    · rw [if_neg hk, if_neg hk]
      rw [cf_out (f := g) (by omega), Int.mul_zero]
      split
      · rw [Int.add_zero]
        exact .refl _ _
      · rw [Int.add_zero]
        exact .refl _ _
theorem PartsAt.done (F : Fld p) {f g : List Int} {m : Nat} {L Q : Nat → Int} (hn : g ≠ []) (hm : m + g.length = f.length + 1) (h : PartsAt p f g m m L Q) : IsDiv p f g (trim (tb m Q)) (trim (tb f.length L)) := by
  have hl := List.length_pos_iff.mpr hn
  refine ⟨⟨trim_tr _, Rng.trim (rng_of fun k hk => ?_)⟩, ⟨trim_tr _, Rng.trim (rng_of fun k hk => ?_)⟩, ?_, fun k => ?_⟩
  · rw [tb_length] at hk
    rw [cf_tb, if_pos hk]
    exact h.rq k hk
  · rw [tb_length] at hk
    rw [cf_tb, if_pos hk]
    exact h.rl k hk
  · have : (trim (tb f.length L)).length ≤ g.length - 1 := tr_len (trim_tr _) fun k hk => by
      rw [cf_trim, cf_tb]
      split
      · rename_i hk2
        exact h.l0 k (by omega) hk2
      · rfl
    omega
  · rw [cf_trim, conv_congr (F := cf (trim (tb m Q))) (F' := cf (tb m Q)) (fun j _ => cf_trim _ j) fun _ _ => rfl]
    exact h.eq k
theorem div_short (F : Fld p) {f g : List Int} (hf : Po p f) (h : f.length < g.length) : IsDiv p f g [] f :=
  ⟨po_nil, hf, h, fun k => by
    rw [show conv (cf []) (cf g) k = 0 from conv_zero_left _ k, Int.zero_add]
    exact .refl _ _⟩
theorem parts_out (h5 : fs 5 = some f5) (F : Fld p) (hp2 : p ≤ 1000000) {f g : List Int} (hf : Rng p f) (hg : Po p g) (hn : g ≠ []) {m : Nat} (hm : m + g.length = f.length + 1) (hm1 : 0 < m) (a b a2 b2 : Option D) :
    ∃ L Q a' b' a2' b2', PartsAt p f g m m L Q ∧ forL ⟨rngC ((m - 1 : Nat) : Int) (-1) m, none⟩ (stepF (callK fs M (k + 1)) M (.name 5) w6_2) (rngC ((m - 1 : Nat) : Int) (-1) m)
      [some (.int p), some (.lst (il f)), some (.lst (il g)), some (.box S.length), some (.box (S.length + 1)), a, b, a2, b2] (S ++ [.live (il f), .live (il (tb m fun _ => 0))]) =
      some (.nx, [some (.int p), some (.lst (il f)), some (.lst (il g)), some (.box S.length), some (.box (S.length + 1)), a', b', a2', b2'], S ++ [.live (il (tb f.length L)), .live (il (tb m Q))]) := by
  have hl := List.length_pos_iff.mpr hn
  have hp := F.p0
  have hlen : (rngC ((m - 1 : Nat) : Int) (-1) m).length = m := by simp [rngC]
  obtain ⟨ρ1, S1, e, ⟨a', b', a2', b2', rfl⟩, L, Q, rfl, hPa⟩ := forL_inv (wk := ⟨rngC ((m - 1 : Nat) : Int) (-1) m, none⟩) (b := stepF (callK fs M (k + 1)) M (.name 5) w6_2)
    (fun i ρ T => (∃ a b a2 b2, ρ = [some (.int p), some (.lst (il f)), some (.lst (il g)), some (.box S.length), some (.box (S.length + 1)), a, b, a2, b2]) ∧ ∃ L Q, T = S ++ [.live (il (tb f.length L)), .live (il (tb m Q))] ∧ PartsAt p f g m i L Q)
    (rngC ((m - 1 : Nat) : Int) (-1) m) 0 (fun i d ρ T hd ⟨⟨a, b, a2, b2, hρ⟩, L, Q, hT, hP⟩ => by
      have hi : i < m := by
        have := (List.getElem?_eq_some_iff.mp hd).1
        rwa [hlen] at this
      have hd : d = .int ((m - 1 - i : Nat) : Int) := by
        unfold rngC at hd
        rw [List.getElem?_map, List.getElem?_range hi] at hd
        cases hd
        refine congrArg D.int ?_
        omega
      subst hd
      subst hρ
      subst hT
      rw [Nat.zero_add] at hP ⊢
      have e1 : ((m - 1 - i : Nat) : Int) + (g.length : Int) - 1 = ((m - 1 - i + g.length - 1 : Nat) : Int) := by omega
      have hr := idx_tb (S := S ++ [.live (il (tb f.length L)), .live (il (tb m Q))]) (b := S.length) (n := f.length) (j := m - 1 - i + g.length - 1) (F := L) (k := ((m - 1 - i : Nat) : Int) + (g.length : Int) - 1) (by simp) e1 (by omega)
      have hlast : idxD (S ++ [.live (il (tb f.length L)), .live (il (tb m Q))]) (.lst (il g)) (.int (-1)) = some (.int (cf g (g.length - 1))) := idx_lst (seqR_lst _) (atI_last (by
        unfold il
        rw [List.getLast?_map, last_cf hn]
        rfl))
      have hb : ¬ eqm p (cf g (g.length - 1)) 0 := hg.top hp hn
      obtain ⟨o0, o1, oe⟩ := ov_spec F (a := L (m - 1 - i + g.length - 1)) hb
      have hc := ev_number_over (M := M) (k := k) (S := S ++ [.live (il (tb f.length L)), .live (il (tb m Q))]) h5 F hp2 (a := L (m - 1 - i + g.length - 1)) hb
      have hs := set_tb (S := S ++ [.live (il (tb f.length L)), .live (il (tb m Q))]) (b := S.length + 1) (n := m) (j := m - 1 - i) (F := Q) (k := ((m - 1 - i : Nat) : Int)) (x := ov p (L (m - 1 - i + g.length - 1)) (cf g (g.length - 1))) (by simp) rfl (by omega)
      obtain ⟨a2', b2', hin⟩ := parts_in (S := S) (M := M) (callK fs M (k + 1)) hp (f := f) (g := g) (n := f.length) (t := m - 1 - i) (m := m) (fac := ov p (L (m - 1 - i + g.length - 1)) (cf g (g.length - 1))) (X := il (tb m fun k => if k = m - 1 - i then ov p (L (m - 1 - i + g.length - 1)) (cf g (g.length - 1)) else Q k)) L (by omega) (by omega) a2 b2
      refine ⟨_, _, ?_, rfl, ⟨some (.int ((m - 1 - i : Nat) : Int)), some (.int (ov p (L (m - 1 - i + g.length - 1)) (cf g (g.length - 1)))), a2', b2', rfl⟩, _, _, rfl, hP.step F hg hn hm hi o0 o1 oe⟩
      have hs' : setIxD (S ++ [.live (il (tb f.length L)), .live (il (tb m Q))]) (.box (S.length + 1)) (.int ((m - 1 - i : Nat) : Int)) (.int (ov p (L (m - 1 - i + g.length - 1)) (cf g (g.length - 1)))) = some (S ++ [.live (il (tb f.length L)), .live (il (tb m fun k => if k = m - 1 - i then ov p (L (m - 1 - i + g.length - 1)) (cf g (g.length - 1)) else Q k))]) := by
        rw [hs]
        simp
      clear hs
      simp only [stepF, asg, List.set_cons_succ, List.set_cons_zero]
      rw [w6_2]
      rw [xs_nx (ρ1 := [some (.int p), some (.lst (il f)), some (.lst (il g)), some (.box S.length), some (.box (S.length + 1)), some (.int ((m - 1 - i : Nat) : Int)), some (.int (ov p (L (m - 1 - i + g.length - 1)) (cf g (g.length - 1)))), a2, b2]) (S1 := S ++ [.live (il (tb f.length L)), .live (il (tb m Q))]) (by
        simp only [x_set, ev_callF, es_cons, ev_var, ev_idx, ev_bin, ev_bi, ev_neg, ev_cI, es_nil, List.getElem?_cons_succ, List.getElem?_cons_zero, bin_add, bin_sub, bi_len _ _ (seqR_lst (S := S ++ [.live (il (tb f.length L)), .live (il (tb m Q))]) (il g)), il_length, hr, hlast, Option.map, hc, unfre_int, List.set_cons_succ, List.set_cons_zero])]
      rw [xs_nx (ρ1 := [some (.int p), some (.lst (il f)), some (.lst (il g)), some (.box S.length), some (.box (S.length + 1)), some (.int ((m - 1 - i : Nat) : Int)), some (.int (ov p (L (m - 1 - i + g.length - 1)) (cf g (g.length - 1)))), a2, b2]) (S1 := S ++ [.live (il (tb f.length L)), .live (il (tb m fun k => if k = m - 1 - i then ov p (L (m - 1 - i + g.length - 1)) (cf g (g.length - 1)) else Q k))]) (by
        simp only [x_setIx, ev_var, List.getElem?_cons_succ, List.getElem?_cons_zero, hs', Option.map])]
      rw [xs_nx (by simp only [x_forS, ei_enum, ev_var, List.getElem?_cons_succ, List.getElem?_cons_zero, seqW_lst, Option.map]; exact hin)]
      simp only [xs_nil])
    [some (.int p), some (.lst (il f)), some (.lst (il g)), some (.box S.length), some (.box (S.length + 1)), a, b, a2, b2] (S ++ [.live (il f), .live (il (tb m fun _ => 0))]) ⟨⟨a, b, a2, b2, rfl⟩, cf f, fun _ => 0, by rw [← tb_of], .start hp hf⟩
  rw [hlen, Nat.zero_add] at hPa
  exact ⟨L, Q, a', b', a2', b2', hPa, e⟩
end
end Sw

set_option Elab.async false
set_option linter.all false
set_option maxRecDepth 100000
set_option maxHeartbeats 4000000
namespace Sw
open PySem PySem.Spec PyProof.Rows L2
section
variable {fs : Nat → Option FD} {M k : Nat} {S : Store} {p : Int}
theorem ei_rngD {c : Fns} {es : Es} {ρ : Env} {S S1 : Store} {ds xs : List D} (hes : evalEs c es ρ S = some (ds, S1)) (hr : rngD ds = some xs) : evalI c (.rng es) ρ S = some (⟨xs, none⟩, S1) := by
  rw [ei_rng, hes]
  dsimp only
  rw [hr]
  rfl
theorem pack_box (k n i : Nat) {S : Store} {ns : List Int} (hn : n ≤ i) (h : S[i]? = some (.live (il ns))) : packD (k + 2) n (.box i) S = some (.fre (il ns), S.set i .dead) := by
  rw [packD, if_neg (by omega), h]
  simp only [pack_il]
theorem exit_tup2 {S T : Store} (i j : Nat) {a b : List Int} (hij : i ≠ j) (h1 : T[i]? = some (.live (il a))) (h2 : T[j]? = some (.live (il b))) : exitD S.length (.tup [.box (S.length + i), .box (S.length + j)]) (S ++ T) = some (.tup [.fre (il a), .fre (il b)], S) := by
  have p1 : packD 7 S.length (.box (S.length + i)) (S ++ T) = some (.fre (il a), S ++ T.set i .dead) := by
    rw [pack_box 5 _ _ (by omega) (by rw [app_get]; exact h1), app_set]
  have p2 : packD 7 S.length (.box (S.length + j)) (S ++ T.set i .dead) = some (.fre (il b), S ++ (T.set i .dead).set j .dead) := by
    rw [pack_box 5 _ _ (by omega) (by rw [app_get, List.getElem?_set_ne hij]; exact h2), app_set]
  unfold exitD
  rw [packD]
  simp only [frzA, p1, p2]
  simp
open Classical in
noncomputable def dq (p : Int) (f g : List Int) : List Int := if h : ∃ q r, IsDiv p f g q r then h.choose else []
open Classical in
noncomputable def dr (p : Int) (f g : List Int) : List Int := if h : ∃ q r, IsDiv p f g q r then h.choose_spec.choose else []
theorem div_eq (F : Fld p) {f g q r : List Int} (hg : Po p g) (h : IsDiv p f g q r) : q = dq p f g ∧ r = dr p f g := by
  have he : ∃ q r, IsDiv p f g q r := ⟨q, r, h⟩
  have : IsDiv p f g (dq p f g) (dr p f g) := by
    unfold dq dr
    rw [dif_pos he, dif_pos he]
    exact he.choose_spec.choose_spec
  exact div_unique F hg h this
theorem ev_poly_parts' (h0 : fs 0 = some f0) (h5 : fs 5 = some f5) (h6 : fs 6 = some f6) (F : Fld p) (hp2 : p ≤ 1000000) {f g : List Int} (hf : Po p f) (hg : Po p g) (hn : g ≠ []) (hl : f.length ≤ 100000) (hl2 : g.length ≤ 100000) (hM : 1000000 < M) :
    ∃ q r, IsDiv p f g q r ∧ callK fs M (k + 2) 6 [.int p, .lst (il f), .lst (il g)] S = some (.tup [.fre (il q), .fre (il r)], S) := by
  have lg := List.length_pos_iff.mpr hn
  obtain ⟨m, hm⟩ : ∃ m : Nat, max 0 ((f.length : Int) - (g.length : Int) + 1) = (m : Int) := ⟨(max 0 ((f.length : Int) - (g.length : Int) + 1)).toNat, by omega⟩
  have hset : ∀ L Q : Nat → Int, ∀ a b a2 b2 : Option D, IsDiv p f g (trim (tb m Q)) (trim (tb f.length L)) → exec (callK fs M (k + 1)) M (.forS (.name 5) (.rng (.cons (.bin false .sub (.bi .len false (.cons (.var 1) .nil)) (.bi .len false (.cons (.var 2) .nil))) (.cons (.neg (.cI 1)) (.cons (.neg (.cI 1)) .nil)))) w6_2)
      [some (.int p), some (.lst (il f)), some (.lst (il g)), some (.box S.length), some (.box (S.length + 1)), none, none, none, none] (S ++ [.live (il f), .live (il (tb m fun _ => 0))]) =
      some (.nx, [some (.int p), some (.lst (il f)), some (.lst (il g)), some (.box S.length), some (.box (S.length + 1)), a, b, a2, b2], S ++ [.live (il (tb f.length L)), .live (il (tb m Q))]) →
      ∃ q r, IsDiv p f g q r ∧ callK fs M (k + 2) 6 [.int p, .lst (il f), .lst (il g)] S = some (.tup [.fre (il q), .fre (il r)], S) := by
    intro L Q a b a2 b2 hd he
    refine ⟨_, _, hd, ?_⟩
    rw [callK_f h6]
    have ht1 := ev_trimmed (M := M) (k := k) (S := S ++ [.live (il (tb f.length L)), .live (il (tb m Q))]) h0 (d := .box (S.length + 1)) (ns := tb m Q) (by
      show getBox _ _ = _
      exact getBox_live (by simp)) (by simp; omega)
    have ht2 := ev_trimmed (M := M) (k := k) (S := S ++ [.live (il (tb f.length L)), .live (il (tb m Q)), .live (il (trim (tb m Q)))]) h0 (d := .box S.length) (ns := tb f.length L) (by
      show getBox _ _ = _
      exact getBox_live (by simp)) (by simp; omega)
    have hb : execs (callK fs M (k + 1)) M b6_poly_parts [some (.int p), some (.lst (il f)), some (.lst (il g)), none, none, none, none, none, none] S = some (.ret (.tup [.box (S.length + 2), .box (S.length + 3)]), [some (.int p), some (.lst (il f)), some (.lst (il g)), some (.box S.length), some (.box (S.length + 1)), a, b, a2, b2], S ++ [.live (il (tb f.length L)), .live (il (tb m Q)), .live (il (trim (tb m Q))), .live (il (trim (tb f.length L)))]) := by
      rw [b6_poly_parts]
      rw [xs_nx (ρ1 := [some (.int p), some (.lst (il f)), some (.lst (il g)), some (.box S.length), none, none, none, none, none]) (S1 := S ++ [.live (il f)]) (by simp [bi_list _ _ (seqR_lst (S := S) (il f))])]
      rw [xs_nx (ρ1 := [some (.int p), some (.lst (il f)), some (.lst (il g)), some (.box S.length), some (.box (S.length + 1)), none, none, none, none]) (S1 := S ++ [.live (il f), .live (il (tb m fun _ => 0))]) (by
        have e := bin_rep (o := true) (S := S ++ [.live (il f)]) [.int 0] m (by simp; omega) (by omega)
        rw [flat_rep, il_rep, rep_tb] at e
        simp only [x_set, ev_bin, ev_lst, es_cons, ev_cI, es_nil, ev_bi, ev_var, List.getElem?_cons_zero, List.getElem?_cons_succ, bi_len _ _ (seqR_lst (S := S ++ [.live (il f)]) (il f)), bi_len _ _ (seqR_lst (S := S ++ [.live (il f)]) (il g)), il_length, bin_sub, bin_add, bi_max2, hm]
        simp [size_eq, hm, e])]
      rw [xs_nx he]
      refine xs_ret ?_
      simp [ht1, ht2, size_eq]
    have he := exit_tup2 (S := S) (T := [.live (il (tb f.length L)), .live (il (tb m Q)), .live (il (trim (tb m Q))), .live (il (trim (tb f.length L)))]) 2 3 (by decide) rfl rfl
    simp [runF, hb, he]
  have hes : evalEs (callK fs M (k + 1)) (.cons (.bin false .sub (.bi .len false (.cons (.var 1) .nil)) (.bi .len false (.cons (.var 2) .nil))) (.cons (.neg (.cI 1)) (.cons (.neg (.cI 1)) .nil))) [some (.int p), some (.lst (il f)), some (.lst (il g)), some (.box S.length), some (.box (S.length + 1)), none, none, none, none] (S ++ [.live (il f), .live (il (tb m fun _ => 0))]) =
      some ([.int ((f.length : Int) - (g.length : Int)), .int (-1), .int (-1)], S ++ [.live (il f), .live (il (tb m fun _ => 0))]) := by
    simp only [es_cons, ev_bin, ev_bi, ev_var, ev_neg, ev_cI, es_nil, List.getElem?_cons_zero, List.getElem?_cons_succ, bi_len _ _ (seqR_lst (S := S ++ [.live (il f), .live (il (tb m fun _ => 0))]) (il f)), bi_len _ _ (seqR_lst (S := S ++ [.live (il f), .live (il (tb m fun _ => 0))]) (il g)), il_length, bin_sub]
  by_cases hlt : f.length < g.length
  · have hm0 : m = 0 := by omega
    subst hm0
    refine hset (cf f) (fun _ => 0) none none none none ?_ ?_
    · rw [← tb_of, trim_id hf.tr]
      exact div_short F hf hlt
    · rw [x_forS, ei_rngD hes (rng_down0 (by omega) (by omega))]
      dsimp only
      rw [forL, ← tb_of]
  · have hm1 : m + g.length = f.length + 1 := by omega
    obtain ⟨L, Q, a, b, a2, b2, hP, he⟩ := parts_out (S := S) (M := M) (k := k) h5 F hp2 hf.rng hg hn hm1 (by omega) none none none none
    refine hset L Q a b a2 b2 (hP.done F hn hm1) ?_
    have hd : (f.length : Int) - (g.length : Int) = ((m - 1 : Nat) : Int) := by omega
    rw [x_forS, ei_rngD hes (by rw [hd]; exact rng_down (a := m - 1) (n := m) (by omega) (by omega))]
    exact he
theorem ev_poly_parts (h0 : fs 0 = some f0) (h5 : fs 5 = some f5) (h6 : fs 6 = some f6) (F : Fld p) (hp2 : p ≤ 1000000) {f g : List Int} (hf : Po p f) (hg : Po p g) (hn : g ≠ []) (hl : f.length ≤ 100000) (hl2 : g.length ≤ 100000) (hM : 1000000 < M) :
    callK fs M (k + 2) 6 [.int p, .lst (il f), .lst (il g)] S = some (.tup [.fre (il (dq p f g)), .fre (il (dr p f g))], S) := by
  obtain ⟨q, r, h, e⟩ := ev_poly_parts' (M := M) (k := k) (S := S) h0 h5 h6 F hp2 hf hg hn hl hl2 hM
  obtain ⟨rfl, rfl⟩ := div_eq F hg h
  exact e
end
/-- the division is there: by the program's own (or any) table -/
theorem div_is {p : Int} (F : Fld p) (hp2 : p ≤ 1000000) {f g : List Int} (hf : Po p f) (hg : Po p g) (hn : g ≠ []) (hl : f.length ≤ 100000) (hl2 : g.length ≤ 100000) : IsDiv p f g (dq p f g) (dr p f g) := by
  obtain ⟨q, r, h, _⟩ := ev_poly_parts' (M := 1000001) (k := 0) (S := []) (fs := fun i => if i = 0 then some f0 else if i = 5 then some f5 else some f6) rfl rfl rfl F hp2 hf hg hn hl hl2 (by decide)
  obtain ⟨rfl, rfl⟩ := div_eq F hg h
  exact h
end Sw

set_option Elab.async false
set_option linter.all false
set_option maxRecDepth 100000
set_option maxHeartbeats 4000000
namespace Sw
open PySem PySem.Spec PyProof.Rows L2
/-! ### values -/
def pe (a : Int) : List Int → Int
  | [] => 0
  | x :: xs => x + a * pe a xs
theorem pe_sum (a : Int) : ∀ f : List Int, pe a f = sumN f.length fun k => cf f k * a ^ k
  | [] => rfl
  | x :: xs => by
    show x + a * pe a xs = cf (x :: xs) 0 * a ^ 0 + sumN xs.length fun k => cf (x :: xs) (k + 1) * a ^ (k + 1)
    rw [pe_sum a xs, ← sumN_mul, Int.pow_zero, Int.mul_one, cf_zero]
    congr 1
    exact sumN_congr fun j _ => by rw [cf_succ, Int.pow_succ]; grind
theorem pe_sum' (a : Int) (f : List Int) {n : Nat} (h : f.length ≤ n) : pe a f = sumN n fun k => cf f k * a ^ k := by
  rw [pe_sum]
  exact (sumN_more h fun j h1 _ => by rw [cf_out h1, Int.zero_mul]).symm
theorem pe_eqm {p : Int} (a : Int) {f : List Int} {F : Nat → Int} {n : Nat} (h : f.length ≤ n) (he : ∀ k, eqm p (cf f k) (F k)) : eqm p (pe a f) (sumN n fun k => F k * a ^ k) := by
  rw [pe_sum' a f h]
  exact sumN_eqm fun j _ => (he j).mul (.refl _ _)
theorem pe_padd (p a : Int) (f g : List Int) : eqm p (pe a (padd p f g)) (pe a f + pe a g) := by
  have l1 : (padd p f g).length ≤ max f.length g.length := pol_len
  refine (pe_eqm a l1 (padd_cf p f g)).trans (.of_eq ?_)
  rw [pe_sum' a f (Nat.le_max_left f.length g.length), pe_sum' a g (Nat.le_max_right f.length g.length), ← sumN_add]
  exact sumN_congr fun j _ => by rw [Int.add_mul]
theorem pe_psub (p a : Int) (f g : List Int) : eqm p (pe a (psub p f g)) (pe a f - pe a g) := by
  have l1 : (psub p f g).length ≤ max f.length g.length := pol_len
  refine (pe_eqm a l1 (psub_cf p f g)).trans (.of_eq ?_)
  have e : pe a f - pe a g = pe a f + (-1) * pe a g := by omega
  rw [e, pe_sum' a f (Nat.le_max_left f.length g.length), pe_sum' a g (Nat.le_max_right f.length g.length), ← sumN_mul, ← sumN_add]
  exact sumN_congr fun j _ => by grind
theorem conv_consL (x : Int) (f : List Int) (G : Nat → Int) (k : Nat) : conv (cf (x :: f)) G k = x * G k + shift (conv (cf f) G) k := by
  rw [← conv_shift_left]
  cases k with
  | zero =>
    show x * G 0 + 0 = x * G 0 + (0 * G 0 + 0)
    omega
  | succ k =>
    show x * G (k + 1) + sumN (k + 1) (fun j => cf f j * G (k + 1 - (j + 1))) = x * G (k + 1) + (0 * G (k + 1) + sumN (k + 1) fun j => cf f j * G (k + 1 - (j + 1)))
    omega
theorem pe_conv (a : Int) (g : List Int) : ∀ (f : List Int) (n : Nat), f.length + g.length ≤ n → sumN n (fun k => conv (cf f) (cf g) k * a ^ k) = pe a f * pe a g
  | [], n, h => by
    show _ = 0 * _
    rw [Int.zero_mul]
    exact (sumN_congr (g := fun _ => 0) fun j _ => by rw [show conv (cf []) (cf g) j = 0 from conv_zero_left _ j, Int.zero_mul]).trans (sumN_zero _)
  | x :: f, 0, h => by simp at h
  | x :: f, n + 1, h => by
    have h' : f.length + g.length ≤ n := by
      rw [List.length_cons] at h
      omega
    rw [sumN_congr (g := fun k => x * (cf g k * a ^ k) + shift (conv (cf f) (cf g)) k * a ^ k) fun j _ => by rw [conv_consL]; grind, sumN_add, sumN_mul, ← pe_sum' a g (by omega)]
    show x * pe a g + (0 * a ^ 0 + sumN n fun k => conv (cf f) (cf g) k * a ^ (k + 1)) = (x + a * pe a f) * pe a g
    rw [sumN_congr (n := n) (g := fun k => a * (conv (cf f) (cf g) k * a ^ k)) fun j _ => by rw [Int.pow_succ]; grind, sumN_mul, pe_conv a g f n h']
    grind
theorem pe_pmul (p a : Int) (f g : List Int) : eqm p (pe a (pmul p f g)) (pe a f * pe a g) :=
  (pe_eqm a pol_len (pmul_cf p f g)).trans (.of_eq (pe_conv a g f _ (Nat.le_refl _)))
/-! ### the greatest common divisor -/
noncomputable def gcdL (p : Int) : Nat → List Int → List Int → List Int
  | 0, f, _ => f
  | n + 1, f, g => if g = [] then f else gcdL p n g (dr p f g)
noncomputable def mon (p : Int) (f : List Int) : List Int := if f = [] then [] else pby p f (ov p 1 (cf f (f.length - 1)))
noncomputable def pgcd (p : Int) (f g : List Int) : List Int := mon p (gcdL p g.length f g)
section
variable {p : Int}
theorem gcdL_nil (n : Nat) (f : List Int) : gcdL p n f [] = f := by
  cases n with
  | zero => rfl
  | succ n =>
    show (if ([] : List Int) = [] then f else _) = f
    rw [if_pos rfl]
/-- a list as short as the evaluator wants it -/
structure Pz (p : Int) (f : List Int) : Prop extends Po p f where
  len : f.length ≤ 100000
theorem Pz.dr (F : Fld p) (hp2 : p ≤ 1000000) {f g : List Int} (hf : Pz p f) (hg : Pz p g) (hn : g ≠ []) : Pz p (Sw.dr p f g) ∧ (Sw.dr p f g).length < g.length := by
  have h := div_is F hp2 hf.toPo hg.toPo hn hf.len hg.len
  exact ⟨⟨h.pr, by have := h.lt; have := hg.len; omega⟩, h.lt⟩
theorem gcdL_stable (F : Fld p) (hp2 : p ≤ 1000000) : ∀ (n m : Nat) (f g : List Int), Pz p f → Pz p g → g.length ≤ n → n ≤ m → gcdL p m f g = gcdL p n f g
  | 0, m, f, g, hf, hg, h, _ => by
    have : g = [] := List.eq_nil_of_length_eq_zero (by omega)
    subst this
    rw [gcdL_nil, gcdL_nil]
  | n + 1, m, f, g, hf, hg, h, h2 => by
    obtain ⟨m', rfl⟩ : ∃ m', m = m' + 1 := ⟨m - 1, by omega⟩
    show (if g = [] then f else gcdL p m' g (dr p f g)) = (if g = [] then f else gcdL p n g (dr p f g))
    split
    · rfl
    · rename_i hn
      obtain ⟨h1, h3⟩ := Pz.dr F hp2 hf hg hn
      exact gcdL_stable F hp2 n m' g (dr p f g) hg h1 (by omega) (by omega)
theorem gcdL_pz (F : Fld p) (hp2 : p ≤ 1000000) : ∀ (n : Nat) (f g : List Int), Pz p f → Pz p g → Pz p (gcdL p n f g)
  | 0, f, g, hf, hg => hf
  | n + 1, f, g, hf, hg => by
    show Pz p (if g = [] then f else gcdL p n g (dr p f g))
    split
    · exact hf
    · rename_i hn
      exact gcdL_pz F hp2 n g _ hg (Pz.dr F hp2 hf hg hn).1
theorem gcdL_dv (F : Fld p) (hp2 : p ≤ 1000000) : ∀ (n : Nat) (f g : List Int), Pz p f → Pz p g → g.length ≤ n → Dv p (gcdL p n f g) f ∧ Dv p (gcdL p n f g) g
  | 0, f, g, hf, hg, h => by
    have : g = [] := List.eq_nil_of_length_eq_zero (by omega)
    subst this
    exact ⟨.refl _ _, .nil _ _⟩
  | n + 1, f, g, hf, hg, h => by
    show Dv p (if g = [] then f else gcdL p n g (dr p f g)) f ∧ Dv p (if g = [] then f else gcdL p n g (dr p f g)) g
    split
    · rename_i e
      rw [e]
      exact ⟨.refl _ _, .nil _ _⟩
    · rename_i hn
      obtain ⟨h1, h3⟩ := Pz.dr F hp2 hf hg hn
      obtain ⟨d1, d2⟩ := gcdL_dv F hp2 n g _ hg h1 (by omega)
      exact ⟨(div_is F hp2 hf.toPo hg.toPo hn hf.len hg.len).dv_left d1 d2, d1⟩
theorem gcdL_great (F : Fld p) (hp2 : p ≤ 1000000) : ∀ (n : Nat) (f g d : List Int), Pz p f → Pz p g → g.length ≤ n → Dv p d f → Dv p d g → Dv p d (gcdL p n f g)
  | 0, f, g, d, hf, hg, h, h1, h2 => h1
  | n + 1, f, g, d, hf, hg, h, h1, h2 => by
    show Dv p d (if g = [] then f else gcdL p n g (dr p f g))
    split
    · exact h1
    · rename_i hn
      obtain ⟨h4, h3⟩ := Pz.dr F hp2 hf hg hn
      exact gcdL_great F hp2 n g _ d hg h4 (by omega) h2 ((div_is F hp2 hf.toPo hg.toPo hn hf.len hg.len).dv_rest h1 h2)
theorem Dv.of_nil {d : List Int} (F : Fld p) (hd : Po p d) (h : Dv p [] d) : d = [] := by
  obtain ⟨q, h⟩ := h
  refine po_ext F.p0 hd po_nil fun k => (h k).symm.trans ?_
  rw [conv_comm, show conv (cf []) (cf q) k = 0 from conv_zero_left _ k]
  exact .refl _ _
theorem mon_po (F : Fld p) (f : List Int) : Po p (mon p f) := by
  unfold mon
  split
  · exact po_nil
  · exact pol_po F.p0
theorem mon_sc (F : Fld p) {f : List Int} (hf : Po p f) : Sc p f (mon p f) := by
  unfold mon
  split
  · rename_i e
    rw [e]
    exact ⟨1, F.one, fun k => by rw [Int.one_mul]; exact .refl _ _⟩
  · rename_i hn
    have hb := hf.top F.p0 hn
    obtain ⟨_, _, h⟩ := ov_spec F (a := 1) hb
    refine ⟨ov p 1 (cf f (f.length - 1)), fun e => F.one ?_, fun k => ?_⟩
    · have := (eqm.refl p (cf f (f.length - 1))).mul e
      rw [Int.mul_zero] at this
      exact h.symm.trans this
    · rw [Int.mul_comm]
      exact (pby_cf p f _ k).symm
theorem sc_len (F : Fld p) {f g : List Int} (hf : Po p f) (hg : Po p g) (h : Sc p f g) : f.length = g.length := by
  obtain ⟨u, hu, h⟩ := h
  have l1 : f.length ≤ g.length := tr_len hf.tr fun k hk => by
    have := h k
    rw [cf_out hk] at this
    rcases F.dom _ _ this with z | z
    · exact absurd z hu
    · exact eqm_small z (hf.rng.cf F.p0 k) ⟨Int.le_refl _, F.p0⟩
  have l2 : g.length ≤ f.length := tr_len hg.tr fun k hk => by
    have := h k
    rw [cf_out hk, Int.mul_zero] at this
    exact eqm_small this.symm (hg.rng.cf F.p0 k) ⟨Int.le_refl _, F.p0⟩
  omega
theorem mon_mo (F : Fld p) {f : List Int} (hf : Po p f) : Mo (mon p f) := by
  by_cases hn : f = []
  · left
    unfold mon
    rw [if_pos hn]
  · right
    have hl := sc_len F hf (mon_po F f) (mon_sc F hf)
    have hne : mon p f ≠ [] := fun e => by
      rw [e] at hl
      exact hn (List.eq_nil_of_length_eq_zero hl)
    rw [last_cf hne, ← hl]
    congr 1
    have hb := hf.top F.p0 hn
    obtain ⟨_, _, h⟩ := ov_spec F (a := 1) hb
    have e1 : eqm p (cf (mon p f) (f.length - 1)) 1 := by
      unfold mon
      rw [if_neg hn]
      exact (pby_cf p f _ _).trans h
    exact eqm_small e1 ((mon_po F f).rng.cf F.p0 _) ⟨by omega, F.pos⟩
theorem pgcd_sym (F : Fld p) (hp2 : p ≤ 1000000) {f g : List Int} (hf : Pz p f) (hg : Pz p g) : pgcd p f g = pgcd p g f := by
  have a := gcdL_pz F hp2 g.length f g hf hg
  have b := gcdL_pz F hp2 f.length g f hg hf
  obtain ⟨a1, a2⟩ := gcdL_dv F hp2 g.length f g hf hg (Nat.le_refl _)
  obtain ⟨b1, b2⟩ := gcdL_dv F hp2 f.length g f hg hf (Nat.le_refl _)
  have ab := gcdL_great F hp2 f.length g f _ hg hf (Nat.le_refl _) a2 a1
  have ba := gcdL_great F hp2 g.length f g _ hf hg (Nat.le_refl _) b2 b1
  unfold pgcd
  by_cases hn : gcdL p f.length g f = []
  · rw [hn]
    rw [hn] at ba
    rw [Dv.of_nil F a.toPo ba]
  · have s := Dv.both F a.toPo b.toPo hn ab ba
    refine mo_unique F (mon_po F _) (mon_po F _) (mon_mo F a.toPo) (mon_mo F b.toPo) ?_
    exact ((mon_sc F a.toPo).symm F).trans F (s.trans F (mon_sc F b.toPo))
theorem pgcd_dv (F : Fld p) (hp2 : p ≤ 1000000) {f g : List Int} (hf : Pz p f) (hg : Pz p g) : Dv p (pgcd p f g) f ∧ Dv p (pgcd p f g) g := by
  obtain ⟨a1, a2⟩ := gcdL_dv F hp2 g.length f g hf hg (Nat.le_refl _)
  have s := ((mon_sc F (gcdL_pz F hp2 g.length f g hf hg).toPo).symm F).dv
  exact ⟨s.trans a1, s.trans a2⟩
theorem pgcd_ne (F : Fld p) (hp2 : p ≤ 1000000) {f g : List Int} (hf : Pz p f) (hg : Pz p g) (hn : g ≠ []) : pgcd p f g ≠ [] := fun e => by
  have := (pgcd_dv F hp2 hf hg).2
  rw [e] at this
  exact hn (Dv.of_nil F hg.toPo this)
theorem pgcd_pz (F : Fld p) (hp2 : p ≤ 1000000) {f g : List Int} (hf : Pz p f) (hg : Pz p g) : Pz p (pgcd p f g) := by
  have a := gcdL_pz F hp2 g.length f g hf hg
  refine ⟨mon_po F _, ?_⟩
  have := sc_len F a.toPo (mon_po F _) (mon_sc F a.toPo)
  have l := a.len
  unfold pgcd
  omega
/-- what is divided by a divisor leaves nothing -/
theorem dv_dr (F : Fld p) {f g : List Int} (hg : Po p g) (hn : g ≠ []) (h : Dv p g f) : dr p f g = [] := by
  obtain ⟨q, hd⟩ := h.div F hg hn
  exact (div_eq F hg hd).2.symm
theorem div_one (F : Fld p) {f : List Int} (hf : Po p f) : dq p f [1] = f ∧ dr p f [1] = [] := by
  have h1 : Po p [1] := ⟨fun x h => by cases h; decide, fun x hx => by
    rw [List.mem_singleton.mp hx]
    have := F.pos
    omega⟩
  have hd : IsDiv p f [1] f [] := ⟨hf, po_nil, by simp, fun k => by
    rw [conv_comm, conv_one, Int.one_mul, cf_nil, Int.add_zero]
    exact .refl _ _⟩
  have := div_eq F h1 hd
  exact ⟨this.1.symm, this.2.symm⟩
end
end Sw

set_option Elab.async false
set_option linter.all false
set_option maxRecDepth 100000
set_option maxHeartbeats 4000000
namespace Sw
open PySem PySem.Spec PyProof.Rows L2
section
variable {fs : Nat → Option FD} {M k : Nat} {S : Store} {p : Int}
/-- a comprehension over a list of numbers that gives numbers -/
theorem ev_comp_il {c : Fns} {e elt : E} {i : Nat} {ρ : Env} {o : Bool} (f : List Int) (F : Int → Int) (he : evalE c e ρ S = some (.lst (il f), S)) (hl : f.length ≤ 1000000)
    (h : ∀ x ∈ f, evalE c elt ((wipeE ρ [i]).set i (some (.int x))) S = some (.int (F x), S)) : evalE c (.comp o elt (.name i) (.list e) .nop [i]) ρ S = some (mk o (il (f.map F)) S) := by
  have hc := compL_map (S := S) (wk := ⟨il f, none⟩) (step := stepC c elt (.name i) .nop [i] ρ) (fun d => match d with
    | .int z => some (.int (F z))
    | _ => none) (ds := il f) rfl fun d hd => by
      obtain ⟨x, hx, rfl⟩ := List.mem_map.mp hd
      have e := h x hx
      simp only [stepC, asg, ec_nop] at e ⊢
      rw [e]
  have e2 : (il f).filterMap (fun d => match d with
    | .int z => some (.int (F z))
    | _ => none) = il (f.map F) := by
    unfold il
    rw [List.filterMap_map, List.map_map, ← List.filterMap_eq_map]
    congr 1
  rw [ev_comp, ei_list, he]
  simp only [seqK_lst, Option.map, hc, e2]
  rw [if_pos (show (il f).length < sizeLine by rw [size_eq, il_length]; omega)]
theorem ev_poly_by (h0 : fs 0 = some f0) (h7 : fs 7 = some f7) (hp : 0 < p) {f : List Int} {a : Int} (ha : -18446744073709551616 < a ∧ a < 18446744073709551616) (hl : f.length ≤ 100000) (hM : 1000000 < M) :
    callK fs M (k + 2) 7 [.int p, .lst (il f), .int a] S = some (.fre (il (pby p f a)), S) := by
  rw [callK_f h7]
  have hc := ev_comp_il (S := S) (c := callK fs M (k + 1)) (e := .var 1) (elt := e7_1) (i := 3) (ρ := [some (.int p), some (.lst (il f)), some (.int a), none]) (o := false) f (fun x => x * a % p) (by simp) (by omega) fun x _ => by
    simp [e7_1, wipeE, bin_mulR ha, bin_mod hp]
  have ht := ev_trimmed (M := M) (k := k) (S := S) h0 (d := .lst (il (f.map fun x => x * a % p))) (seqL_lst _) (by simp; omega)
  have e : trim (f.map fun x => x * a % p) = pby p f a := tr_ext (trim_tr _) (trim_tr _) fun j => by
    rw [cf_trim]
    refine Eq.trans ?_ (pol_cf' (L := f.length) (F := fun k => cf f k * a) (fun k hk => by rw [cf_out hk, Int.zero_mul]; exact .refl _ _) j).symm
    by_cases hj : j < f.length
    · exact cf_get (by rw [List.getElem?_map, cf_some hj]; rfl)
    · rw [cf_out (by simpa using Nat.le_of_not_lt hj), cf_out (f := f) (by omega), Int.zero_mul, Int.zero_emod]
  rw [e] at ht
  have hb : execs (callK fs M (k + 1)) M b7_poly_by [some (.int p), some (.lst (il f)), some (.int a), none] S = some (.ret (.box S.length), [some (.int p), some (.lst (il f)), some (.int a), none], S ++ [.live (il (pby p f a))]) := by
    rw [b7_poly_by]
    refine xs_ret ?_
    rw [x_ret, ev_callT, es_cons, hc]
    simp only [mk_f, es_nil, ht, thaw_il]
  simp [runF, hb]
/-! ### poly_common -/
theorem common_while (h0 : fs 0 = some f0) (h5 : fs 5 = some f5) (h6 : fs 6 = some f6) (F : Fld p) (hp2 : p ≤ 1000000) (hM : 1000000 < M) : ∀ (n m : Nat) (f g : List Int), Pz p f → Pz p g → g.length ≤ n → n < m →
    whileL (evalT (callK fs M (k + 2)) t8_1) (execs (callK fs M (k + 2)) M w8_2) m [some (.int p), some (.lst (il f)), some (.lst (il g))] S = some (.nx, [some (.int p), some (.lst (il (gcdL p n f g))), some (.lst (il []))], S)
  | n, 0, _, _, _, _, _, h => by omega
  | 0, m + 1, f, g, hf, hg, h, _ => by
    have : g = [] := List.eq_nil_of_length_eq_zero (by omega)
    subst this
    rw [whileL]
    simp [t8_1, gcdL_nil]
  | n + 1, m + 1, f, g, hf, hg, h, h2 => by
    rw [whileL]
    by_cases hn : g = []
    · subst hn
      simp [t8_1, gcdL_nil]
    · have ht : evalT (callK fs M (k + 2)) t8_1 [some (.int p), some (.lst (il f)), some (.lst (il g))] S = some (true, S) := by
        cases g with
        | nil => exact absurd rfl hn
        | cons x g => simp [t8_1]
      obtain ⟨h4, h3⟩ := Pz.dr F hp2 hf hg hn
      have hd := ev_poly_parts (M := M) (k := k) (S := S) h0 h5 h6 F hp2 hf.toPo hg.toPo hn hf.len hg.len hM
      have hi : idxD S (.tup [.lst (il (dq p f g)), .lst (il (dr p f g))]) (.int 1) = some (.lst (il (dr p f g))) := idx_nat (j := 1) (seqR_tup _) rfl
      have hb : execs (callK fs M (k + 2)) M w8_2 [some (.int p), some (.lst (il f)), some (.lst (il g))] S = some (.nx, [some (.int p), some (.lst (il g)), some (.lst (il (dr p f g)))], S) := by
        rw [w8_2]
        rw [xs_nx (ρ1 := [some (.int p), some (.lst (il g)), some (.lst (il (dr p f g)))]) (S1 := S) (by simp [hd, hi])]
        rw [xs_nil]
      rw [ht]
      dsimp only
      rw [hb]
      dsimp only
      rw [common_while h0 h5 h6 F hp2 hM n m g (dr p f g) hg h4 (by omega) (by omega)]
      show _ = some (Flow'.nx, [some (D.int p), some (D.lst (il (if g = [] then f else gcdL p n g (dr p f g)))), some (D.lst (il []))], S)
      rw [if_neg hn]
theorem last_il {f : List Int} (hn : f ≠ []) : idxD S (.lst (il f)) (.int (-1)) = some (.int (cf f (f.length - 1))) := idx_lst (seqR_lst _) (atI_last (by
  unfold il
  rw [List.getLast?_map, last_cf hn]
  rfl))
theorem ev_poly_common (h0 : fs 0 = some f0) (h5 : fs 5 = some f5) (h6 : fs 6 = some f6) (h7 : fs 7 = some f7) (h8 : fs 8 = some f8) (F : Fld p) (hp2 : p ≤ 1000000) (hM : 1000000 < M) {f g : List Int} (hf : Pz p f) (hg : Pz p g) :
    callK fs M (k + 3) 8 [.int p, .lst (il f), .lst (il g)] S = some (.fre (il (pgcd p f g)), S) := by
  rw [callK_f h8]
  have hw := common_while (S := S) (k := k) (M := M) h0 h5 h6 F hp2 hM g.length M f g hf hg (Nat.le_refl _) (by have := hg.len; omega)
  have a := gcdL_pz F hp2 g.length f g hf hg
  have hb : execs (callK fs M (k + 2)) M b8_poly_common [some (.int p), some (.lst (il f)), some (.lst (il g))] S = some (.ret (.box S.length), [some (.int p), some (.lst (il (gcdL p g.length f g))), some (.lst (il []))], S ++ [.live (il (pgcd p f g))]) := by
    rw [b8_poly_common, xs_nx (by rw [x_whileS]; exact hw)]
    refine xs_ret ?_
    by_cases hn : gcdL p g.length f g = []
    · have e : pgcd p f g = [] := by
        unfold pgcd mon
        rw [if_pos hn]
      simp [hn, e, size_eq]
    · have hb := a.top F.p0 hn
      have ho := ev_number_over (M := M) (k := k + 1) (S := S) h5 F hp2 (a := 1) hb
      have hs := ov_spec F (a := 1) hb
      have hy := ev_poly_by (M := M) (k := k) (S := S) h0 h7 F.p0 (f := gcdL p g.length f g) (a := ov p 1 (cf (gcdL p g.length f g) ((gcdL p g.length f g).length - 1))) (by omega) a.len hM
      have e : pgcd p f g = pby p (gcdL p g.length f g) (ov p 1 (cf (gcdL p g.length f g) ((gcdL p g.length f g).length - 1))) := by
        unfold pgcd mon
        rw [if_neg hn]
      have hl := last_il (S := S) hn
      rw [e]
      generalize gcdL p g.length f g = x at *
      cases x with
      | nil => exact absurd rfl hn
      | cons y x =>
        simp at hl hy ho
        simp [hl, ho, hy]
  simp [runF, hb]
/-! ### poly_at -/
theorem at_loop (c : Fns) (hp : 0 < p) {a : Int} (ha : -18446744073709551616 < a ∧ a < 18446744073709551616) {f : List Int} (wk : Wk) (hw : okW S wk = true) : ∀ (l : List Int) (v : Int) (x : Option D),
    ∃ x', forL wk (stepF c M (.name 4) w9_1) (il l) [some (.int p), some (.lst (il f)), some (.int a), some (.int v), x] S = some (.nx, [some (.int p), some (.lst (il f)), some (.int a), some (.int (l.foldl (fun v y => (v * a + y) % p) v)), x'], S)
  | [], v, x => ⟨x, rfl⟩
  | y :: l, v, x => by
    obtain ⟨x', e⟩ := at_loop c hp ha (f := f) wk hw l ((v * a + y) % p) (some (.int y))
    refine ⟨x', ?_⟩
    have hs : stepF c M (.name 4) w9_1 (.int y) [some (.int p), some (.lst (il f)), some (.int a), some (.int v), x] S = some (.nx, [some (.int p), some (.lst (il f)), some (.int a), some (.int ((v * a + y) % p)), some (.int y)], S) := by
      simp [stepF, asg, w9_1, xs_cons, bin_mulR ha, bin_mod hp]
    rw [il_cons, forL, hs]
    simp only [hw, if_true]
    exact e
theorem hor_pe (p a : Int) : ∀ f : List Int, f.reverse.foldl (fun v y => (v * a + y) % p) 0 = if f = [] then 0 else pe a f % p
  | [] => rfl
  | [x] => by simp [pe]
  | x :: y :: f => by
    have ih := hor_pe p a (y :: f)
    rw [if_neg (by simp)] at ih
    rw [List.reverse_cons, List.foldl_append, ih, if_neg (by simp)]
    show (pe a (y :: f) % p * a + x) % p = (x + a * pe a (y :: f)) % p
    exact eqm_iff.mp (by
      obtain ⟨t, e⟩ := eqm.emod p (pe a (y :: f))
      exact ⟨t * a, by grind⟩)
theorem ev_poly_at (h9 : fs 9 = some f9) (hp : 0 < p) {a : Int} (ha : -18446744073709551616 < a ∧ a < 18446744073709551616) {f : List Int} :
    callK fs M (k + 1) 9 [.int p, .lst (il f), .int a] S = some (.int (pe a f % p), S) := by
  rw [callK_f h9]
  obtain ⟨x', hl⟩ := at_loop (S := S) (M := M) (callK fs M k) hp ha (f := f) ⟨il f.reverse, none⟩ rfl f.reverse 0 none
  have e : f.reverse.foldl (fun v y => (v * a + y) % p) 0 = pe a f % p := by
    rw [hor_pe]
    split
    · rename_i h
      rw [h]
      simp [pe]
    · rfl
  rw [e] at hl
  have hb : execs (callK fs M k) M b9_poly_at [some (.int p), some (.lst (il f)), some (.int a), none, none] S = some (.ret (.int (pe a f % p)), [some (.int p), some (.lst (il f)), some (.int a), some (.int (pe a f % p)), x'], S) := by
    rw [b9_poly_at]
    rw [xs_nx (ρ1 := [some (.int p), some (.lst (il f)), some (.int a), some (.int 0), none]) (S1 := S) (by simp)]
    rw [xs_nx (by simp only [x_forS, ei_rev, ev_var, List.getElem?_cons_succ, List.getElem?_cons_zero, seqW_lst, Option.map, il_rev]; exact hl)]
    exact xs_ret (by simp)
  simp [runF, hb]
end
end Sw

set_option Elab.async false
set_option linter.all false
set_option maxRecDepth 100000
set_option maxHeartbeats 4000000
namespace Sw
open PySem PySem.Spec PyProof.Rows L2
/-! ### the law's draws -/
structure Fd where
  s : List Int
  a : Int
  c : Int
  e : Int
def fdS (q : Fd) (T : Store) : Store := .live (il q.s) :: .live [.box 0, .int q.a, .int q.c, .int q.e] :: T
structure Fd.Ok (q : Fd) : Prop where
  a : 0 ≤ q.a
  c : 0 ≤ q.c
  e0 : 0 ≤ q.e
  e1 : q.e < 2147483647
def iabs (x : Int) : Int := if x < 0 then -x else x
def fd1 (q : Fd) : Fd := if q.c = 0 ∧ q.a < q.s.length then
    if 1000000000000000000 ≤ iabs (cf q.s q.a.toNat) then ⟨q.s, q.a + 1, iabs (cf q.s q.a.toNat), q.e⟩
    else ⟨q.s, q.a + 1, q.c, (q.e * 48271 + iabs (cf q.s q.a.toNat) * 69621 + (q.a + 1)) % 2147483647⟩
  else q
def fd2 (q : Fd) (m : Int) : Int × Fd := if 0 < q.c then (q.c % m, ⟨q.s, q.a, q.c / m, q.e⟩)
  else (((((q.e * 16807 + 12345) % 2147483647) * ((q.e * 16807 + 12345) % 2147483647) + (q.e * 16807 + 12345) % 2147483647) % 2147483629) / 11 % m, ⟨q.s, q.a, q.c, (q.e * 16807 + 12345) % 2147483647⟩)
def drw (q : Fd) (m : Int) : Int × Fd := fd2 (fd1 q) m
theorem fd1_ok {q : Fd} (h : q.Ok) : (fd1 q).Ok := by
  unfold fd1
  split
  · split
    · refine ⟨by have := h.a; show 0 ≤ q.a + 1; omega, ?_, h.e0, h.e1⟩
      show 0 ≤ iabs _
      omega
    · exact ⟨by have := h.a; show 0 ≤ q.a + 1; omega, h.c, Int.emod_nonneg _ (by decide), Int.emod_lt_of_pos _ (by decide)⟩
  · exact h
theorem fd2_ok {q : Fd} {m : Int} (hm : 0 < m) (h : q.Ok) : (fd2 q m).2.Ok ∧ 0 ≤ (fd2 q m).1 ∧ (fd2 q m).1 < m := by
  unfold fd2
  split
  · exact ⟨⟨h.a, Int.ediv_nonneg h.c (by omega), h.e0, h.e1⟩, Int.emod_nonneg _ (by omega), Int.emod_lt_of_pos _ hm⟩
  · exact ⟨⟨h.a, h.c, Int.emod_nonneg _ (by decide), Int.emod_lt_of_pos _ (by decide)⟩, Int.emod_nonneg _ (by omega), Int.emod_lt_of_pos _ hm⟩
theorem drw_ok {q : Fd} {m : Int} (hm : 0 < m) (h : q.Ok) : (drw q m).2.Ok ∧ 0 ≤ (drw q m).1 ∧ (drw q m).1 < m := fd2_ok hm (fd1_ok h)
section
variable {fs : Nat → Option FD} {M k : Nat} {T : Store} {q : Fd}
@[simp] theorem fd_i0 : idxD (fdS q T) (.box 1) (.int 0) = some (.box 0) := rfl
@[simp] theorem fd_i1 : idxD (fdS q T) (.box 1) (.int 1) = some (.int q.a) := rfl
@[simp] theorem fd_i2 : idxD (fdS q T) (.box 1) (.int 2) = some (.int q.c) := rfl
@[simp] theorem fd_i3 : idxD (fdS q T) (.box 1) (.int 3) = some (.int q.e) := rfl
@[simp] theorem fd_s1 (x : Int) : setIxD (fdS q T) (.box 1) (.int 1) (.int x) = some (fdS ⟨q.s, x, q.c, q.e⟩ T) := rfl
@[simp] theorem fd_s2 (x : Int) : setIxD (fdS q T) (.box 1) (.int 2) (.int x) = some (fdS ⟨q.s, q.a, x, q.e⟩ T) := rfl
@[simp] theorem fd_s3 (x : Int) : setIxD (fdS q T) (.box 1) (.int 3) (.int x) = some (fdS ⟨q.s, q.a, q.c, x⟩ T) := rfl
@[simp] theorem fd_len : biD false (fdS q T) .len [.box 0] = some (.int q.s.length, fdS q T) := by
  rw [bi_len (o := false) (S := fdS q T) (.box 0) (il q.s) rfl, il_length]
theorem fd_get (h0 : 0 ≤ q.a) (h1 : q.a < q.s.length) : idxD (fdS q T) (.box 0) (.int q.a) = some (.int (cf q.s q.a.toNat)) := by
  obtain ⟨j, hj⟩ : ∃ j : Nat, q.a = (j : Int) := ⟨q.a.toNat, by omega⟩
  rw [hj, Int.toNat_natCast]
  exact idx_nat (ds := il q.s) rfl (by rw [il_get, cf_some (by omega)]; rfl)
theorem draw1 (c : Fns) (h : q.Ok) (m : Int) (x y z : Option D) : ∃ x', exec c M (.ifS (.band (.cons (.cmp .eq (.idx (.var 0) (.cI 2)) (.cI 0)) (.cons (.cmp .lt (.idx (.var 0) (.cI 1)) (.bi .len false (.cons (.idx (.var 0) (.cI 0)) .nil))) .nil)))
  (.cons (.set 2 (.bi .abs false (.cons (.bi .int false (.cons (.idx (.idx (.var 0) (.cI 0)) (.idx (.var 0) (.cI 1))) .nil)) .nil)))
  (.cons (.augIx (.var 0) (.cI 1) .add (.cI 1))
  (.cons (.ifS (.cmp .ge (.var 2) (.bin false .pow (.cI 10) (.cI 18)))
   (.cons (.setIx (.var 0) (.cI 2) (.var 2))
   .nil)
   (.cons (.setIx (.var 0) (.cI 3) (.bin false .mod (.bi .int false (.cons (.bin false .add (.bin false .add (.bin false .mul (.idx (.var 0) (.cI 3)) (.cI 48271)) (.bin false .mul (.var 2) (.cI 69621))) (.idx (.var 0) (.cI 1))) .nil)) (.cI 2147483647)))
   .nil))
  .nil)))
  .nil) [some (.box 1), some (.int m), x, y, z] (fdS q T) = some (.nx, [some (.box 1), some (.int m), x', y, z], fdS (fd1 q) T) := by
  by_cases hc : q.c = 0 ∧ q.a < q.s.length
  · have hg := fd_get (T := T) h.a hc.2
    have hpow : binD false .pow (.int 10) (.int 18) (fdS ⟨q.s, q.a + 1, q.c, q.e⟩ T) = some (.int 1000000000000000000, fdS ⟨q.s, q.a + 1, q.c, q.e⟩ T) := by
      rw [bin_pow (by decide) (by decide)]
      rfl
    have m1 : ∀ (x : Int) (S : Store), binD false .mul (.int x) (.int 48271) S = some (.int (x * 48271), S) := fun x S => bin_mulR (by decide)
    have m2 : ∀ (x : Int) (S : Store), binD false .mul (.int x) (.int 69621) S = some (.int (x * 69621), S) := fun x S => bin_mulR (by decide)
    have md : ∀ (x : Int) (S : Store), binD false .mod (.int x) (.int 2147483647) S = some (.int (x % 2147483647), S) := fun x S => bin_mod (by decide)
    refine ⟨some (.int (iabs (cf q.s q.a.toNat))), ?_⟩
    rw [x_ifS]
    have ht : evalT c (.band (.cons (.cmp .eq (.idx (.var 0) (.cI 2)) (.cI 0)) (.cons (.cmp .lt (.idx (.var 0) (.cI 1)) (.bi .len false (.cons (.idx (.var 0) (.cI 0)) .nil))) .nil))) [some (.box 1), some (.int m), x, y, z] (fdS q T) = some (true, fdS q T) := by
      simp [hc.1, hc.2]
    rw [ht]
    dsimp only
    rw [xs_nx (ρ1 := [some (.box 1), some (.int m), some (.int (iabs (cf q.s q.a.toNat))), y, z]) (S1 := fdS q T) (by simp [hg, iabs])]
    rw [xs_nx (ρ1 := [some (.box 1), some (.int m), some (.int (iabs (cf q.s q.a.toNat))), y, z]) (S1 := fdS ⟨q.s, q.a + 1, q.c, q.e⟩ T) (by simp)]
    unfold fd1
    rw [if_pos hc]
    by_cases hb : 1000000000000000000 ≤ iabs (cf q.s q.a.toNat)
    · rw [if_pos hb]
      rw [xs_nx (ρ1 := [some (.box 1), some (.int m), some (.int (iabs (cf q.s q.a.toNat))), y, z]) (S1 := fdS ⟨q.s, q.a + 1, iabs (cf q.s q.a.toNat), q.e⟩ T) (by simp [hpow, hb, xs_cons]), xs_nil]
    · rw [if_neg hb]
      rw [xs_nx (ρ1 := [some (.box 1), some (.int m), some (.int (iabs (cf q.s q.a.toNat))), y, z]) (S1 := fdS ⟨q.s, q.a + 1, q.c, (q.e * 48271 + iabs (cf q.s q.a.toNat) * 69621 + (q.a + 1)) % 2147483647⟩ T) (by simp [hpow, hb, xs_cons, m1, m2, md]), xs_nil]
  · refine ⟨x, ?_⟩
    have ht : evalT c (.band (.cons (.cmp .eq (.idx (.var 0) (.cI 2)) (.cI 0)) (.cons (.cmp .lt (.idx (.var 0) (.cI 1)) (.bi .len false (.cons (.idx (.var 0) (.cI 0)) .nil))) .nil))) [some (.box 1), some (.int m), x, y, z] (fdS q T) = some (false, fdS q T) := by
      by_cases h0 : q.c = 0
      · have : ¬ q.a < q.s.length := fun h => hc ⟨h0, h⟩
        simp [h0, this]
      · simp [h0]
    rw [x_ifS, ht]
    dsimp only
    unfold fd1
    rw [if_neg hc, xs_nil]
theorem ev_draw (h11 : fs 11 = some f11) (h : q.Ok) {m : Int} (hm : 0 < m) (hm2 : m ≤ 1000000) : callK fs M (k + 1) 11 [.box 1, .int m] (fdS q T) = some (.int (drw q m).1, fdS (drw q m).2 T) := by
  rw [callK_f h11]
  obtain ⟨x', e1⟩ := draw1 (M := M) (T := T) (callK fs M k) h m none none none
  have ok1 := fd1_ok h
  generalize hq : fd1 q = q1 at *
  have hd : drw q m = fd2 q1 m := by unfold drw; rw [hq]
  have hb : ∃ ρ, execs (callK fs M k) M b11_law_draw [some (.box 1), some (.int m), none, none, none] (fdS q T) = some (.ret (.int (fd2 q1 m).1), ρ, fdS (fd2 q1 m).2 T) := by
    rw [b11_law_draw, xs_nx e1]
    by_cases hc : 0 < q1.c
    · refine ⟨[some (.box 1), some (.int m), x', some (.int (q1.c % m)), none], ?_⟩
      unfold fd2
      rw [if_pos hc]
      refine xs_ret ?_
      rw [x_ifS]
      have ht : evalT (callK fs M k) (.cmp .gt (.idx (.var 0) (.cI 2)) (.cI 0)) [some (.box 1), some (.int m), x', none, none] (fdS q1 T) = some (true, fdS q1 T) := by
        simp [hc]
      rw [ht]
      dsimp only
      rw [xs_nx (ρ1 := [some (.box 1), some (.int m), x', some (.int (q1.c % m)), none]) (S1 := fdS q1 T) (by simp [bin_mod hm])]
      rw [xs_nx (ρ1 := [some (.box 1), some (.int m), x', some (.int (q1.c % m)), none]) (S1 := fdS ⟨q1.s, q1.a, q1.c / m, q1.e⟩ T) (by simp [bin_fdiv ⟨hm, (show m < 1073741824 by omega)⟩])]
      exact xs_ret (by simp)
    · have ht : evalT (callK fs M k) (.cmp .gt (.idx (.var 0) (.cI 2)) (.cI 0)) [some (.box 1), some (.int m), x', none, none] (fdS q1 T) = some (false, fdS q1 T) := by
        simp [hc]
      have m1 : ∀ (x : Int) (S : Store), binD false .mul (.int x) (.int 16807) S = some (.int (x * 16807), S) := fun x S => bin_mulR (by decide)
      have md : ∀ (x : Int) (S : Store), binD false .mod (.int x) (.int 2147483647) S = some (.int (x % 2147483647), S) := fun x S => bin_mod (by decide)
      have md2 : ∀ (x : Int) (S : Store), binD false .mod (.int x) (.int 2147483629) S = some (.int (x % 2147483629), S) := fun x S => bin_mod (by decide)
      have fd11 : ∀ (x : Int) (S : Store), binD false .fdiv (.int x) (.int 11) S = some (.int (x / 11), S) := fun x S => bin_fdiv (by decide)
      generalize he : (q1.e * 16807 + 12345) % 2147483647 = e'
      have hs : -18446744073709551616 < e' ∧ e' < 18446744073709551616 := by omega
      refine ⟨[some (.box 1), some (.int m), x', none, some (.int ((e' * e' + e') % 2147483629))], ?_⟩
      unfold fd2
      rw [if_neg hc, he]
      rw [xs_nx (ρ1 := [some (.box 1), some (.int m), x', none, none]) (S1 := fdS q1 T) (by rw [x_ifS, ht]; dsimp only; rw [xs_nil])]
      rw [xs_nx (ρ1 := [some (.box 1), some (.int m), x', none, none]) (S1 := fdS ⟨q1.s, q1.a, q1.c, e'⟩ T) (by simp [m1, md, he])]
      rw [xs_nx (ρ1 := [some (.box 1), some (.int m), x', none, some (.int ((e' * e' + e') % 2147483629))]) (S1 := fdS ⟨q1.s, q1.a, q1.c, e'⟩ T) (by simp [bin_mulL hs, md2])]
      exact xs_ret (by simp [fd11, bin_mod hm])
  obtain ⟨ρ, hb⟩ := hb
  have hl : (fdS q T).length = (fdS (fd2 q1 m).2 T).length := rfl
  rw [hd]
  simp only [runF, List.length_cons, List.length_nil, if_true, List.map_cons, List.map_nil, List.replicate, List.cons_append, List.nil_append]
  rw [hb]
  simp only [exit_int, hl, take_len0]
end
end Sw

set_option Elab.async false
set_option linter.all false
set_option maxRecDepth 100000
set_option maxHeartbeats 4000000
namespace Sw
open PySem PySem.Spec PyProof.Rows L2
section
variable {fs : Nat → Option FD} {M k : Nat} {S : Store} {p : Int}
theorem forL_rng {wk : Wk} {b : D → Env → Store → Option (Flow' × Env × Store)} (P : Nat → Env → Store → Prop) (n : Nat) (h : ∀ i ρ S, i < n → P i ρ S → ∃ ρ1 S1, b (.int (i : Nat)) ρ S = some (.nx, ρ1, S1) ∧ okW S1 wk = true ∧ P (i + 1) ρ1 S1)
    (ρ : Env) (S : Store) (h0 : P 0 ρ S) : ∃ ρ1 S1, forL wk b (rngI 0 n) ρ S = some (.nx, ρ1, S1) ∧ P n ρ1 S1 := by
  have := forL_inv (wk := wk) (b := b) P (rngI 0 n) 0 (fun i d ρ S hd hp => by
    obtain ⟨hi, rfl⟩ := (show i < n ∧ d = .int (i : Nat) from by
      unfold rngI at hd
      rw [List.getElem?_map] at hd
      by_cases hi : i < n
      · rw [List.getElem?_range hi] at hd
        cases hd
        exact ⟨hi, by show D.int _ = _; rw [Int.zero_add]⟩
      · rw [List.getElem?_eq_none (by simpa using hi)] at hd
        cases hd)
    rw [Nat.zero_add] at hp ⊢
    exact h i ρ S hi hp) ρ S h0
  have hl : (rngI 0 n).length = n := by simp [rngI]
  rw [hl, Nat.zero_add] at this
  exact this
/-! ### _law_trim -/
theorem ev_law_trim (h14 : fs 14 = some f14) {d : D} {ns : List Int} (hd : seqL S d = some (il ns)) (hl : ns.length ≤ 1000000) : callK fs M (k + 1) 14 [d] S = some (.fre (il (trim ns)), S) := by
  have hr : seqR S d = some (il ns) := by
    cases d <;> first | exact hd | cases hd
  have hs : ∀ z, d ≠ .str z := fun z e => by
    rw [e] at hd
    cases hd
  rw [callK_f h14]
  obtain ⟨ρ1, S1, e, ⟨x, rfl⟩, hS1⟩ := forL_rng (wk := ⟨rngI 0 ns.length, none⟩) (b := stepF (callK fs M k) M (.name 2) w14_1)
    (fun i ρ T => (∃ x, ρ = [some d, some (.int ((trim (ns.take i)).length : Nat)), x]) ∧ T = S) ns.length (fun i ρ T hi ⟨⟨x, hρ⟩, hT⟩ => by
      subst hρ
      subst hT
      have hg : idxD T d (.int (i : Nat)) = some (.int (cf ns i)) := idx_nat hr (by rw [il_get, cf_some hi]; rfl)
      refine ⟨_, _, ?_, rfl, ⟨some (.int (i : Nat)), rfl⟩, rfl⟩
      rw [take_snoc hi, trim_snoc]
      by_cases hz : cf ns i = 0
      · rw [if_pos hz]
        simp [stepF, asg, w14_1, xs_cons, hg, hz]
      · rw [if_neg hz]
        have e2 : (ns.take i ++ [cf ns i]).length = i + 1 := by simp; omega
        rw [e2]
        simp [stepF, asg, w14_1, xs_cons, hg, hz])
    [some d, some (.int 0), none] S ⟨⟨none, rfl⟩, rfl⟩
  rw [List.take_length, hS1] at e
  have hsl : sliceD true d none (some ((trim ns).length : Int)) S = some (.box S.length, S ++ [.live (il (trim ns))]) := by
    rw [slice_hi hd (by omega), Int.toNat_natCast, il_take, take_trim]
    rfl
  have hb : execs (callK fs M k) M b14_law_trim [some d, none, none] S = some (.ret (.box S.length), [some d, some (.int ((trim ns).length : Nat)), x], S ++ [.live (il (trim ns))]) := by
    rw [b14_law_trim, xs_nx (ρ1 := [some d, some (.int 0), none]) (S1 := S) (by simp)]
    rw [xs_nx (by
      rw [x_forS, ei_rng1 (S1 := S) ns.length (by simp [bi_len d _ hr]) (by omega)]
      exact e)]
    exact xs_ret (by simp only [x_ret, ev_slice, ev_var, eo_nop, eo_var, List.getElem?_cons_zero, List.getElem?_cons_succ, hsl])
  simp [runF, hb]
/-! ### _law_inverse -/
def pick1 (p a : Int) (d : D) : Option D := match d with
  | .int z => if (a * z) % p = 1 then some (.int z) else none
  | _ => none
theorem ev_law_inverse (h15 : fs 15 = some f15) (F : Fld p) (hp2 : p ≤ 1000000) {a : Int} (hb : ¬ eqm p a 0) : callK fs M (k + 1) 15 [.int p, .int a] S = some (.int (ov p 1 a), S) := by
  rw [callK_f h15]
  obtain ⟨n, rfl⟩ : ∃ n : Nat, p = (n : Int) := ⟨p.toNat, by have := F.p0; omega⟩
  have hp := F.p0
  have h1p : (1 : Int) % n = 1 := Int.emod_eq_of_lt (by omega) F.pos
  have e1 := ei_rng1 (c := callK fs M k) (es := .cons (.var 0) .nil) (ρ := [some (.int (n : Nat)), some (.int a), none]) (S := S) (S1 := S) n (by simp) (by omega)
  have hc := compL_map (S := S) (wk := ⟨rngI 0 n, none⟩) (step := stepC (callK fs M k) e15_1 (.name 2) q15_2 [2] [some (.int (n : Nat)), some (.int a), none]) (pick1 (n : Int) a) (ds := rngI 0 n) rfl fun d hd => by
      unfold rngI at hd
      obtain ⟨j, hj, rfl⟩ := List.mem_map.mp hd
      have hj := List.mem_range.mp hj
      have hs : -18446744073709551616 < (j : Int) ∧ (j : Int) < 18446744073709551616 := by omega
      by_cases h : (a * (j : Int)) % n = 1
      · simp [stepC, asg, wipeE, e15_1, q15_2, bin_mulR hs, bin_mod hp, h, pick1]
      · simp [stepC, asg, wipeE, e15_1, q15_2, bin_mulR hs, bin_mod hp, h, pick1]
  obtain ⟨o0, o1, oe⟩ := ov_spec F (a := 1) hb
  have hmem : D.int (ov n 1 a) ∈ (rngI 0 n).filterMap (pick1 (n : Int) a) := List.mem_filterMap.mpr ⟨.int (ov n 1 a), by
      unfold rngI
      refine List.mem_map.mpr ⟨(ov n 1 a).toNat, List.mem_range.mpr (by omega), ?_⟩
      congr 1
      omega, by
      show (if (a * ov n 1 a) % n = 1 then _ else _) = _
      rw [if_pos (by rw [eqm_iff.mp oe, h1p])]⟩
  have hall : ∀ d ∈ (rngI 0 n).filterMap (pick1 (n : Int) a), d = D.int (ov n 1 a) := fun d hd => by
      obtain ⟨d', h1, h2⟩ := List.mem_filterMap.mp hd
      unfold rngI at h1
      obtain ⟨j, hj, rfl⟩ := List.mem_map.mp h1
      have hj := List.mem_range.mp hj
      have h2 : (if (a * (0 + (j : Int))) % n = 1 then some (D.int (0 + (j : Int))) else none) = some d := h2
      split at h2
      · rename_i h
        cases h2
        have := ov_unique F (a := 1) hb (c := 0 + (j : Int)) (by omega) (by omega) (eqm_iff.mpr (h.trans h1p.symm))
        rw [this]
      · cases h2
  generalize hL : (rngI 0 n).filterMap (pick1 (n : Int) a) = L at *
  obtain ⟨d, t, rfl⟩ : ∃ d t, L = d :: t := by
    cases L with
    | nil => cases hmem
    | cons d t => exact ⟨d, t, rfl⟩
  have hd : d = .int (ov n 1 a) := hall d List.mem_cons_self
  subst hd
  have hl : (rngI 0 n).length < sizeLine := by
    have e : (rngI 0 n).length = n := by simp [rngI]
    rw [e, size_eq]
    omega
  have he : evalE (callK fs M k) (.comp false e15_1 (.name 2) (.rng (.cons (.var 0) .nil)) q15_2 [2]) [some (.int (n : Nat)), some (.int a), none] S = some (.lst (.int (ov n 1 a) :: t), S) := by
    rw [ev_comp, e1]
    dsimp only
    rw [hc]
    simp only [hl, if_true, mk_f]
  have hi : idxD S (.lst (.int (ov n 1 a) :: t)) (.int 0) = some (.int (ov n 1 a)) := idx_nat (j := 0) (seqR_lst _) rfl
  have hx : execs (callK fs M k) M b15_law_inverse [some (.int (n : Nat)), some (.int a), none] S = some (.ret (.int (ov n 1 a)), [some (.int (n : Nat)), some (.int a), none], S) := by
    rw [b15_law_inverse]
    refine xs_ret ?_
    rw [x_ret, ev_idx, he]
    simp [hi]
  simp [runF, hx]
/-! ### _law_plus -/
def plus (p : Int) (f g : List Int) (a : Int) : List Int := pol p (max f.length g.length) fun k => cf f k + a * cf g k
theorem plus_one (p : Int) (f g : List Int) : plus p f g 1 = padd p f g := by
  unfold plus padd
  congr 1
  funext k
  rw [Int.one_mul]
theorem plus_neg (p : Int) (f g : List Int) : plus p f g (-1) = psub p f g := by
  unfold plus psub
  congr 1
  funext k
  omega
theorem pad_tb (f : List Int) {n : Nat} (h : f.length ≤ n) : il f ++ il (List.replicate (n - f.length) 0) = il (tb n (cf f)) := by
  rw [← il_append]
  congr 1
  refine List.ext_getElem? fun k => ?_
  by_cases hk : k < f.length
  · rw [List.getElem?_append_left hk, tb_get _ (by omega), cf_some hk]
  · rw [List.getElem?_append_right (by omega)]
    by_cases hk2 : k < n
    · rw [tb_get _ hk2, List.getElem?_replicate, if_pos (by omega), cf_out (by omega)]
    · rw [List.getElem?_eq_none (by simp; omega), List.getElem?_eq_none (by simp; omega)]
theorem ev_law_plus (h14 : fs 14 = some f14) (h16 : fs 16 = some f16) (hp : 0 < p) (hp2 : p ≤ 1000000) {f g : List Int} {a : Int} (hg : Rng p g) (hl : f.length ≤ 100000) (hl2 : g.length ≤ 100000) :
    callK fs M (k + 2) 16 [.int p, .lst (il f), .lst (il g), .int a] S = some (.fre (il (plus p f g a)), S) := by
  rw [callK_f h16]
  obtain ⟨n, hn⟩ : ∃ n, n = max f.length g.length := ⟨_, rfl⟩
  have pad : ∀ (h : List Int) (o : Bool), h.length ≤ n → binD false .add (.lst (il h)) (.lst (il (List.replicate (n - h.length) 0))) S = some (.lst (il (tb n (cf h))), S) := fun h o hh => by
    rw [bin_addl _ _ (by simp; omega), pad_tb h hh]
    rfl
  have rep : ∀ h : List Int, h.length ≤ n → binD false .mul (.lst [.int 0]) (.int ((n : Int) - (h.length : Int))) S = some (.lst (il (List.replicate (n - h.length) 0)), S) := fun h hh => by
    have e : (n : Int) - (h.length : Int) = ((n - h.length : Nat) : Int) := by omega
    rw [e, bin_rep [.int 0] _ (by simp; omega) (by omega), flat_rep, il_rep]
    rfl
  have hc := ev_comp_range (S := S) (c := callK fs M (k + 1)) (es := .cons (.var 4) .nil) (elt := e16_1) (i := 7) (ρ := [some (.int p), some (.lst (il f)), some (.lst (il g)), some (.int a), some (.int (n : Nat)), some (.lst (il (tb n (cf f)))), some (.lst (il (tb n (cf g)))), none]) (o := false) n (fun j => (cf f j + a * cf g j) % p)
    (by simp) (by omega) (by simp) fun j hj => by
      have i1 : idxD S (.lst (il (tb n (cf f)))) (.int (j : Nat)) = some (.int (cf f j)) := idx_nat (seqR_lst _) (by rw [il_get, tb_get _ hj]; rfl)
      have i2 : idxD S (.lst (il (tb n (cf g)))) (.int (j : Nat)) = some (.int (cf g j)) := idx_nat (seqR_lst _) (by rw [il_get, tb_get _ hj]; rfl)
      have hs := hg.small hp hp2 j
      simp [e16_1, wipeE, i1, i2, bin_mulR hs, bin_mod hp]
  have ht := ev_law_trim (M := M) (k := k) (S := S) h14 (d := .lst (il ((List.range n).map fun j => (cf f j + a * cf g j) % p))) (seqL_lst _) (by simp; omega)
  have hx : execs (callK fs M (k + 1)) M b16_law_plus [some (.int p), some (.lst (il f)), some (.lst (il g)), some (.int a), none, none, none, none] S = some (.ret (.box S.length), [some (.int p), some (.lst (il f)), some (.lst (il g)), some (.int a), some (.int (n : Nat)), some (.lst (il (tb n (cf f)))), some (.lst (il (tb n (cf g)))), none], S ++ [.live (il (plus p f g a))]) := by
    have hm : max (f.length : Int) (g.length : Int) = (n : Int) := by omega
    have bf := bi_len (o := false) _ _ (seqR_lst (S := S) (il f))
    have bg := bi_len (o := false) _ _ (seqR_lst (S := S) (il g))
    rw [il_length] at bf bg
    rw [b16_law_plus]
    rw [xs_nx (ρ1 := [some (.int p), some (.lst (il f)), some (.lst (il g)), some (.int a), some (.int (n : Nat)), none, none, none]) (S1 := S) (by simp [bf, bg, hm])]
    have l1 : f.length ≤ n := by omega
    have l2 : g.length ≤ n := by omega
    rw [xs_nx (ρ1 := [some (.int p), some (.lst (il f)), some (.lst (il g)), some (.int a), some (.int (n : Nat)), some (.lst (il (tb n (cf f)))), none, none]) (S1 := S) (by simp [bf, rep f l1, pad f true l1, size_eq])]
    rw [xs_nx (ρ1 := [some (.int p), some (.lst (il f)), some (.lst (il g)), some (.int a), some (.int (n : Nat)), some (.lst (il (tb n (cf f)))), some (.lst (il (tb n (cf g)))), none]) (S1 := S) (by simp [bg, rep g l2, pad g true l2, size_eq])]
    refine xs_ret ?_
    rw [x_ret, ev_callT, es_cons, hc]
    simp only [mk_f, es_nil, ht, thaw_il]
    rw [show plus p f g a = trim ((List.range n).map fun j => (cf f j + a * cf g j) % p) by rw [hn]; rfl]
  simp [runF, hx]
/-! ### _law_by -/
theorem sum_filter (c : Nat → Bool) (G : Nat → Int) : ∀ n : Nat, ((List.range n).filterMap fun j => if c j = true then some (G j) else none).sum = sumN n fun j => if c j = true then G j else 0
  | 0 => rfl
  | n + 1 => by
    rw [List.range_succ, List.filterMap_append, List.sum_append, sum_filter c G n, sumN_last]
    congr 1
    cases h : c n <;> simp [h]
theorem app_live {c : Fns} {a e : E} {ρ : Env} {b : Nat} {S1 S2 : Store} {ds : List D} {y : D} (h1 : evalE c a ρ S = some (.box b, S1)) (h2 : evalE c e ρ S1 = some (y, S2)) (h3 : S2[b]? = some (.live ds)) (h4 : ds.length < 16777216) (h5 : bnd 0 y = true) :
    evalE c (.app a e) ρ S = some (.non, S2.set b (.live (ds ++ [y]))) := by
  rw [ev_app, h1]
  dsimp only
  rw [h2]
  dsimp only
  rw [h3]
  dsimp only
  rw [if_pos ⟨by rw [size_eq]; exact h4, h5⟩]
theorem tb_succ (n : Nat) (F : Nat → Int) : il (tb (n + 1) F) = il (tb n F) ++ [.int (F n)] := by
  unfold tb
  rw [List.range_succ, List.map_append, il_append]
  rfl
theorem ev_law_by (h14 : fs 14 = some f14) (h17 : fs 17 = some f17) (hp : 0 < p) (hp2 : p ≤ 1000000) {f g : List Int} (hf : Rng p f) (hl : f.length ≤ 100000) (hl2 : g.length ≤ 100000) :
    callK fs M (k + 2) 17 [.int p, .lst (il f), .lst (il g)] S = some (.fre (il (pmul p f g)), S) := by
  rw [callK_f h17]
  obtain ⟨ρ1, S1, e, ⟨x, y, rfl⟩, rfl⟩ := forL_rng (wk := ⟨rngI 0 (f.length + g.length), none⟩) (b := stepF (callK fs M (k + 1)) M (.name 4) w17_3)
    (fun i ρ T => (∃ x y, ρ = [some (.int p), some (.lst (il f)), some (.lst (il g)), some (.box S.length), x, y]) ∧ T = S ++ [.live (il (tb i fun m => conv (cf f) (cf g) m % p))]) (f.length + g.length) (fun i ρ T hi ⟨⟨x, y, hρ⟩, hT⟩ => by
      subst hρ
      subst hT
      refine ⟨_, _, ?_, rfl, ⟨some (.int (i : Nat)), y, rfl⟩, rfl⟩
      have bf := bi_len (o := false) _ _ (seqR_lst (S := S ++ [.live (il (tb i fun m => conv (cf f) (cf g) m % p))]) (il f))
      have bg := bi_len (o := false) _ _ (seqR_lst (S := S ++ [.live (il (tb i fun m => conv (cf f) (cf g) m % p))]) (il g))
      rw [il_length] at bf bg
      have e1 := ei_rng1 (c := callK fs M (k + 1)) (es := .cons (.bi .len false (.cons (.var 1) .nil)) .nil) (ρ := [some (.int p), some (.lst (il f)), some (.lst (il g)), some (.box S.length), some (.int (i : Nat)), y]) (S := S ++ [.live (il (tb i fun m => conv (cf f) (cf g) m % p))]) (S1 := S ++ [.live (il (tb i fun m => conv (cf f) (cf g) m % p))]) f.length (by simp [bf]) (by omega)
      have hc := compL_map (S := S ++ [.live (il (tb i fun m => conv (cf f) (cf g) m % p))]) (wk := ⟨rngI 0 f.length, none⟩) (step := stepC (callK fs M (k + 1)) e17_1 (.name 5) q17_2 [5] [some (.int p), some (.lst (il f)), some (.lst (il g)), some (.box S.length), some (.int (i : Nat)), y])
        (fun d => match d with
          | .int z => if decide (z.toNat ≤ i ∧ i - z.toNat < g.length) = true then some (.int (cf f z.toNat * cf g (i - z.toNat))) else none
          | _ => none) (ds := rngI 0 f.length) rfl fun d hd => by
          unfold rngI at hd
          obtain ⟨j, hj, rfl⟩ := List.mem_map.mp hd
          have hj := List.mem_range.mp hj
          have i1 : idxD (S ++ [.live (il (tb i fun m => conv (cf f) (cf g) m % p))]) (.lst (il f)) (.int (j : Nat)) = some (.int (cf f j)) := idx_nat (seqR_lst _) (by rw [il_get, cf_some hj]; rfl)
          have hs := hf.small hp hp2 j
          by_cases h1 : j ≤ i
          · have h1' : (0 : Int) ≤ (i : Int) - (j : Int) := by omega
            by_cases h2 : i - j < g.length
            · have h2' : (i : Int) - (j : Int) < (g.length : Int) := by omega
              have i2 : idxD (S ++ [.live (il (tb i fun m => conv (cf f) (cf g) m % p))]) (.lst (il g)) (.int ((i : Int) - (j : Int))) = some (.int (cf g (i - j))) := by
                rw [show (i : Int) - (j : Int) = ((i - j : Nat) : Int) by omega]
                exact idx_nat (seqR_lst _) (by rw [il_get, cf_some h2]; rfl)
              simp [stepC, asg, wipeE, e17_1, q17_2, i1, i2, bin_mulL hs, h1, h2, h1', h2', bg]
            · have h2' : ¬ (i : Int) - (j : Int) < (g.length : Int) := by omega
              simp [stepC, asg, wipeE, e17_1, q17_2, h1, h2, h1', h2', bg]
          · have h1' : ¬ (0 : Int) ≤ (i : Int) - (j : Int) := by omega
            simp [stepC, asg, wipeE, e17_1, q17_2, h1, h1', bg]
      have hfm : (rngI 0 f.length).filterMap (fun d => match d with
          | .int z => if decide (z.toNat ≤ i ∧ i - z.toNat < g.length) = true then some (D.int (cf f z.toNat * cf g (i - z.toNat))) else none
          | _ => none) = il ((List.range f.length).filterMap fun j => if decide (j ≤ i ∧ i - j < g.length) = true then some (cf f j * cf g (i - j)) else none) := by
        unfold rngI il
        rw [List.filterMap_map, List.map_filterMap]
        congr 1
        funext j
        simp only [Function.comp, Int.zero_add, Int.toNat_natCast]
        split <;> rfl
      rw [hfm] at hc
      have hsum : ((List.range f.length).filterMap fun j => if decide (j ≤ i ∧ i - j < g.length) = true then some (cf f j * cf g (i - j)) else none).sum = conv (cf f) (cf g) i := by
        rw [sum_filter (fun j => decide (j ≤ i ∧ i - j < g.length)) (fun j => cf f j * cf g (i - j)), ← conv_sum]
        refine sumN_congr fun j hj => ?_
        by_cases h1 : j ≤ i
        · by_cases h2 : i - j < g.length
          · simp [h1, h2]
          · simp [h1, h2, cf_out (f := g) (Nat.le_of_not_lt h2)]
        · simp [h1]
      generalize hLL : ((List.range f.length).filterMap fun j => if decide (j ≤ i ∧ i - j < g.length) = true then some (cf f j * cf g (i - j)) else none) = LL at *
      have hl3 : (rngI 0 f.length).length < sizeLine := by
        have e : (rngI 0 f.length).length = f.length := by simp [rngI]
        rw [e, size_eq]
        omega
      have he : evalE (callK fs M (k + 1)) (.comp false e17_1 (.name 5) (.rng (.cons (.bi .len false (.cons (.var 1) .nil)) .nil)) q17_2 [5]) [some (.int p), some (.lst (il f)), some (.lst (il g)), some (.box S.length), some (.int (i : Nat)), y] (S ++ [.live (il (tb i fun m => conv (cf f) (cf g) m % p))]) =
          some (.lst (il LL), S ++ [.live (il (tb i fun m => conv (cf f) (cf g) m % p))]) := by
        rw [ev_comp, e1]
        dsimp only
        rw [hc]
        simp only [hl3, if_true, mk_f]
      have hsu := bi_sum (o := false) (S := S ++ [.live (il (tb i fun m => conv (cf f) (cf g) m % p))]) (.lst (il LL)) _ (seqL_lst _)
      rw [hsum] at hsu
      have hy : evalE (callK fs M (k + 1)) (.bin false .mod (.bi .int false (.cons (.bi .sum false (.cons (.comp false e17_1 (.name 5) (.rng (.cons (.bi .len false (.cons (.var 1) .nil)) .nil)) q17_2 [5]) .nil)) .nil)) (.var 0)) [some (.int p), some (.lst (il f)), some (.lst (il g)), some (.box S.length), some (.int (i : Nat)), y] (S ++ [.live (il (tb i fun m => conv (cf f) (cf g) m % p))]) =
          some (.int (conv (cf f) (cf g) i % p), S ++ [.live (il (tb i fun m => conv (cf f) (cf g) m % p))]) := by
        rw [ev_bin, ev_bi, es_cons, ev_bi, es_cons, he]
        simp [hsu, bin_mod hp]
      have ha := app_live (c := callK fs M (k + 1)) (a := .var 3) (ρ := [some (.int p), some (.lst (il f)), some (.lst (il g)), some (.box S.length), some (.int (i : Nat)), y]) (b := S.length) (S := S ++ [.live (il (tb i fun m => conv (cf f) (cf g) m % p))]) (S1 := S ++ [.live (il (tb i fun m => conv (cf f) (cf g) m % p))]) (by simp) hy (by rw [app_get0]; rfl) (by simp; omega) rfl
      simp only [stepF, asg, List.set_cons_succ, List.set_cons_zero]
      rw [w17_3, xs_nx (ρ1 := [some (.int p), some (.lst (il f)), some (.lst (il g)), some (.box S.length), some (.int (i : Nat)), y]) (by rw [x_expr, ha]), xs_nil, app_set0, tb_succ]
      rfl)
    [some (.int p), some (.lst (il f)), some (.lst (il g)), some (.box S.length), none, none] (S ++ [.live []]) ⟨⟨none, none, rfl⟩, rfl⟩
  have ht := ev_law_trim (M := M) (k := k) (S := S ++ [.live (il (tb (f.length + g.length) fun m => conv (cf f) (cf g) m % p))]) h14 (d := .box S.length) (ns := tb (f.length + g.length) fun m => conv (cf f) (cf g) m % p) (by
    show getBox _ _ = _
    exact getBox_live (by simp)) (by simp; omega)
  have hx : execs (callK fs M (k + 1)) M b17_law_by [some (.int p), some (.lst (il f)), some (.lst (il g)), none, none, none] S = some (.ret (.box (S.length + 1)), [some (.int p), some (.lst (il f)), some (.lst (il g)), some (.box S.length), x, y], S ++ [.live (il (tb (f.length + g.length) fun m => conv (cf f) (cf g) m % p)), .live (il (pmul p f g))]) := by
    have bf := bi_len (o := false) _ _ (seqR_lst (S := S ++ [.live []]) (il f))
    have bg := bi_len (o := false) _ _ (seqR_lst (S := S ++ [.live []]) (il g))
    rw [il_length] at bf bg
    rw [b17_law_by, xs_nx (ρ1 := [some (.int p), some (.lst (il f)), some (.lst (il g)), some (.box S.length), none, none]) (S1 := S ++ [.live []]) (by simp [size_eq])]
    rw [xs_nx (by
      rw [x_forS, ei_rng1 (S1 := S ++ [.live []]) (f.length + g.length) (by simp [bf, bg]) (by omega)]
      exact e)]
    refine xs_ret ?_
    simp [ht]
    rfl
  have he := exit_box (S := S) (T := [.live (il (tb (f.length + g.length) fun m => conv (cf f) (cf g) m % p)), .live (il (pmul p f g))]) 1 rfl
  simp [runF, hx, he]
end
end Sw

set_option Elab.async false
set_option linter.all false
set_option maxRecDepth 100000
set_option maxHeartbeats 4000000
namespace Sw
open PySem PySem.Spec PyProof.Rows L2
section
variable {fs : Nat → Option FD} {M k : Nat} {S : Store} {p : Int}
theorem ev_poly_less (h0 : fs 0 = some f0) (h1 : fs 1 = some f1) (h3 : fs 3 = some f3) (hp : 0 < p) {f g : List Int} (hf : f.length ≤ 100000) (hg : g.length ≤ 100000) (hM : 100000 < M) :
    callK fs M (k + 2) 3 [.int p, .lst (il f), .lst (il g)] S = some (.fre (il (psub p f g)), S) := by
  rw [callK_f h3]
  have hc := ev_comp_range (S := S) (c := callK fs M (k + 1)) (es := .cons (.bi .max2 false (.cons (.bi .len false (.cons (.var 1) .nil)) (.cons (.bi .len false (.cons (.var 2) .nil)) .nil))) .nil) (elt := e3_1) (i := 3) (ρ := [some (.int p), some (.lst (il f)), some (.lst (il g)), none]) (o := false) (max f.length g.length) (fun j => (cf f j - cf g j) % p)
    (by simp [bi_len _ _ (seqR_lst (S := S) (il f)), bi_len _ _ (seqR_lst (S := S) (il g)), max_cast]) (by omega) (by simp) fun j hj => by
      simp [e3_1, wipeE, ev_coefficient h1 (seqR_lst (S := S) (il f)) (fun z e => by cases e), ev_coefficient h1 (seqR_lst (S := S) (il g)) (fun z e => by cases e), bin_mod hp]
  have ht := ev_trimmed (M := M) (k := k) (S := S) h0 (d := .lst (il ((List.range (max f.length g.length)).map fun j => (cf f j - cf g j) % p))) (seqL_lst _) (by simp; omega)
  have hb : execs (callK fs M (k + 1)) M b3_poly_less [some (.int p), some (.lst (il f)), some (.lst (il g)), none] S = some (.ret (.box S.length), [some (.int p), some (.lst (il f)), some (.lst (il g)), none], S ++ [.live (il (psub p f g))]) := by
    rw [b3_poly_less]
    refine xs_ret ?_
    rw [x_ret, ev_callT, es_cons, hc]
    simp only [mk_f, es_nil, ht, thaw_il]
    rfl
  simp [runF, hb]
/-! ### _law_parted -/
theorem exit_tup_bl {S T : Store} (i : Nat) {a b : List Int} (h1 : T[i]? = some (.live (il a))) : exitD S.length (.tup [.box (S.length + i), .lst (il b)]) (S ++ T) = some (.tup [.fre (il a), .lst (il b)], S) := by
  have p1 : packD 7 S.length (.box (S.length + i)) (S ++ T) = some (.fre (il a), S ++ T.set i .dead) := by
    rw [pack_box 5 _ _ (by omega) (by rw [app_get]; exact h1), app_set]
  have p2 : packD 7 S.length (.lst (il b)) (S ++ T.set i .dead) = some (.lst (il b), S ++ T.set i .dead) := by
    rw [packD]
    · intro i h
      cases h
    · intro i h
      cases h
  unfold exitD
  rw [packD]
  simp only [frzA, p1, p2]
  simp
theorem cf_zeros (t : Nat) (g : List Int) (k : Nat) : cf (List.replicate t 0 ++ g) k = if t ≤ k then cf g (k - t) else 0 := by
  by_cases h : t ≤ k
  · rw [if_pos h]
    by_cases h2 : k - t < g.length
    · exact cf_get (by rw [List.getElem?_append_right (by simpa using h), List.length_replicate, cf_some h2])
    · rw [cf_out (by simp; omega), cf_out (by omega)]
  · rw [if_neg h]
    exact cf_get (by rw [List.getElem?_append_left (by simp; omega), List.getElem?_replicate, if_pos (by omega)])
structure PartedAt (p : Int) (f g : List Int) (i : Nat) (L : List Int) (Q : Nat → Int) : Prop where
  pl : Po p L
  ll : L.length ≤ f.length
  lt : L.length < g.length ∨ L.length + i ≤ f.length
  rq : ∀ k, k < f.length → 0 ≤ Q k ∧ Q k < p
  q0 : ∀ k, k + g.length ≤ L.length → Q k = 0
  eq : ∀ k, eqm p (conv (cf (tb f.length Q)) (cf g) k + cf L k) (cf f k)
theorem PartedAt.start (F : Fld p) {f g : List Int} (hf : Po p f) : PartedAt p f g 0 f fun _ => 0 :=
  ⟨hf, Nat.le_refl _, .inr (Nat.le_refl _), fun _ _ => ⟨Int.le_refl _, F.p0⟩, fun _ _ => rfl, fun k => by
    rw [conv_congr (F := cf (tb f.length fun _ => 0)) (F' := fun _ => 0) (fun j _ => by rw [cf_tb]; split <;> rfl) fun _ _ => rfl, conv_zero_left, Int.zero_add]
    exact .refl _ _⟩
theorem PartedAt.step (F : Fld p) {f g : List Int} {i : Nat} {L : List Int} {Q : Nat → Int} (hg : Po p g) (hn : g ≠ []) (h : PartedAt p f g i L Q) (hge : g.length ≤ L.length) {c : Int} (h0 : 0 ≤ c) (h1 : c < p)
    (hc : eqm p (cf g (g.length - 1) * c) (cf L (L.length - 1))) :
    PartedAt p f g (i + 1) (plus p L (List.replicate (L.length - g.length) 0 ++ g) (0 - c)) (fun k => if k = L.length - g.length then c else Q k) := by
  have hl := List.length_pos_iff.mpr hn
  have hp := F.p0
  have hll := h.ll
  have hcf : ∀ k, eqm p (cf (plus p L (List.replicate (L.length - g.length) 0 ++ g) (0 - c)) k) (cf L k - c * (if L.length - g.length ≤ k then cf g (k - (L.length - g.length)) else 0)) := fun k => by
    have := pol_eqm (p := p) (L := max L.length (List.replicate (L.length - g.length) 0 ++ g).length) (F := fun k => cf L k + (0 - c) * cf (List.replicate (L.length - g.length) 0 ++ g) k) (fun k hk => by
      rw [cf_out (by omega), cf_out (f := List.replicate (L.length - g.length) 0 ++ g) (by omega), Int.mul_zero]
      exact .refl _ _) k
    refine this.trans (.of_eq ?_)
    rw [cf_zeros]
    grind
  have hlen : (plus p L (List.replicate (L.length - g.length) 0 ++ g) (0 - c)).length ≤ L.length - 1 := tr_len (pol_po hp).tr fun k hk => by
    refine eqm_small ((hcf k).trans ?_) ((pol_po hp).rng.cf hp k) ⟨Int.le_refl _, hp⟩
    rw [if_pos (by omega)]
    by_cases e : k = L.length - 1
    · rw [e, show L.length - 1 - (L.length - g.length) = g.length - 1 by omega]
      obtain ⟨t, ht⟩ := hc
      exact ⟨-t, by grind⟩
    · rw [cf_out (f := L) (by omega), cf_out (f := g) (by omega), Int.mul_zero]
      exact .refl _ _
  refine ⟨pol_po hp, by omega, ?_, fun k hk => ?_, fun k hk => ?_, fun k => ?_⟩
  · rcases h.lt with z | z
    · omega
    · right
      omega
  · split
    · exact ⟨h0, h1⟩
    · exact h.rq k hk
  · rw [if_neg (by omega)]
    exact h.q0 k (by omega)
  · have hq : ∀ j, cf (tb f.length fun k => if k = L.length - g.length then c else Q k) j = cf (tb f.length Q) j + (if j = L.length - g.length then c else 0) := fun j => by
      rw [cf_tb, cf_tb]
      by_cases hj : j = L.length - g.length
      · subst hj
        have hq := h.q0 (L.length - g.length) (by omega)
        simp [hq]
        omega
      · rw [if_neg hj, if_neg hj, Int.add_zero]
    rw [conv_congr (fun j _ => hq j) fun _ _ => rfl, conv_add_left, conv_delta]
    refine .trans ?_ (h.eq k)
    obtain ⟨t, e⟩ := hcf k
    by_cases hk : L.length - g.length ≤ k
    · rw [if_pos hk] at e ⊢
      exact ⟨t, by grind⟩
    · rw [if_neg hk] at e ⊢
      exact ⟨t, by grind⟩
theorem PartedAt.done {f g : List Int} {L : List Int} {Q : Nat → Int} (hn : g ≠ []) (h : PartedAt p f g f.length L Q) : IsDiv p f g (trim (tb f.length Q)) L := by
  have hl := List.length_pos_iff.mpr hn
  refine ⟨⟨trim_tr _, Rng.trim (rng_of fun k hk => ?_)⟩, h.pl, ?_, fun k => ?_⟩
  · rw [tb_length] at hk
    rw [cf_tb, if_pos hk]
    exact h.rq k hk
  · rcases h.lt with z | z <;> omega
  · rw [conv_congr (F := cf (trim (tb f.length Q))) (F' := cf (tb f.length Q)) (fun j _ => cf_trim _ j) fun _ _ => rfl]
    exact h.eq k
theorem PartedAt.next {f g : List Int} {i : Nat} {L : List Int} {Q : Nat → Int} (h : PartedAt p f g i L Q) (hge : ¬ g.length ≤ L.length) : PartedAt p f g (i + 1) L Q :=
  ⟨h.pl, h.ll, .inl (by omega), h.rq, h.q0, h.eq⟩
theorem ev_law_parted (h14 : fs 14 = some f14) (h15 : fs 15 = some f15) (h16 : fs 16 = some f16) (h18 : fs 18 = some f18) (F : Fld p) (hp2 : p ≤ 1000000) {f g : List Int} (hf : Pz p f) (hg : Pz p g) (hn : g ≠ []) :
    callK fs M (k + 3) 18 [.int p, .lst (il f), .lst (il g)] S = some (.tup [.fre (il (dq p f g)), .lst (il (dr p f g))], S) := by
  rw [callK_f h18]
  have hl := List.length_pos_iff.mpr hn
  have hp := F.p0
  have lf := hf.len
  have lg := hg.len
  obtain ⟨ρ1, S1, e, ⟨L, Q, x, y, z, rfl, rfl, hP⟩⟩ := forL_rng (wk := ⟨rngI 0 f.length, none⟩) (b := stepF (callK fs M (k + 2)) M (.name 5) w18_1)
    (fun i ρ T => ∃ L Q x y z, ρ = [some (.int p), some (.lst (il f)), some (.lst (il g)), some (.box S.length), some (.lst (il L)), x, y, z] ∧ T = S ++ [.live (il (tb f.length Q))] ∧ PartedAt p f g i L Q) f.length (fun i ρ T hi ⟨L, Q, x, y, z, hρ, hT, hP⟩ => by
      subst hρ
      subst hT
      have bL := bi_len (o := false) _ _ (seqR_lst (S := S ++ [.live (il (tb f.length Q))]) (il L))
      have bg := bi_len (o := false) _ _ (seqR_lst (S := S ++ [.live (il (tb f.length Q))]) (il g))
      rw [il_length] at bL bg
      by_cases hge : g.length ≤ L.length
      · have hLn : L ≠ [] := fun e => by
          rw [e] at hge
          exact absurd hge (by simp; exact hn)
        have lL := hP.ll
        have hb : ¬ eqm p (cf g (g.length - 1)) 0 := hg.top hp hn
        have hov := ov_spec F (a := 1) hb
        obtain ⟨o0, o1, oe⟩ := hov
        have c0 : 0 ≤ (cf L (L.length - 1) * ov p 1 (cf g (g.length - 1))) % p := Int.emod_nonneg _ (by omega)
        have c1 : (cf L (L.length - 1) * ov p 1 (cf g (g.length - 1))) % p < p := Int.emod_lt_of_pos _ hp
        have hc : eqm p (cf g (g.length - 1) * ((cf L (L.length - 1) * ov p 1 (cf g (g.length - 1))) % p)) (cf L (L.length - 1)) := by
          obtain ⟨t, e⟩ := eqm.emod p (cf L (L.length - 1) * ov p 1 (cf g (g.length - 1)))
          obtain ⟨s, e2⟩ := oe
          exact ⟨cf g (g.length - 1) * t + cf L (L.length - 1) * s, by grind⟩
        have hst := hP.step F hg.toPo hn hge c0 c1 hc
        have hinv := ev_law_inverse (M := M) (k := k + 1) (S := S ++ [.live (il (tb f.length Q))]) h15 F hp2 hb
        have hlL := last_il (S := S ++ [.live (il (tb f.length Q))]) hLn
        have hlg := last_il (S := S ++ [.live (il (tb f.length Q))]) hn
        generalize hcc : (cf L (L.length - 1) * ov p 1 (cf g (g.length - 1))) % p = c at *
        have hplace : (L.length : Int) - (g.length : Int) = ((L.length - g.length : Nat) : Int) := by omega
        have hs := set_tb (S := S ++ [.live (il (tb f.length Q))]) (b := S.length) (n := f.length) (j := L.length - g.length) (F := Q) (k := ((L.length - g.length : Nat) : Int)) (x := c) (by simp) rfl (by omega)
        have hs' : setIxD (S ++ [.live (il (tb f.length Q))]) (.box S.length) (.int ((L.length - g.length : Nat) : Int)) (.int c) = some (S ++ [.live (il (tb f.length fun k => if k = L.length - g.length then c else Q k))]) := by
          rw [hs, app_set0]
          rfl
        have hrz : Rng p (List.replicate (L.length - g.length) 0 ++ g) := fun x hx => by
          rcases List.mem_append.mp hx with h | h
          · rw [(List.mem_replicate.mp h).2]
            omega
          · exact hg.rng x h
        have hplus := ev_law_plus (M := M) (k := k) (S := S ++ [.live (il (tb f.length fun k => if k = L.length - g.length then c else Q k))]) h14 h16 hp hp2 (f := L) (g := List.replicate (L.length - g.length) 0 ++ g) (a := 0 - c) hrz (by omega) (by simp; omega)
        have hrep := bin_rep (o := false) (S := S ++ [.live (il (tb f.length fun k => if k = L.length - g.length then c else Q k))]) [.int 0] (L.length - g.length) (by simp; omega) (by omega)
        rw [flat_rep, il_rep, mk_f] at hrep
        have hadd := bin_addl (o := false) (S := S ++ [.live (il (tb f.length fun k => if k = L.length - g.length then c else Q k))]) (il (List.replicate (L.length - g.length) 0)) (il g) (by simp; omega)
        rw [← il_append, mk_f] at hadd
        refine ⟨_, _, ?_, rfl, _, _, some (.int (i : Nat)), some (.int ((L.length - g.length : Nat) : Int)), some (.int c), rfl, rfl, hst⟩
        have hLpos : 0 < L.length := List.length_pos_iff.mpr hLn
        have ho : -18446744073709551616 < ov p 1 (cf g (g.length - 1)) ∧ ov p 1 (cf g (g.length - 1)) < 18446744073709551616 := by omega
        simp only [stepF, asg, List.set_cons_succ, List.set_cons_zero]
        rw [w18_1]
        refine (xs_nx ?_).trans xs_nil
        rw [x_ifS]
        have ht : evalT (callK fs M (k + 2)) (.band (.cons (.cmp .ge (.bi .len false (.cons (.var 4) .nil)) (.bi .len false (.cons (.var 2) .nil))) (.cons (.cmp .gt (.bi .len false (.cons (.var 4) .nil)) (.cI 0)) .nil))) [some (.int p), some (.lst (il f)), some (.lst (il g)), some (.box S.length), some (.lst (il L)), some (.int (i : Nat)), y, z] (S ++ [.live (il (tb f.length Q))]) = some (true, S ++ [.live (il (tb f.length Q))]) := by
          simp [bL, bg, hge, hLpos]
        rw [ht]
        dsimp only
        rw [xs_nx (ρ1 := [some (.int p), some (.lst (il f)), some (.lst (il g)), some (.box S.length), some (.lst (il L)), some (.int (i : Nat)), some (.int ((L.length - g.length : Nat) : Int)), z]) (S1 := S ++ [.live (il (tb f.length Q))]) (by simp only [x_set, ev_bin, ev_bi, es_cons, es_nil, ev_var, List.getElem?_cons_succ, List.getElem?_cons_zero, bL, bg, bin_sub, hplace, List.set_cons_succ, List.set_cons_zero])]
        rw [xs_nx (ρ1 := [some (.int p), some (.lst (il f)), some (.lst (il g)), some (.box S.length), some (.lst (il L)), some (.int (i : Nat)), some (.int ((L.length - g.length : Nat) : Int)), some (.int c)]) (S1 := S ++ [.live (il (tb f.length Q))]) (by simp [hlL, hlg, hinv, bin_mulR ho, bin_mod hp, hcc])]
        rw [xs_nx (ρ1 := [some (.int p), some (.lst (il f)), some (.lst (il g)), some (.box S.length), some (.lst (il L)), some (.int (i : Nat)), some (.int ((L.length - g.length : Nat) : Int)), some (.int c)]) (S1 := S ++ [.live (il (tb f.length fun k => if k = L.length - g.length then c else Q k))]) (by simp only [x_setIx, ev_var, List.getElem?_cons_succ, List.getElem?_cons_zero, hs', Option.map])]
        refine (xs_nx (ρ1 := [some (.int p), some (.lst (il f)), some (.lst (il g)), some (.box S.length), some (.lst (il (plus p L (List.replicate (L.length - g.length) 0 ++ g) (0 - c)))), some (.int (i : Nat)), some (.int ((L.length - g.length : Nat) : Int)), some (.int c)]) (S1 := S ++ [.live (il (tb f.length fun k => if k = L.length - g.length then c else Q k))]) ?_).trans xs_nil
        have hz : ∀ (ρ : Env) (S : Store), evalE (callK fs M (k + 2)) (.lst false (.cons (.cI 0) .nil)) ρ S = some (.lst [.int 0], S) := fun ρ S => by simp [size_eq]
        simp only [x_set, ev_callF, ev_bin, hz, es_cons, es_nil, ev_var, ev_cI, List.getElem?_cons_succ, List.getElem?_cons_zero, bin_sub, List.set_cons_succ, List.set_cons_zero, hrep, hadd, hplus, unfre_il]
      · refine ⟨_, _, ?_, rfl, L, Q, some (.int (i : Nat)), y, z, rfl, rfl, hP.next hge⟩
        have ht : evalT (callK fs M (k + 2)) (.band (.cons (.cmp .ge (.bi .len false (.cons (.var 4) .nil)) (.bi .len false (.cons (.var 2) .nil))) (.cons (.cmp .gt (.bi .len false (.cons (.var 4) .nil)) (.cI 0)) .nil))) [some (.int p), some (.lst (il f)), some (.lst (il g)), some (.box S.length), some (.lst (il L)), some (.int (i : Nat)), y, z] (S ++ [.live (il (tb f.length Q))]) = some (false, S ++ [.live (il (tb f.length Q))]) := by
          simp [bL, bg, hge]
        simp only [stepF, asg, List.set_cons_succ, List.set_cons_zero]
        rw [w18_1]
        refine (xs_nx ?_).trans xs_nil
        rw [x_ifS, ht]
        dsimp only
        rw [xs_nil])
    [some (.int p), some (.lst (il f)), some (.lst (il g)), some (.box S.length), some (.lst (il f)), none, none, none] (S ++ [.live (il (tb f.length fun _ => 0))]) ⟨f, fun _ => 0, none, none, none, rfl, rfl, .start F hf.toPo⟩
  obtain ⟨q1, q2⟩ := div_eq F hg.toPo (hP.done hn)
  have ht := ev_law_trim (M := M) (k := k + 1) (S := S ++ [.live (il (tb f.length Q))]) h14 (d := .box S.length) (ns := tb f.length Q) (by
    show getBox _ _ = _
    exact getBox_live (by simp)) (by simp; omega)
  rw [q1] at ht
  subst q2
  have hx : execs (callK fs M (k + 2)) M b18_law_parted [some (.int p), some (.lst (il f)), some (.lst (il g)), none, none, none, none, none] S = some (.ret (.tup [.box (S.length + 1), .lst (il (dr p f g))]), [some (.int p), some (.lst (il f)), some (.lst (il g)), some (.box S.length), some (.lst (il (dr p f g))), x, y, z], S ++ [.live (il (tb f.length Q)), .live (il (dq p f g))]) := by
    have bf := bi_len (o := false) _ _ (seqR_lst (S := S) (il f))
    have bf2 := bi_len (o := false) _ _ (seqR_lst (S := S ++ [.live (il (tb f.length fun _ => 0))]) (il f))
    rw [il_length] at bf bf2
    have hrep := bin_rep (o := true) (S := S) [.int 0] f.length (by simp; omega) (by omega)
    rw [flat_rep, il_rep, rep_tb, mk_t] at hrep
    rw [b18_law_parted]
    rw [xs_nx (ρ1 := [some (.int p), some (.lst (il f)), some (.lst (il g)), some (.box S.length), none, none, none, none]) (S1 := S ++ [.live (il (tb f.length fun _ => 0))]) (by simp [bf, hrep, size_eq])]
    rw [xs_nx (ρ1 := [some (.int p), some (.lst (il f)), some (.lst (il g)), some (.box S.length), some (.lst (il f)), none, none, none]) (S1 := S ++ [.live (il (tb f.length fun _ => 0))]) (by simp [bi_list _ _ (seqR_lst (S := S ++ [.live (il (tb f.length fun _ => 0))]) (il f))])]
    rw [xs_nx (by
      rw [x_forS, ei_rng1 (S1 := S ++ [.live (il (tb f.length fun _ => 0))]) f.length (by simp [bf2]) (by omega)]
      exact e)]
    refine xs_ret ?_
    simp [ht, size_eq]
  have he := exit_tup_bl (S := S) (T := [.live (il (tb f.length Q)), .live (il (dq p f g))]) 1 (b := dr p f g) rfl
  simp [runF, hx, he]
end
end Sw

set_option Elab.async false
set_option linter.all false
set_option maxRecDepth 100000
set_option maxHeartbeats 4000000
namespace Sw
open PySem PySem.Spec PyProof.Rows L2
section
variable {fs : Nat → Option FD} {M k : Nat} {S T : Store} {p : Int} {q : Fd}
/-! ### _law_common -/
theorem mon_map (F : Fld p) {f : List Int} (hf : Po p f) (hn : f ≠ []) : f.map (fun x => x * ov p 1 (cf f (f.length - 1)) % p) = mon p f := by
  have hl := sc_len F hf (mon_po F f) (mon_sc F hf)
  have hc : ∀ j, cf (f.map (fun x => x * ov p 1 (cf f (f.length - 1)) % p)) j = cf (mon p f) j := fun j => by
    have e1 : cf (f.map (fun x => x * ov p 1 (cf f (f.length - 1)) % p)) j = (cf f j * ov p 1 (cf f (f.length - 1))) % p := by
      by_cases hj : j < f.length
      · exact cf_get (by rw [List.getElem?_map, cf_some hj]; rfl)
      · rw [cf_out (by simpa using Nat.le_of_not_lt hj), cf_out (f := f) (k := j) (by omega), Int.zero_mul, Int.zero_emod]
    rw [e1]
    unfold mon
    rw [if_neg hn]
    exact (pol_cf' (L := f.length) (F := fun k => cf f k * ov p 1 (cf f (f.length - 1))) (fun k hk => by rw [cf_out hk, Int.zero_mul]; exact .refl _ _) j).symm
  refine List.ext_getElem? fun j => ?_
  by_cases hj : j < f.length
  · rw [cf_some (f := f.map _) (by simpa using hj), cf_some (f := mon p f) (by omega), hc]
  · rw [List.getElem?_eq_none (by simpa using Nat.le_of_not_lt hj), List.getElem?_eq_none (by omega)]
theorem ev_law_common (h14 : fs 14 = some f14) (h15 : fs 15 = some f15) (h16 : fs 16 = some f16) (h18 : fs 18 = some f18) (h19 : fs 19 = some f19) (F : Fld p) (hp2 : p ≤ 1000000) {f g : List Int} (hf : Pz p f) (hg : Pz p g) (h200 : g.length ≤ 200) :
    callK fs M (k + 4) 19 [.int p, .lst (il f), .lst (il g)] S = some (.fre (il (pgcd p f g)), S) := by
  rw [callK_f h19]
  have hp := F.p0
  obtain ⟨ρ1, S1, e, ⟨one, other, x, y, z, rfl, hS1, z1, z2, hgc⟩⟩ := forL_rng (wk := ⟨rngI 0 200, none⟩) (b := stepF (callK fs M (k + 3)) M (.name 5) w19_1)
    (fun i ρ T => ∃ one other x y z, ρ = [some (.int p), some (.lst (il f)), some (.lst (il g)), some (.lst (il one)), some (.lst (il other)), x, y, z] ∧ T = S ∧ Pz p one ∧ Pz p other ∧ gcdL p (200 - i) one other = gcdL p 200 f g) 200 (fun i ρ T hi ⟨one, other, x, y, z, hρ, hT, z1, z2, hgc⟩ => by
      subst hρ
      subst hT
      have bo := bi_len (o := false) _ _ (seqR_lst (S := T) (il other))
      rw [il_length] at bo
      obtain ⟨m, hm⟩ : ∃ m, 200 - i = m + 1 := ⟨200 - i - 1, by omega⟩
      have hm2 : 200 - (i + 1) = m := by omega
      rw [hm] at hgc
      by_cases hn : other = []
      · subst hn
        refine ⟨_, _, ?_, rfl, one, [], some (.int (i : Nat)), y, z, rfl, rfl, z1, z2, ?_⟩
        · simp [stepF, asg, w19_1, xs_cons, bo]
        · rw [hm2, gcdL_nil]
          rw [gcdL_nil] at hgc
          exact hgc
      · have hpos := List.length_pos_iff.mpr hn
        obtain ⟨h4, h3⟩ := Pz.dr F hp2 z1 z2 hn
        have hd := ev_law_parted (M := M) (k := k) (S := T) h14 h15 h16 h18 F hp2 z1 z2 hn
        have hi1 : idxD T (.tup [.lst (il (dq p one other)), .lst (il (dr p one other))]) (.int 1) = some (.lst (il (dr p one other))) := idx_nat (j := 1) (seqR_tup _) rfl
        refine ⟨_, _, ?_, rfl, other, dr p one other, some (.int (i : Nat)), some (.lst (il (dr p one other))), z, rfl, rfl, z2, h4, ?_⟩
        · simp [stepF, asg, w19_1, xs_cons, bo, hpos, hd, hi1]
        · rw [hm2]
          have hgc : (if other = [] then one else gcdL p m other (dr p one other)) = gcdL p 200 f g := hgc
          rw [if_neg hn] at hgc
          exact hgc)
    [some (.int p), some (.lst (il f)), some (.lst (il g)), some (.lst (il f)), some (.lst (il g)), none, none, none] S ⟨f, g, none, none, none, rfl, rfl, hf, hg, rfl⟩
  rw [hS1] at e
  have hgc : one = gcdL p g.length f g := by
    rw [← gcdL_stable F hp2 g.length 200 f g hf hg (Nat.le_refl _) h200, ← hgc]
    rfl
  have hpg : pgcd p f g = mon p one := by
    unfold pgcd
    rw [hgc]
  have bo := bi_len (o := false) _ _ (seqR_lst (S := S) (il one))
  rw [il_length] at bo
  have hx : execs (callK fs M (k + 3)) M b19_law_common [some (.int p), some (.lst (il f)), some (.lst (il g)), none, none, none, none, none] S = some (.ret (.box S.length), [some (.int p), some (.lst (il f)), some (.lst (il g)), some (.lst (il one)), some (.lst (il other)), x, y, z], S ++ [.live (il (pgcd p f g))]) := by
    rw [b19_law_common]
    rw [xs_nx (ρ1 := [some (.int p), some (.lst (il f)), some (.lst (il g)), some (.lst (il f)), none, none, none, none]) (S1 := S) (by simp)]
    rw [xs_nx (ρ1 := [some (.int p), some (.lst (il f)), some (.lst (il g)), some (.lst (il f)), some (.lst (il g)), none, none, none]) (S1 := S) (by simp)]
    rw [xs_nx (by
      rw [x_forS, ei_rng1 (S1 := S) 200 (by simp) (by omega)]
      exact e)]
    by_cases hn : one = []
    · have e0 : mon p one = [] := by
        unfold mon
        rw [if_pos hn]
      rw [hpg, e0]
      refine xs_ret ?_
      simp [bo, hn, xs_cons, size_eq]
    · have hpos := List.length_pos_iff.mpr hn
      have hb := z1.top hp hn
      have hov := ov_spec F (a := 1) hb
      have ho : -18446744073709551616 < ov p 1 (cf one (one.length - 1)) ∧ ov p 1 (cf one (one.length - 1)) < 18446744073709551616 := by omega
      have hinv := ev_law_inverse (M := M) (k := k + 2) (S := S) h15 F hp2 hb
      have hl := last_il (S := S) hn
      have hc := ev_comp_il (S := S) (c := callK fs M (k + 3)) (e := .var 3) (elt := e19_2) (i := 7) (ρ := [some (.int p), some (.lst (il f)), some (.lst (il g)), some (.lst (il one)), some (.lst (il other)), x, y, z]) (o := true) one (fun x => x * ov p 1 (cf one (one.length - 1)) % p) (by simp) (by have := z1.len; omega) fun x _ => by
        simp [e19_2, wipeE, hl, hinv, bin_mulR ho, bin_mod hp]
      rw [mon_map F z1.toPo hn, ← hpg] at hc
      rw [xs_nx (ρ1 := [some (.int p), some (.lst (il f)), some (.lst (il g)), some (.lst (il one)), some (.lst (il other)), x, y, z]) (S1 := S) (by
        have : ¬ one.length = 0 := by omega
        simp [bo, hn])]
      exact xs_ret (by rw [x_ret, hc]; rfl)
  simp [runF, hx]
/-! ### _law_poly -/
theorem draws (h11 : fs 11 = some f11) {m : Int} (hm : 0 < m) (hm2 : m ≤ 1000000) {most : Option D} {x : Option D} (wk : Wk) (hw : wk.w = none) : ∀ (ds : List D) (q : Fd), q.Ok →
    ∃ xs q', q'.Ok ∧ xs.length = ds.length ∧ Rng m xs ∧ compL wk (stepC (callK fs M (k + 1)) e20_1 (.name 3) .nop [3] [some (.box 1), some (.int m), most, x]) ds (fdS q T) = some (il xs, fdS q' T)
  | [], q, h => ⟨[], q, h, rfl, (fun _ h => nomatch h), rfl⟩
  | d :: ds, q, h => by
    obtain ⟨h1, h2, h3⟩ := drw_ok hm h
    obtain ⟨xs, q', g1, g2, g3, g4⟩ := draws h11 hm hm2 (most := most) (x := x) wk hw ds (drw q m).2 h1
    refine ⟨(drw q m).1 :: xs, q', g1, by simp [g2], fun y hy => ?_, ?_⟩
    · rcases List.mem_cons.mp hy with e | e
      · rw [e]
        exact ⟨h2, h3⟩
      · exact g3 y e
    · have hd := ev_draw (M := M) (k := k) (T := T) h11 h hm hm2
      have hok : okW (fdS (drw q m).2 T) wk = true := by
        unfold okW
        rw [hw]
      rw [compL]
      have hs : stepC (callK fs M (k + 1)) e20_1 (.name 3) .nop [3] [some (.box 1), some (.int m), most, x] d (fdS q T) = some (some (.int (drw q m).1), fdS (drw q m).2 T) := by
        simp [stepC, asg, wipeE, e20_1, hd]
      rw [hs]
      simp only [hok, if_true, g4]
      rfl
theorem ev_law_poly (h11 : fs 11 = some f11) (h14 : fs 14 = some f14) (h20 : fs 20 = some f20) (hp : 0 < p) (hp2 : p ≤ 1000000) {most : Nat} (hm : most ≤ 1000) (h : q.Ok) :
    ∃ f q', q'.Ok ∧ Pz p f ∧ f.length ≤ most ∧ callK fs M (k + 2) 20 [.box 1, .int p, .int (most : Nat)] (fdS q T) = some (.fre (il f), fdS q' T) := by
  rw [callK_f h20]
  have hm1 : (0 : Int) < (most : Int) + 1 := by omega
  obtain ⟨h1, h2, h3⟩ := drw_ok hm1 h
  have hd := ev_draw (M := M) (k := k) (T := T) h11 h hm1 (by omega)
  obtain ⟨n, hn⟩ : ∃ n : Nat, (drw q ((most : Int) + 1)).1 = (n : Int) := ⟨(drw q ((most : Int) + 1)).1.toNat, by omega⟩
  rw [hn] at hd h3
  have e1 := ei_rng1 (c := callK fs M (k + 1)) (es := .cons (.call 11 false (.cons (.var 0) (.cons (.bin false .add (.var 2) (.cI 1)) .nil))) .nil) (ρ := [some (.box 1), some (.int p), some (.int (most : Nat)), none]) (S := fdS q T) (S1 := fdS (drw q ((most : Int) + 1)).2 T) n (by simp [hd]) (by omega)
  obtain ⟨xs, q', g1, g2, g3, g4⟩ := draws (M := M) (k := k) (T := T) h11 hp hp2 (most := some (.int (most : Nat))) (x := none) ⟨rngI 0 n, none⟩ rfl (rngI 0 n) _ h1
  have hl : (rngI 0 n).length = n := by simp [rngI]
  rw [hl] at g2
  have hlt : (rngI 0 n).length < sizeLine := by
    rw [hl, size_eq]
    omega
  have ht := ev_law_trim (M := M) (k := k) (S := fdS q' T) h14 (d := .lst (il xs)) (seqL_lst _) (by omega)
  have ll := trim_len xs
  refine ⟨trim xs, q', g1, ⟨⟨trim_tr _, g3.trim⟩, by omega⟩, by omega, ?_⟩
  have hc : evalE (callK fs M (k + 1)) (.comp false e20_1 (.name 3) (.rng (.cons (.call 11 false (.cons (.var 0) (.cons (.bin false .add (.var 2) (.cI 1)) .nil))) .nil)) .nop [3]) [some (.box 1), some (.int p), some (.int (most : Nat)), none] (fdS q T) = some (.lst (il xs), fdS q' T) := by
    rw [ev_comp, e1]
    dsimp only
    rw [g4]
    simp only [hlt, if_true, mk_f]
  have hx : execs (callK fs M (k + 1)) M b20_law_poly [some (.box 1), some (.int p), some (.int (most : Nat)), none] (fdS q T) = some (.ret (.box (fdS q' T).length), [some (.box 1), some (.int p), some (.int (most : Nat)), none], fdS q' T ++ [.live (il (trim xs))]) := by
    rw [b20_law_poly]
    refine xs_ret ?_
    rw [x_ret, ev_callT, es_cons, hc]
    simp only [es_nil, ht, thaw_il]
  have hlen : (fdS q T).length = (fdS q' T).length := rfl
  simp only [runF, List.length_cons, List.length_nil, if_true, List.map_cons, List.map_nil, List.replicate, List.cons_append, List.nil_append]
  rw [hx]
  simp only [hlen, exit_box0]
/-! ### _law_is_whole, _law_is_poly -/
theorem ev_law_is_whole (h12 : fs 12 = some f12) (i : Int) : callK fs M (k + 1) 12 [.int i] S = some (.bl true, S) := by
  rw [callK_f h12]
  have hx : execs (callK fs M k) M b12_law_is_whole [some (.int i)] S = some (.ret (.bl true), [some (.int i)], S) := by
    rw [b12_law_is_whole]
    exact xs_ret (by simp [isTy])
  simp [runF, hx]
theorem ev_law_is_poly (h12 : fs 12 = some f12) (h21 : fs 21 = some f21) {d : D} {f : List Int} {w : Option Nat} (hd : seqL S d = some (il f)) (hk : seqK S d = some ⟨il f, w⟩) (hf : Pz p f) : callK fs M (k + 2) 21 [.int p, d] S = some (.bl true, S) := by
  rw [callK_f h21]
  have hr : seqR S d = some (il f) := by
    cases d <;> first | exact hd | cases hd
  have hty : isTy .isList d = some true := by
    cases d <;> first | rfl | cases hd
  have hok := seqK_ok' hk
  have hc := compL_map (S := S) (wk := ⟨il f, w⟩) (step := stepC (callK fs M (k + 1)) e21_1 (.name 2) q21_2 [2] [some (.int p), some d, none]) (fun _ => none) (ds := il f) hok fun x hx => by
    obtain ⟨i, hi, rfl⟩ := List.mem_map.mp hx
    have h := hf.rng i hi
    have hw := ev_law_is_whole (M := M) (k := k) (S := S) h12 i
    simp [stepC, asg, wipeE, e21_1, q21_2, hw, h.1, h.2]
  have hlen : (il f).length < sizeLine := by
    rw [size_eq, il_length]
    have := hf.len
    omega
  have he : evalE (callK fs M (k + 1)) (.comp false e21_1 (.name 2) (.list (.var 1)) q21_2 [2]) [some (.int p), some d, none] S = some (.lst [], S) := by
    rw [ev_comp, ei_list]
    simp only [ev_var, List.getElem?_cons_succ, List.getElem?_cons_zero, hk, Option.map]
    rw [hc]
    simp only [hlen, if_true, mk_f]
    have : ∀ l : List D, l.filterMap (fun _ => (none : Option D)) = [] := fun l => by
      induction l with
      | nil => rfl
      | cons x l ih => rw [List.filterMap_cons]; exact ih
    rw [this]
  have bd := bi_len (o := false) d _ hr
  have b0 := bi_len (o := false) _ _ (seqR_lst (S := S) [])
  rw [il_length] at bd
  have hx : execs (callK fs M (k + 1)) M b21_law_is_poly [some (.int p), some d, none] S = some (.ret (.bl true), [some (.int p), some d, none], S) := by
    rw [b21_law_is_poly]
    rw [xs_nx (ρ1 := [some (.int p), some d, none]) (S1 := S) (by
      rw [x_ifS]
      have ht : evalT (callK fs M (k + 1)) (.bor (.cons (.bnot (.isi .isList (.var 1))) (.cons (.cmp .gt (.bi .len false (.cons (.comp false e21_1 (.name 2) (.list (.var 1)) q21_2 [2]) .nil)) (.cI 0)) .nil))) [some (.int p), some d, none] S = some (false, S) := by
        rw [et_bor, orT_cons]
        have h1 : evalT (callK fs M (k + 1)) (.bnot (.isi .isList (.var 1))) [some (.int p), some d, none] S = some (false, S) := by
          simp [hty]
        rw [h1]
        dsimp only
        rw [orT_one, et_cmp, ev_bi, es_cons, he]
        simp
      rw [ht]
      dsimp only
      rw [xs_nil])]
    refine xs_ret ?_
    by_cases hn : f = []
    · simp [bd, hn]
    · have hl : idxD S d (.int (-1)) = some (.int (cf f (f.length - 1))) := idx_lst hr (atI_last (by
        unfold il
        rw [List.getLast?_map, last_cf hn]
        rfl))
      have ht := hf.tr.top hn
      have : ¬ f.length = 0 := by have := List.length_pos_iff.mpr hn; omega
      simp [bd, hn, hl, ht]
  simp [runF, hx]
/-! ### _law_value -/
theorem value_loop (c : Fns) (F : Fld p) (hp2 : p ≤ 1000000) {a : Int} (ha : -18446744073709551616 < a ∧ a < 18446744073709551616) {f : List Int} (wk : Wk) (hw : okW S wk = true) : ∀ (l : List Int) (t w : Int) (x : Option D), Rng p l → 0 ≤ w → w < p →
    ∃ t' w' x', eqm p t' (t + w * pe a l) ∧ forL wk (stepF c M (.name 5) w22_1) (il l) [some (.int p), some (.lst (il f)), some (.int a), some (.int t), some (.int w), x] S = some (.nx, [some (.int p), some (.lst (il f)), some (.int a), some (.int t'), some (.int w'), x'], S)
  | [], t, w, x, _, _, _ => ⟨t, w, x, .of_eq (by simp [pe]), rfl⟩
  | y :: l, t, w, x, hr, h0, h1 => by
    have hp := F.p0
    obtain ⟨t', w', x', g1, g2⟩ := value_loop c F hp2 ha (f := f) wk hw l (t + y * w) ((w * a) % p) (some (.int y)) (fun z hz => hr z (List.mem_cons_of_mem _ hz)) (Int.emod_nonneg _ (by omega)) (Int.emod_lt_of_pos _ hp)
    refine ⟨t', w', x', g1.trans ?_, ?_⟩
    · obtain ⟨s, e⟩ := eqm.emod p (w * a)
      exact ⟨s * pe a l, by show _ = t + w * (y + a * pe a l) + _; grind⟩
    · have hsw : -18446744073709551616 < w ∧ w < 18446744073709551616 := by omega
      have hs : stepF c M (.name 5) w22_1 (.int y) [some (.int p), some (.lst (il f)), some (.int a), some (.int t), some (.int w), x] S = some (.nx, [some (.int p), some (.lst (il f)), some (.int a), some (.int (t + y * w)), some (.int ((w * a) % p)), some (.int y)], S) := by
        simp [stepF, asg, w22_1, xs_cons, bin_mulR ha, bin_mulR hsw, bin_mod hp]
      rw [il_cons, forL, hs]
      simp only [hw, if_true]
      exact g2
theorem ev_law_value (h22 : fs 22 = some f22) (F : Fld p) (hp2 : p ≤ 1000000) {a : Int} (ha : -18446744073709551616 < a ∧ a < 18446744073709551616) {f : List Int} (hf : Rng p f) :
    callK fs M (k + 1) 22 [.int p, .lst (il f), .int a] S = some (.int (pe a f % p), S) := by
  rw [callK_f h22]
  have hp := F.p0
  obtain ⟨t', w', x', g1, g2⟩ := value_loop (S := S) (M := M) (callK fs M k) F hp2 ha (f := f) ⟨il f, none⟩ rfl f 0 1 none hf (by omega) F.pos
  rw [Int.zero_add, Int.one_mul] at g1
  have hx : execs (callK fs M k) M b22_law_value [some (.int p), some (.lst (il f)), some (.int a), none, none, none] S = some (.ret (.int (pe a f % p)), [some (.int p), some (.lst (il f)), some (.int a), some (.int t'), some (.int w'), x'], S) := by
    rw [b22_law_value]
    rw [xs_nx (ρ1 := [some (.int p), some (.lst (il f)), some (.int a), some (.int 0), none, none]) (S1 := S) (by simp)]
    rw [xs_nx (ρ1 := [some (.int p), some (.lst (il f)), some (.int a), some (.int 0), some (.int 1), none]) (S1 := S) (by simp)]
    rw [xs_nx (by simp only [x_forS, ei_list, ev_var, List.getElem?_cons_succ, List.getElem?_cons_zero, seqK_lst, Option.map]; exact g2)]
    exact xs_ret (by simp [bin_mod hp, eqm_iff.mp g1])
  simp [runF, hx]
/-! ### _law_field, _law_feed -/
theorem ev_law_field (h11 : fs 11 = some f11) (h13 : fs 13 = some f13) (h : q.Ok) : ∃ (p : Int) (q' : Fd), Fld p ∧ p ≤ 7 ∧ q'.Ok ∧ callK fs M (k + 2) 13 [.box 1] (fdS q T) = some (.int p, fdS q' T) := by
  rw [callK_f h13]
  obtain ⟨h1, h2, h3⟩ := drw_ok (show (0 : Int) < 4 by decide) h
  have hd := ev_draw (M := M) (k := k) (T := T) h11 h (show (0 : Int) < 4 by decide) (by decide)
  have key : ∀ p : Int, idxD (fdS (drw q 4).2 T) (.lst [.int 2, .int 3, .int 5, .int 7]) (.int (drw q 4).1) = some (.int p) → callK fs M (k + 1) 11 [.box 1, .int 4] (fdS q T) = some (.int (drw q 4).1, fdS (drw q 4).2 T) → runF (callK fs M (k + 1)) M f13 [.box 1] (fdS q T) = some (.int p, fdS (drw q 4).2 T) := fun p hi hd => by
    have hx : execs (callK fs M (k + 1)) M b13_law_field [some (.box 1)] (fdS q T) = some (.ret (.int p), [some (.box 1)], fdS (drw q 4).2 T) := by
      rw [b13_law_field]
      refine xs_ret ?_
      simp [hd, hi, size_eq]
    have hl : (fdS q T).length = (fdS (drw q 4).2 T).length := rfl
    simp only [runF, List.length_cons, List.length_nil, if_true, List.map_cons, List.map_nil, Nat.sub_self, List.replicate, List.cons_append, List.nil_append]
    rw [hx]
    simp only [exit_int, hl, take_len0]
  have hv : (drw q 4).1 = 0 ∨ (drw q 4).1 = 1 ∨ (drw q 4).1 = 2 ∨ (drw q 4).1 = 3 := by omega
  rcases hv with e | e | e | e
  · exact ⟨2, _, fld2, by decide, h1, key 2 (by rw [e]; rfl) hd⟩
  · exact ⟨3, _, fld3, by decide, h1, key 3 (by rw [e]; rfl) hd⟩
  · exact ⟨5, _, fld5, by decide, h1, key 5 (by rw [e]; rfl) hd⟩
  · exact ⟨7, _, fld7, by decide, h1, key 7 (by rw [e]; rfl) hd⟩
theorem ev_law_feed (h10 : fs 10 = some f10) (ns : List Int) : callK fs M (k + 1) 10 [.scr ns] [] = some (.fre [.fre (il ns), .int 0, .int 0, .int 1], []) := by
  rw [callK_f h10]
  have hx : execs (callK fs M k) M b10_law_feed [some (.scr ns)] [] = some (.ret (.box 1), [some (.scr ns)], [.live (il ns), .live [.box 0, .int 0, .int 0, .int 1]]) := by
    rw [b10_law_feed]
    refine xs_ret ?_
    simp [bi_list _ _ (seqR_scr (S := []) ns), size_eq]
  have he : exitD 0 (.box 1) [.live (il ns), .live [.box 0, .int 0, .int 0, .int 1]] = some (.fre [.fre (il ns), .int 0, .int 0, .int 1], []) := by
    have p1 : packD 7 0 (.box 0) [.live (il ns), .dead] = some (.fre (il ns), [.dead, .dead]) := pack_box 5 0 0 (Nat.le_refl _) rfl
    unfold exitD
    rw [packD]
    simp only [Nat.not_lt_zero, if_false, List.getElem?_cons_succ, List.getElem?_cons_zero, List.set_cons_succ, List.set_cons_zero, frzA, p1]
    simp [packD]
  simp [runF, hx, he]
theorem thaw_feed (ns : List Int) : thaw (.fre [.fre (il ns), .int 0, .int 0, .int 1]) [] = (.box 1, fdS ⟨ns, 0, 0, 1⟩ []) := by
  simp [thaw, thaws, thaws_il, fdS]
end
end Sw

set_option Elab.async false
set_option linter.all false
set_option maxRecDepth 100000
set_option maxHeartbeats 4000000
namespace Sw
open PySem PySem.Spec PyProof.Rows L2
/-- the defs of the law of polynomials -/
structure Fs37 (fs : Nat → Option FD) : Prop where
  h0 : fs 0 = some f0
  h1 : fs 1 = some f1
  h2 : fs 2 = some f2
  h3 : fs 3 = some f3
  h4 : fs 4 = some f4
  h5 : fs 5 = some f5
  h6 : fs 6 = some f6
  h7 : fs 7 = some f7
  h8 : fs 8 = some f8
  h9 : fs 9 = some f9
  h10 : fs 10 = some f10
  h11 : fs 11 = some f11
  h12 : fs 12 = some f12
  h13 : fs 13 = some f13
  h14 : fs 14 = some f14
  h15 : fs 15 = some f15
  h16 : fs 16 = some f16
  h17 : fs 17 = some f17
  h18 : fs 18 = some f18
  h19 : fs 19 = some f19
  h20 : fs 20 = some f20
  h21 : fs 21 = some f21
  h22 : fs 22 = some f22
  h23 : fs 23 = some f23
section
variable {c : Fns} {M : Nat} {ρ : Env} {S S1 : Store} {p : Int} {q : Fd}
theorem runF_ret {fd : FD} {args : List D} {d : D} {r : D × Store} (hl : args.length = fd.np) (hx : execs c M fd.body (args.map some ++ List.replicate (fd.ns - fd.np) none) S = some (.ret d, ρ, S1)) (he : exitD S.length d S1 = some r) : runF c M fd args S = some r := by
  unfold runF
  rw [if_pos hl, hx]
  exact he
theorem if_no {t : E} {a : Sts} (h : evalT c t ρ S = some (false, S1)) : exec c M (.ifS t a .nil) ρ S = some (.nx, ρ, S1) := by
  rw [x_ifS, h]
  dsimp only
  rw [xs_nil]
theorem or_no {e e2 : E} {es : Es} (h : evalT c e ρ S = some (false, S1)) : evalOrT c (.cons e (.cons e2 es)) ρ S = evalOrT c (.cons e2 es) ρ S1 := by
  rw [orT_cons, h]
theorem and_no {e e2 : E} {es : Es} (h : evalT c e ρ S = some (false, S1)) : evalAndT c (.cons e (.cons e2 es)) ρ S = some (false, S1) := by
  rw [andT_cons, h]
@[simp] theorem fdS_len (T : Store) : (fdS q T).length = T.length + 2 := rfl
@[simp] theorem fdS_app (T L : Store) : fdS q T ++ L = fdS q (T ++ L) := rfl
theorem eqD_same {S : Store} {x y : D} (h : dat 16 S x = dat 16 S y) (hy : plain 16 y = true) : eqD S x y = some true := by
  have := eqD_plain (S := S) hy hy
  unfold eqD at this ⊢
  rw [h]
  rw [this]
  simp
/-- a comprehension over lists of numbers that gives numbers -/
theorem ev_comp_ll {e elt : E} {i : Nat} (L : List (List Int)) (F : List Int → Int) (he : evalE c e ρ S = some (.lst (L.map fun x => .lst (il x)), S)) (hl : L.length ≤ 1000000)
    (h : ∀ x ∈ L, evalE c elt ((wipeE ρ [i]).set i (some (.lst (il x)))) S = some (.int (F x), S)) {o : Bool} : evalE c (.comp o elt (.name i) (.list e) .nop [i]) ρ S = some (mk o (il (L.map F)) S) := by
  have hc : ∀ (wk : Wk) (hw : okW S wk = true) (L' : List (List Int)), (∀ x ∈ L', x ∈ L) → compL wk (stepC c elt (.name i) .nop [i] ρ) (L'.map fun x => .lst (il x)) S = some (il (L'.map F), S) := by
    intro wk hw L'
    induction L' with
    | nil => intro _; rfl
    | cons x L' ih =>
      intro hx
      have e := h x (hx x List.mem_cons_self)
      rw [List.map_cons, compL]
      have hs : stepC c elt (.name i) .nop [i] ρ (.lst (il x)) S = some (some (.int (F x)), S) := by
        simp only [stepC, asg, ec_nop]
        rw [e]
      rw [hs]
      simp only [hw, if_true, ih fun y hy => hx y (List.mem_cons_of_mem _ hy)]
      rfl
  rw [ev_comp, ei_list, he]
  simp only [seqK_lst, Option.map]
  rw [hc _ rfl L fun x hx => hx]
  dsimp only
  rw [if_pos (show (L.map fun x => D.lst (il x)).length < sizeLine by rw [size_eq, List.length_map]; omega)]
/-- nothing is left by a comprehension -/
theorem ev_comp_no {e elt cond : E} {i : Nat} {d : D} {wk : Wk} (he : evalE c e ρ S = some (d, S)) (hk : seqK S d = some wk) (hl : wk.ds.length ≤ 1000000)
    (h : ∀ x ∈ wk.ds, evalC c cond ((wipeE ρ [i]).set i (some x)) S = some (false, S)) : evalE c (.comp false elt (.name i) (.list e) cond [i]) ρ S = some (.lst [], S) := by
  have hc := compL_map (S := S) (wk := wk) (step := stepC c elt (.name i) cond [i] ρ) (fun _ => none) (ds := wk.ds) (seqK_ok' hk) fun x hx => by
    have e := h x hx
    simp only [stepC, asg] at e ⊢
    rw [e]
  have : ∀ l : List D, l.filterMap (fun _ => (none : Option D)) = [] := fun l => by
    induction l with
    | nil => rfl
    | cons x l ih => rw [List.filterMap_cons]; exact ih
  rw [this] at hc
  rw [ev_comp, ei_list, he]
  simp only [hk, Option.map, hc]
  rw [if_pos (show wk.ds.length < sizeLine by rw [size_eq]; omega)]
  rfl
end
section
variable {fs : Nat → Option FD} {M k : Nat} {p : Int} {q : Fd}
/-- what the told lists are, behind the draw of them -/
noncomputable def toldT (p : Int) (f g : List Int) : Store := [.live (il (padd p f g)), .live (il (psub p f g)), .live (il (pmul p f g)), .live (il (pgcd p f g))]
noncomputable def toldU (p : Int) (f g : List Int) : Store := [.live (il (padd p f g ++ [1])), .live (il (psub p f g)), .live (il (pmul p f g)), .live (il (pgcd p f g))]
theorem pmul_pz (hp : 0 < p) {f g : List Int} (h : f.length + g.length ≤ 100000) : Pz p (pmul p f g) := ⟨pol_po hp, by have : (pmul p f g).length ≤ f.length + g.length := pol_len; omega⟩
theorem padd_pz (hp : 0 < p) {f g : List Int} (hf : Pz p f) (hg : Pz p g) : Pz p (padd p f g) := ⟨pol_po hp, by have : (padd p f g).length ≤ max f.length g.length := pol_len; have := hf.len; have := hg.len; omega⟩
theorem psub_pz (hp : 0 < p) {f g : List Int} (hf : Pz p f) (hg : Pz p g) : Pz p (psub p f g) := ⟨pol_po hp, by have : (psub p f g).length ≤ max f.length g.length := pol_len; have := hf.len; have := hg.len; omega⟩
/-- what is handed in, what is told, what is due -/
def hand (f g h : List Int) : D := .lst [.lst (il f), .lst (il g), .lst (il h)]
def toldD : D := .lst [.box 2, .box 3, .box 4, .box 5]
noncomputable def dueD (p : Int) (f g : List Int) : D := .lst [.lst (il (padd p f g)), .lst (il (psub p f g)), .lst (il (pmul p f g)), .lst (il (pgcd p f g))]
def en23 (p : Int) (f g h : List Int) (x5 x6 x7 x8 x9 x10 x11 : Option D) : Env := [some (.box 1), some (.int p), some (.lst (il f)), some (.lst (il g)), some (.lst (il h)), x5, x6, x7, x8, x9, x10, x11, none, none]
def vals (p a : Int) (f g s d m : List Int) : List Int := [pe a f % p, pe a g % p, pe a s % p, pe a d % p, pe a m % p]
/-- the division part's end: nothing is found wrong -/
theorem right_div (H : Fs37 fs) (F : Fld p) (hp2 : p ≤ 7) (hM : 1000000 < M) {f g h : List Int} (hf : Pz p f) (hg : Pz p g) (l1 : f.length ≤ 100) (l2 : g.length ≤ 100) (S : Store) (x8 x9 : Option D) (hn : g ≠ []) :
    execs (callK fs M (k + 5)) M
  (.cons (.set 10 (.call 6 false (.cons (.var 1) (.cons (.idx (.var 5) (.cI 0)) (.cons (.idx (.var 5) (.cI 1)) .nil)))))
  (.cons (.ifS (.bor (.cons (.bnot (.isi .isTup (.var 10))) (.cons (.cmp .ne (.var 10) (.call 18 false (.cons (.var 1) (.cons (.var 2) (.cons (.var 3) .nil))))) (.cons (.cmp .ge (.bi .len false (.cons (.idx (.var 10) (.cI 1)) .nil)) (.bi .len false (.cons (.var 3) .nil))) (.cons (.cmp .ne (.var 5) (.lst false (.cons (.var 2) (.cons (.var 3) (.cons (.var 4) .nil))))) .nil)))))
   (.cons (.ret (.cB false))
   .nil)
   .nil)
  (.cons (.ifS (.cmp .ne (.call 16 false (.cons (.var 1) (.cons (.call 17 false (.cons (.var 1) (.cons (.idx (.var 10) (.cI 0)) (.cons (.var 3) .nil)))) (.cons (.idx (.var 10) (.cI 1)) (.cons (.cI 1) .nil))))) (.var 2))
   (.cons (.ret (.cB false))
   .nil)
   .nil)
  (.cons (.ifS (.bor (.cons (.cmp .ne (.call 6 false (.cons (.var 1) (.cons (.idx (.var 7) (.cI 3)) (.cons (.lst false (.cons (.cI 1) .nil)) .nil)))) (.tup (.cons (.idx (.var 7) (.cI 3)) (.cons (.lst false .nil) .nil)))) (.cons (.cmp .ne (.idx (.call 6 false (.cons (.var 1) (.cons (.var 3) (.cons (.idx (.var 7) (.cI 3)) .nil)))) (.cI 1)) (.lst false .nil)) .nil)))
   (.cons (.ret (.cB false))
   .nil)
   .nil)
  .nil)))) (en23 p f g h (some (hand f g h)) (some toldD) (some (dueD p f g)) x8 x9 none none) S =
    some (.nx, en23 p f g h (some (hand f g h)) (some toldD) (some (dueD p f g)) x8 x9 (some (.tup [.lst (il (dq p f g)), .lst (il (dr p f g))])) none, S) := by
  have hp := F.p0
  have hd := div_is F (by omega) hf.toPo hg.toPo hn hf.len hg.len
  have zd := pgcd_pz F (by omega) hf hg
  have nd := pgcd_ne F (by omega) hf hg hn
  have lq : (dq p f g).length ≤ 100 := tr_len hd.pq.tr fun j hj => by
    have q0 : dq p f g = [] ∨ dq p f g ≠ [] := by
      by_cases h : dq p f g = []
      · exact .inl h
      · exact .inr h
    rcases q0 with q0 | q0
    · rw [q0]
      rfl
    · by_cases hfn : f = []
      · exact absurd (div_eq F hg.toPo (show IsDiv p f g [] f from div_short F hf.toPo (by rw [hfn]; exact List.length_pos_iff.mpr hn))).1.symm q0
      · have key : ∀ i, eqm p (conv (cf (dq p f g)) (cf g) i) (cf (psub p f (dr p f g)) i) := fun i => by
          refine .trans ?_ (psub_cf p f (dr p f g) i).symm
          obtain ⟨t, e⟩ := hd.eq i
          exact ⟨t, by grind⟩
        have tl := top_of (f := psub p f (dr p f g)) F hd.pq hg.toPo (pol_po hp) q0 hn key
        have : (psub p f (dr p f g)).length ≤ max f.length (dr p f g).length := pol_len
        have := hd.lt
        have := List.length_pos_iff.mpr hn
        have := List.length_pos_iff.mpr q0
        exact cf_out (by omega)
  have zq : Pz p (dq p f g) := ⟨hd.pq, by omega⟩
  have zr : Pz p (dr p f g) := ⟨hd.pr, by have := hd.lt; omega⟩
  have z1 : Po p [1] := ⟨fun x h => by cases h; decide, fun x hx => by
    rw [List.mem_singleton.mp hx]
    have := F.pos
    omega⟩
  have c6 : ∀ S, callK fs M (k + 5) 6 [.int p, .lst (il f), .lst (il g)] S = some (.tup [.fre (il (dq p f g)), .fre (il (dr p f g))], S) := fun S => ev_poly_parts (k := k + 3) H.h0 H.h5 H.h6 F (by omega) hf.toPo hg.toPo hn hf.len hg.len hM
  have c18 : ∀ S, callK fs M (k + 5) 18 [.int p, .lst (il f), .lst (il g)] S = some (.tup [.fre (il (dq p f g)), .lst (il (dr p f g))], S) := fun S => ev_law_parted (k := k + 2) H.h14 H.h15 H.h16 H.h18 F (by omega) hf hg hn
  have c17 : ∀ S, callK fs M (k + 5) 17 [.int p, .lst (il (dq p f g)), .lst (il g)] S = some (.fre (il (pmul p (dq p f g) g)), S) := fun S => ev_law_by (k := k + 3) H.h14 H.h17 hp (by omega) hd.pq.rng (by omega) hg.len
  have c16 : ∀ S, callK fs M (k + 5) 16 [.int p, .lst (il (pmul p (dq p f g) g)), .lst (il (dr p f g)), .int 1] S = some (.fre (il f), S) := fun S => by
    rw [ev_law_plus (k := k + 3) H.h14 H.h16 hp (by omega) hd.pr.rng (pmul_pz hp (by omega)).len zr.len, plus_one]
    have : padd p (pmul p (dq p f g) g) (dr p f g) = f := po_ext hp (pol_po hp) hf.toPo fun i => by
      refine (padd_cf p _ _ i).trans ?_
      exact ((pmul_cf p _ _ i).add (.refl _ _)).trans (hd.eq i)
    rw [this]
  have c6' : ∀ S, callK fs M (k + 5) 6 [.int p, .lst (il (pgcd p f g)), .lst [.int 1]] S = some (.tup [.fre (il (pgcd p f g)), .fre (il [])], S) := fun S => by
    have := ev_poly_parts (M := M) (k := k + 3) (S := S) H.h0 H.h5 H.h6 F (by omega) zd.toPo z1 (by simp) zd.len (by decide) hM
    rw [(div_one F zd.toPo).1, (div_one F zd.toPo).2] at this
    exact this
  have c6'' : ∀ S, callK fs M (k + 5) 6 [.int p, .lst (il g), .lst (il (pgcd p f g))] S = some (.tup [.fre (il (dq p g (pgcd p f g))), .fre (il [])], S) := fun S => by
    have := ev_poly_parts (M := M) (k := k + 3) (S := S) H.h0 H.h5 H.h6 F (by omega) hg.toPo zd.toPo nd hg.len zd.len hM
    rw [dv_dr F zd.toPo nd (pgcd_dv F (by omega) hf hg).2] at this
    exact this
  have i50 : ∀ S, idxD S (hand f g h) (.int 0) = some (.lst (il f)) := fun S => idx_nat (j := 0) (seqR_lst _) rfl
  have i51 : ∀ S, idxD S (hand f g h) (.int 1) = some (.lst (il g)) := fun S => idx_nat (j := 1) (seqR_lst _) rfl
  have i73 : ∀ S, idxD S (dueD p f g) (.int 3) = some (.lst (il (pgcd p f g))) := fun S => idx_nat (j := 3) (seqR_lst _) rfl
  have j0 : ∀ S, idxD S (.tup [.lst (il (dq p f g)), .lst (il (dr p f g))]) (.int 0) = some (.lst (il (dq p f g))) := fun S => idx_nat (j := 0) (seqR_tup _) rfl
  have j1 : ∀ S, idxD S (.tup [.lst (il (dq p f g)), .lst (il (dr p f g))]) (.int 1) = some (.lst (il (dr p f g))) := fun S => idx_nat (j := 1) (seqR_tup _) rfl
  have j2 : ∀ S, idxD S (.tup [.lst (il (dq p g (pgcd p f g))), .lst []]) (.int 1) = some (.lst []) := fun S => idx_nat (j := 1) (seqR_tup _) rfl
  have bg := bi_len (o := false) _ _ (seqR_lst (S := S) (il g))
  have br := bi_len (o := false) _ _ (seqR_lst (S := S) (il (dr p f g)))
  rw [il_length] at bg br
  have hlt : ¬ g.length ≤ (dr p f g).length := by have := hd.lt; omega
  have e5 : eqD S (hand f g h) (.lst [.lst (il f), .lst (il g), .lst (il h)]) = some true := by
    rw [hand, eqD_plain (by simp) (by simp)]
    simp
  have e10 : eqD S (.tup [.lst (il (dq p f g)), .lst (il (dr p f g))]) (.tup [.lst (il (dq p f g)), .lst (il (dr p f g))]) = some true := by
    rw [eqD_plain (by simp) (by simp)]
    simp
  have e7 : eqD S (.tup [.lst (il (pgcd p f g)), .lst []]) (.tup [.lst (il (pgcd p f g)), .lst []]) = some true := by
    rw [eqD_plain (by simp) (by simp)]
    simp
  have e0 : eqD S (.lst []) (.lst []) = some true := by
    have := eqD_il (S := S) [] []
    simpa using this
  have ty : isTy .isTup (.tup [.lst (il (dq p f g)), .lst (il (dr p f g))]) = some true := rfl
  rw [xs_nx (ρ1 := en23 p f g h (some (hand f g h)) (some toldD) (some (dueD p f g)) x8 x9 (some (.tup [.lst (il (dq p f g)), .lst (il (dr p f g))])) none) (S1 := S) (by
    simp [en23, i50, i51, c6])]
  rw [xs_nx (if_no (S1 := S) (by
    simp [en23, ty, c18, e10, j1, br, bg, hlt, e5, size_eq]))]
  rw [xs_nx (if_no (S1 := S) (by
    simp [en23, j0, j1, c17, c16]))]
  rw [xs_nx (if_no (S1 := S) (by
    simp [en23, i73, c6', c6'', e7, j2, e0, size_eq]))]
  rw [xs_nil]
theorem ev_law_right (H : Fs37 fs) (h23 : fs 23 = some f23) (F : Fld p) (hp2 : p ≤ 7) (hM : 1000000 < M) {f g h : List Int} (hf : Pz p f) (hg : Pz p g) (hh : Pz p h) (l1 : f.length ≤ 100) (l2 : g.length ≤ 100) (l3 : h.length ≤ 100) (ok : q.Ok) :
    ∃ q', q'.Ok ∧ callK fs M (k + 6) 23 [.box 1, .int p, .lst (il f), .lst (il g), .lst (il h)] (fdS q []) = some (.bl true, fdS q' []) := by
  rw [callK_f h23]
  have hp := F.p0
  obtain ⟨dok, d0, d1⟩ := drw_ok hp ok
  have cdr : callK fs M (k + 5) 11 [.box 1, .int p] (fdS q (toldU p f g)) = some (.int (drw q p).1, fdS (drw q p).2 (toldU p f g)) := ev_draw (k := k + 4) H.h11 ok hp (by omega)
  generalize ha : (drw q p).1 = a at *
  generalize hq' : (drw q p).2 = q' at *
  have sa : -18446744073709551616 < a ∧ a < 18446744073709551616 := by omega
  have z2 := padd_pz hp hf hg
  have z3 := psub_pz hp hf hg
  have z4 : Pz p (pmul p f g) := pmul_pz hp (by omega)
  have z8 := pgcd_pz F (by omega) hf hg
  have c2 : ∀ S, callK fs M (k + 5) 2 [.int p, .lst (il f), .lst (il g)] S = some (.fre (il (padd p f g)), S) := fun S => ev_poly_sum (k := k + 3) H.h0 H.h1 H.h2 hp hf.len hg.len (by omega)
  have c3 : ∀ S, callK fs M (k + 5) 3 [.int p, .lst (il f), .lst (il g)] S = some (.fre (il (psub p f g)), S) := fun S => ev_poly_less (k := k + 3) H.h0 H.h1 H.h3 hp hf.len hg.len (by omega)
  have c4 : ∀ S, callK fs M (k + 5) 4 [.int p, .lst (il f), .lst (il g)] S = some (.fre (il (pmul p f g)), S) := fun S => ev_poly_product (k := k + 3) H.h0 H.h4 hp (by omega) hf.rng hf.len hg.len hM
  have c8 : ∀ S, callK fs M (k + 5) 8 [.int p, .lst (il f), .lst (il g)] S = some (.fre (il (pgcd p f g)), S) := fun S => ev_poly_common (k := k + 2) H.h0 H.h5 H.h6 H.h7 H.h8 F (by omega) hM hf hg
  have c8' : ∀ S, callK fs M (k + 5) 8 [.int p, .lst (il g), .lst (il f)] S = some (.fre (il (pgcd p f g)), S) := fun S => by
    rw [ev_poly_common (k := k + 2) H.h0 H.h5 H.h6 H.h7 H.h8 F (by omega) hM hg hf, pgcd_sym F (by omega) hf hg]
  have c16 : ∀ S, callK fs M (k + 5) 16 [.int p, .lst (il f), .lst (il g), .int 1] S = some (.fre (il (padd p f g)), S) := fun S => by
    rw [ev_law_plus (k := k + 3) H.h14 H.h16 hp (by omega) hg.rng hf.len hg.len, plus_one]
  have c16' : ∀ S, callK fs M (k + 5) 16 [.int p, .lst (il f), .lst (il g), .int (-1)] S = some (.fre (il (psub p f g)), S) := fun S => by
    rw [ev_law_plus (k := k + 3) H.h14 H.h16 hp (by omega) hg.rng hf.len hg.len, plus_neg]
  have c17 : ∀ S, callK fs M (k + 5) 17 [.int p, .lst (il f), .lst (il g)] S = some (.fre (il (pmul p f g)), S) := fun S => ev_law_by (k := k + 3) H.h14 H.h17 hp (by omega) hf.rng hf.len hg.len
  have c19 : ∀ S, callK fs M (k + 5) 19 [.int p, .lst (il f), .lst (il g)] S = some (.fre (il (pgcd p f g)), S) := fun S => ev_law_common (k := k + 1) H.h14 H.h15 H.h16 H.h18 H.h19 F (by omega) hf hg (by omega)
  have c9 : ∀ (x : List Int) S, callK fs M (k + 5) 9 [.int p, .lst (il x), .int a] S = some (.int (pe a x % p), S) := fun x S => ev_poly_at (k := k + 4) H.h9 hp sa
  have c22 : ∀ (x : List Int) S, Rng p x → callK fs M (k + 5) 22 [.int p, .lst (il x), .int a] S = some (.int (pe a x % p), S) := fun x S hx => ev_law_value (k := k + 4) H.h22 F (by omega) sa hx
  have c22f := fun S => c22 f S hf.rng
  have c22g := fun S => c22 g S hg.rng
  have c22m := fun S => c22 (pmul p f g) S z4.rng
  have c12 : ∀ (i : Int) S, callK fs M (k + 5) 12 [.int i] S = some (.bl true, S) := fun i S => ev_law_is_whole (k := k + 4) H.h12 i
  have i50 : ∀ S, idxD S (hand f g h) (.int 0) = some (.lst (il f)) := fun S => idx_nat (j := 0) (seqR_lst _) rfl
  have i51 : ∀ S, idxD S (hand f g h) (.int 1) = some (.lst (il g)) := fun S => idx_nat (j := 1) (seqR_lst _) rfl
  have i60 : ∀ S, idxD S toldD (.int 0) = some (.box 2) := fun S => idx_nat (j := 0) (seqR_lst _) rfl
  have i70 : ∀ S, idxD S (dueD p f g) (.int 0) = some (.lst (il (padd p f g))) := fun S => idx_nat (j := 0) (seqR_lst _) rfl
  have i72 : ∀ S, idxD S (dueD p f g) (.int 2) = some (.lst (il (pmul p f g))) := fun S => idx_nat (j := 2) (seqR_lst _) rfl
  have i73 : ∀ S, idxD S (dueD p f g) (.int 3) = some (.lst (il (pgcd p f g))) := fun S => idx_nat (j := 3) (seqR_lst _) rfl
  have hb : ∃ ρ T, execs (callK fs M (k + 5)) M b23_law_right (en23 p f g h none none none none none none none) (fdS q []) = some (.ret (.bl true), ρ, fdS q' T) := by
    rw [b23_law_right]
    rw [xs_nx (ρ1 := en23 p f g h (some (hand f g h)) none none none none none none) (S1 := fdS q []) (by
      simp [en23, hand, bi_list _ _ (seqR_lst (S := fdS q []) (il f)), bi_list _ _ (seqR_lst (S := fdS q []) (il g)), bi_list _ _ (seqR_lst (S := fdS q []) (il h)), size_eq])]
    rw [xs_nx (ρ1 := en23 p f g h (some (hand f g h)) (some toldD) none none none none none) (S1 := fdS q (toldT p f g)) (by
      simp [en23, i50, i51, c2, c3, c4, c8, size_eq, toldT, toldD])]
    rw [xs_nx (ρ1 := en23 p f g h (some (hand f g h)) (some toldD) (some (dueD p f g)) none none none none) (S1 := fdS q (toldT p f g)) (by
      simp [en23, c16, c16', c17, c19, size_eq, dueD])]
    -- told is due, all are polynomials
    have t1 : eqD (fdS q (toldT p f g)) toldD (dueD p f g) = some true := eqD_same (by simp [dat, datA, getBox, fdS, toldT, toldD, dueD]) (by simp [dueD])
    have e5 : ∀ S, eqD S (hand f g h) (.lst [.lst (il f), .lst (il g), .lst (il h)]) = some true := fun S => by
      rw [hand, eqD_plain (by simp) (by simp)]
      simp
    have n1 : evalE (callK fs M (k + 5)) (.comp false e23_1 (.name 12) (.list (.var 6)) q23_2 [12]) (en23 p f g h (some (hand f g h)) (some toldD) (some (dueD p f g)) none none none none) (fdS q (toldT p f g)) = some (.lst [], fdS q (toldT p f g)) :=
      ev_comp_no (wk := ⟨[.box 2, .box 3, .box 4, .box 5], none⟩) (d := toldD) (by simp [en23]) rfl (by simp) fun x hx => by
        have hx : x = .box 2 ∨ x = .box 3 ∨ x = .box 4 ∨ x = .box 5 := by simpa using hx
        have b2 : callK fs M (k + 5) 21 [.int p, .box 2] (fdS q (toldT p f g)) = some (.bl true, fdS q (toldT p f g)) := ev_law_is_poly (k := k + 3) (w := some 2) H.h12 H.h21 (f := padd p f g) rfl rfl z2
        have b3 : callK fs M (k + 5) 21 [.int p, .box 3] (fdS q (toldT p f g)) = some (.bl true, fdS q (toldT p f g)) := ev_law_is_poly (k := k + 3) (w := some 3) H.h12 H.h21 (f := psub p f g) rfl rfl z3
        have b4 : callK fs M (k + 5) 21 [.int p, .box 4] (fdS q (toldT p f g)) = some (.bl true, fdS q (toldT p f g)) := ev_law_is_poly (k := k + 3) (w := some 4) H.h12 H.h21 (f := pmul p f g) rfl rfl z4
        have b5 : callK fs M (k + 5) 21 [.int p, .box 5] (fdS q (toldT p f g)) = some (.bl true, fdS q (toldT p f g)) := ev_law_is_poly (k := k + 3) (w := some 5) H.h12 H.h21 (f := pgcd p f g) rfl rfl z8
        rcases hx with rfl | rfl | rfl | rfl
        · simp [q23_2, en23, wipeE, b2]
        · simp [q23_2, en23, wipeE, b3]
        · simp [q23_2, en23, wipeE, b4]
        · simp [q23_2, en23, wipeE, b5]
    rw [xs_nx (if_no (S1 := fdS q (toldT p f g)) (by
      rw [et_bor, or_no (S1 := fdS q (toldT p f g)) (by simp [en23, t1]), or_no (S1 := fdS q (toldT p f g)) (by simp [en23, e5, size_eq]), orT_one, et_cmp, ev_bi, es_cons, n1]
      simp))]
    -- told[0] is spoilt
    rw [xs_nx (ρ1 := en23 p f g h (some (hand f g h)) (some toldD) (some (dueD p f g)) none none none none) (S1 := fdS q (toldU p f g)) (by
      have hl : (padd p f g).length < 16777216 := by have := z2.len; omega
      have := app_live (c := callK fs M (k + 5)) (S := fdS q (toldT p f g)) (S1 := fdS q (toldT p f g)) (S2 := fdS q (toldT p f g)) (a := .idx (.var 6) (.cI 0)) (e := .cI 1) (ρ := en23 p f g h (some (hand f g h)) (some toldD) (some (dueD p f g)) none none none none) (b := 2) (ds := il (padd p f g)) (y := .int 1) (by simp [en23, i60]) (by simp) rfl (by simpa using hl) rfl
      rw [x_expr, this]
      simp [fdS, toldT, toldU, il_append])]
    rw [xs_nx (if_no (S1 := fdS q (toldU p f g)) (by simp [en23, c2, i70]))]
    rw [xs_nx (ρ1 := en23 p f g h (some (hand f g h)) (some toldD) (some (dueD p f g)) (some (.int a)) none none none) (S1 := fdS q' (toldU p f g)) (by simp [en23, cdr])]
    generalize toldU p f g = T
    -- the values
    have hv : evalE (callK fs M (k + 5)) (.comp false e23_3 (.name 12) (.list (.bin false .add (.lst false (.cons (.var 2) (.cons (.var 3) .nil))) (.slice false (.var 7) .nop (.cI 2)))) .nop [12]) (en23 p f g h (some (hand f g h)) (some toldD) (some (dueD p f g)) (some (.int a)) none none none) (fdS q' T) = some (.lst (il [pe a f % p, pe a g % p, pe a (padd p f g) % p, pe a (psub p f g) % p]), fdS q' T) := by
      have hs : sliceD false (dueD p f g) none (some 2) (fdS q' T) = some (.lst [.lst (il (padd p f g)), .lst (il (psub p f g))], fdS q' T) := by
        rw [slice_hi (ds := [.lst (il (padd p f g)), .lst (il (psub p f g)), .lst (il (pmul p f g)), .lst (il (pgcd p f g))]) rfl (by decide)]
        rfl
      have hadd := bin_addl (o := false) (S := fdS q' T) [.lst (il f), .lst (il g)] [.lst (il (padd p f g)), .lst (il (psub p f g))] (by simp)
      exact ev_comp_ll [f, g, padd p f g, psub p f g] (fun x => pe a x % p) (by simp [en23, hs, hadd, size_eq]) (by simp) fun x _ => by
        simp [e23_3, en23, wipeE, c9]
    rw [xs_nx (ρ1 := en23 p f g h (some (hand f g h)) (some toldD) (some (dueD p f g)) (some (.int a)) (some (.lst (il (vals p a f g (padd p f g) (psub p f g) (pmul p f g))))) none none) (S1 := fdS q' T) (by
      have hadd := bin_addl (o := false) (S := fdS q' T) (il [pe a f % p, pe a g % p, pe a (padd p f g) % p, pe a (psub p f g) % p]) (il [pe a (pmul p f g) % p]) (by simp)
      rw [x_set, ev_bin, hv]
      simp at hadd
      simp [en23, i72, c22m, hadd, size_eq, vals])]
    have v0 : ∀ S, idxD S (.lst (il (vals p a f g (padd p f g) (psub p f g) (pmul p f g)))) (.int 0) = some (.int (pe a f % p)) := fun S => idx_nat (j := 0) (seqR_lst _) rfl
    have v1 : ∀ S, idxD S (.lst (il (vals p a f g (padd p f g) (psub p f g) (pmul p f g)))) (.int 1) = some (.int (pe a g % p)) := fun S => idx_nat (j := 1) (seqR_lst _) rfl
    have v2 : ∀ S, idxD S (.lst (il (vals p a f g (padd p f g) (psub p f g) (pmul p f g)))) (.int 2) = some (.int (pe a (padd p f g) % p)) := fun S => idx_nat (j := 2) (seqR_lst _) rfl
    have v3 : ∀ S, idxD S (.lst (il (vals p a f g (padd p f g) (psub p f g) (pmul p f g)))) (.int 3) = some (.int (pe a (psub p f g) % p)) := fun S => idx_nat (j := 3) (seqR_lst _) rfl
    have v4 : ∀ S, idxD S (.lst (il (vals p a f g (padd p f g) (psub p f g) (pmul p f g)))) (.int 4) = some (.int (pe a (pmul p f g) % p)) := fun S => idx_nat (j := 4) (seqR_lst _) rfl
    have bm := bi_len (o := false) _ _ (seqR_lst (S := fdS q' T) (il (pmul p f g)))
    rw [il_length] at bm
    rw [xs_nx (if_no (S1 := fdS q' T) (by
      by_cases h42 : (pmul p f g).length < 42
      · have h42' : ((pmul p f g).length : Int) < 42 := by omega
        simp [en23, i72, bm, h42', c9, v4]
      · have h42' : ¬ ((pmul p f g).length : Int) < 42 := by omega
        simp [en23, i72, bm, h42']))]
    have n2 : evalE (callK fs M (k + 5)) (.comp false e23_4 (.name 13) (.list (.var 9)) q23_5 [13]) (en23 p f g h (some (hand f g h)) (some toldD) (some (dueD p f g)) (some (.int a)) (some (.lst (il (vals p a f g (padd p f g) (psub p f g) (pmul p f g))))) none none) (fdS q' T) = some (.lst [], fdS q' T) :=
      ev_comp_no (wk := ⟨il (vals p a f g (padd p f g) (psub p f g) (pmul p f g)), none⟩) (d := .lst (il (vals p a f g (padd p f g) (psub p f g) (pmul p f g)))) (by simp [en23]) rfl (by simp [vals]) fun x hx => by
        obtain ⟨i, rfl⟩ := mem_il hx
        simp [q23_5, en23, wipeE, c12]
    have s9 : sliceD false (.lst (il (vals p a f g (padd p f g) (psub p f g) (pmul p f g)))) none (some 2) (fdS q' T) = some (.lst [.int (pe a f % p), .int (pe a g % p)], fdS q' T) := by
      rw [slice_hi (ds := il (vals p a f g (padd p f g) (psub p f g) (pmul p f g))) rfl (by decide)]
      rfl
    have e9 : ∀ S, eqD S (.lst [.int (pe a f % p), .int (pe a g % p)]) (.lst [.int (pe a f % p), .int (pe a g % p)]) = some true := fun S => by
      rw [eqD_plain (by simp) (by simp)]
      simp
    rw [xs_nx (if_no (S1 := fdS q' T) (by
      rw [et_bor, or_no (S1 := fdS q' T) (by simp [en23, s9, c22f, c22g, e9, size_eq]), orT_one, et_cmp, ev_bi, es_cons, n2]
      simp))]
    have m1 : (pe a (padd p f g) % p - pe a f % p - pe a g % p) % p = 0 := by
      have : eqm p (pe a (padd p f g) % p - pe a f % p - pe a g % p) 0 := by
        refine (((eqm.emod p _).sub (eqm.emod p _)).sub (eqm.emod p _)).trans ?_
        obtain ⟨t, e⟩ := pe_padd p a f g
        exact ⟨t, by grind⟩
      rw [eqm_iff.mp this, Int.zero_emod]
    have m2 : (pe a (psub p f g) % p - pe a f % p + pe a g % p) % p = 0 := by
      have : eqm p (pe a (psub p f g) % p - pe a f % p + pe a g % p) 0 := by
        refine (((eqm.emod p _).sub (eqm.emod p _)).add (eqm.emod p _)).trans ?_
        obtain ⟨t, e⟩ := pe_psub p a f g
        exact ⟨t, by grind⟩
      rw [eqm_iff.mp this, Int.zero_emod]
    have m3 : (pe a (pmul p f g) % p - pe a f % p * (pe a g % p)) % p = 0 := by
      have : eqm p (pe a (pmul p f g) % p - pe a f % p * (pe a g % p)) 0 := by
        refine ((eqm.emod p _).sub ((eqm.emod p _).mul (eqm.emod p _))).trans ?_
        obtain ⟨t, e⟩ := pe_pmul p a f g
        exact ⟨t, by grind⟩
      rw [eqm_iff.mp this, Int.zero_emod]
    have sf : -18446744073709551616 < pe a f % p ∧ pe a f % p < 18446744073709551616 := by
      have := Int.emod_nonneg (pe a f) (show p ≠ 0 by omega)
      have := Int.emod_lt_of_pos (pe a f) hp
      omega
    have e3 : ∀ S, eqD S (.lst [.int 0, .int 0, .int 0]) (.lst [.int 0, .int 0, .int 0]) = some true := fun S => by
      rw [eqD_plain rfl rfl]
      simp
    rw [xs_nx (if_no (S1 := fdS q' T) (by
      have b1 : ∀ (x : Int) S, binD false .mod (.int x) (.int p) S = some (.int (x % p), S) := fun x S => bin_mod hp
      have b2 : ∀ S, binD false .mul (.int (pe a f % p)) (.int (pe a g % p)) S = some (.int (pe a f % p * (pe a g % p)), S) := fun S => bin_mulL sf
      simp only [et_cmp, ev_lst, es_cons, es_nil, ev_bin, ev_bi, ev_idx, ev_var, ev_cI, en23, List.getElem?_cons_succ, List.getElem?_cons_zero, v0, v1, v2, v3, v4, bin_sub, bin_add, bi_int, b1, b2, Option.map, m1, m2, m3]
      simp [e3, size_eq]))]
    -- division
    have e0 : eqD (fdS q' T) (.lst (il g)) (.lst []) = some (decide (g = [])) := by
      have := eqD_il (S := fdS q' T) g []
      simpa using this
    have hdv : ∃ x10, exec (callK fs M (k + 5)) M (.ifS (.cmp .ne (.var 3) (.lst false .nil))
  (.cons (.set 10 (.call 6 false (.cons (.var 1) (.cons (.idx (.var 5) (.cI 0)) (.cons (.idx (.var 5) (.cI 1)) .nil)))))
  (.cons (.ifS (.bor (.cons (.bnot (.isi .isTup (.var 10))) (.cons (.cmp .ne (.var 10) (.call 18 false (.cons (.var 1) (.cons (.var 2) (.cons (.var 3) .nil))))) (.cons (.cmp .ge (.bi .len false (.cons (.idx (.var 10) (.cI 1)) .nil)) (.bi .len false (.cons (.var 3) .nil))) (.cons (.cmp .ne (.var 5) (.lst false (.cons (.var 2) (.cons (.var 3) (.cons (.var 4) .nil))))) .nil)))))
   (.cons (.ret (.cB false))
   .nil)
   .nil)
  (.cons (.ifS (.cmp .ne (.call 16 false (.cons (.var 1) (.cons (.call 17 false (.cons (.var 1) (.cons (.idx (.var 10) (.cI 0)) (.cons (.var 3) .nil)))) (.cons (.idx (.var 10) (.cI 1)) (.cons (.cI 1) .nil))))) (.var 2))
   (.cons (.ret (.cB false))
   .nil)
   .nil)
  (.cons (.ifS (.bor (.cons (.cmp .ne (.call 6 false (.cons (.var 1) (.cons (.idx (.var 7) (.cI 3)) (.cons (.lst false (.cons (.cI 1) .nil)) .nil)))) (.tup (.cons (.idx (.var 7) (.cI 3)) (.cons (.lst false .nil) .nil)))) (.cons (.cmp .ne (.idx (.call 6 false (.cons (.var 1) (.cons (.var 3) (.cons (.idx (.var 7) (.cI 3)) .nil)))) (.cI 1)) (.lst false .nil)) .nil)))
   (.cons (.ret (.cB false))
   .nil)
   .nil)
  .nil))))
  .nil) (en23 p f g h (some (hand f g h)) (some toldD) (some (dueD p f g)) (some (.int a)) (some (.lst (il (vals p a f g (padd p f g) (psub p f g) (pmul p f g))))) none none) (fdS q' T) = some (.nx, en23 p f g h (some (hand f g h)) (some toldD) (some (dueD p f g)) (some (.int a)) (some (.lst (il (vals p a f g (padd p f g) (psub p f g) (pmul p f g))))) x10 none, fdS q' T) := by
      by_cases hn : g = []
      · refine ⟨none, if_no ?_⟩
        have e00 : eqD (fdS q' T) (.lst (il g)) (.lst []) = some true := by rw [e0, decide_eq_true hn]
        simp [en23, e00, size_eq]
      · refine ⟨some (.tup [.lst (il (dq p f g)), .lst (il (dr p f g))]), ?_⟩
        rw [x_ifS]
        have ht : evalT (callK fs M (k + 5)) (.cmp .ne (.var 3) (.lst false .nil)) (en23 p f g h (some (hand f g h)) (some toldD) (some (dueD p f g)) (some (.int a)) (some (.lst (il (vals p a f g (padd p f g) (psub p f g) (pmul p f g))))) none none) (fdS q' T) = some (true, fdS q' T) := by
          simp [en23, e0, hn, size_eq]
        rw [ht]
        dsimp only
        exact right_div H F hp2 hM hf hg l1 l2 _ _ _ hn
    obtain ⟨x10, hdv⟩ := hdv
    rw [xs_nx hdv]
    rw [xs_nx (if_no (S1 := fdS q' T) (by simp [en23, c8', i73]))]
    have bf := bi_len (o := false) _ _ (seqR_lst (S := fdS q' T) (il f))
    have bg := bi_len (o := false) _ _ (seqR_lst (S := fdS q' T) (il g))
    have bh := bi_len (o := false) _ _ (seqR_lst (S := fdS q' T) (il h))
    rw [il_length] at bf bg bh
    by_cases h42 : 42 < max (f.length : Int) (g.length : Int) + (h.length : Int)
    · refine ⟨en23 p f g h (some (hand f g h)) (some toldD) (some (dueD p f g)) (some (.int a)) (some (.lst (il (vals p a f g (padd p f g) (psub p f g) (pmul p f g))))) x10 none, T, xs_ret ?_⟩
      rw [x_ifS]
      have ht : evalT (callK fs M (k + 5)) (.cmp .gt (.bin false .add (.bi .max2 false (.cons (.bi .len false (.cons (.var 2) .nil)) (.cons (.bi .len false (.cons (.var 3) .nil)) .nil))) (.bi .len false (.cons (.var 4) .nil))) (.cI 42)) (en23 p f g h (some (hand f g h)) (some toldD) (some (dueD p f g)) (some (.int a)) (some (.lst (il (vals p a f g (padd p f g) (psub p f g) (pmul p f g))))) x10 none) (fdS q' T) = some (true, fdS q' T) := by
        simp only [et_cmp, ev_bin, ev_bi, es_cons, es_nil, ev_var, ev_cI, en23, List.getElem?_cons_succ, List.getElem?_cons_zero, bf, bg, bh, bi_max2, bin_add, cmp_gt, h42, decide_true, Option.map]
      rw [ht]
      dsimp only
      exact xs_ret (by simp)
    · rw [xs_nx (if_no (S1 := fdS q' T) (by
        simp only [et_cmp, ev_bin, ev_bi, es_cons, es_nil, ev_var, ev_cI, en23, List.getElem?_cons_succ, List.getElem?_cons_zero, bf, bg, bh, bi_max2, bin_add, cmp_gt, h42, decide_false, Option.map]))]
      have lpa : (padd p f g).length ≤ max f.length g.length := pol_len
      have k4 : ∀ S, callK fs M (k + 5) 4 [.int p, .lst (il h), .lst (il (padd p f g))] S = some (.fre (il (pmul p h (padd p f g))), S) := fun S => ev_poly_product (k := k + 3) H.h0 H.h4 hp (by omega) hh.rng hh.len z2.len hM
      have k4f : ∀ S, callK fs M (k + 5) 4 [.int p, .lst (il h), .lst (il f)] S = some (.fre (il (pmul p h f)), S) := fun S => ev_poly_product (k := k + 3) H.h0 H.h4 hp (by omega) hh.rng hh.len hf.len hM
      have k4g : ∀ S, callK fs M (k + 5) 4 [.int p, .lst (il h), .lst (il g)] S = some (.fre (il (pmul p h g)), S) := fun S => ev_poly_product (k := k + 3) H.h0 H.h4 hp (by omega) hh.rng hh.len hg.len hM
      have k2 : ∀ S, callK fs M (k + 5) 2 [.int p, .lst (il (pmul p h f)), .lst (il (pmul p h g))] S = some (.fre (il (padd p (pmul p h f) (pmul p h g))), S) := fun S => ev_poly_sum (k := k + 3) H.h0 H.h1 H.h2 hp (pmul_pz hp (by omega)).len (pmul_pz hp (by omega)).len (by omega)
      refine ⟨en23 p f g h (some (hand f g h)) (some toldD) (some (dueD p f g)) (some (.int a)) (some (.lst (il (vals p a f g (padd p f g) (psub p f g) (pmul p f g))))) x10 (some (.lst (il (pmul p h (padd p f g))))), T, ?_⟩
      rw [xs_nx (ρ1 := en23 p f g h (some (hand f g h)) (some toldD) (some (dueD p f g)) (some (.int a)) (some (.lst (il (vals p a f g (padd p f g) (psub p f g) (pmul p f g))))) x10 (some (.lst (il (pmul p h (padd p f g)))))) (S1 := fdS q' T) (by simp [en23, i70, k4])]
      refine xs_ret ?_
      simp [en23, k4f, k4g, k2, pmul_padd hp]
  obtain ⟨ρ, T, hx⟩ := hb
  refine ⟨q', dok, ?_⟩
  refine runF_ret (fd := f23) rfl hx ?_
  rw [exit_bl]
  rfl
end
end Sw

set_option Elab.async false
set_option linter.all false
set_option maxRecDepth 100000
set_option maxHeartbeats 4000000
namespace Sw
open PySem PySem.Spec PyProof.Rows L2
section
variable {fs : Nat → Option FD} {M k : Nat} {p : Int} {q : Fd}
/-- one turn of the law -/
theorem law_turn (H : Fs37 fs) (h23 : fs 23 = some f23) (hM : 1000000 < M) (ns : List Int) (i : Nat) (hi : i < 6) (x2 x3 x4 x5 x6 x7 : Option D) (ok : q.Ok) :
    ∃ q' y2 y3 y4 y5 y6 y7, q'.Ok ∧ stepF (callK fs M (k + 6)) M (.name 2) w24_1 (.int (i : Nat)) [some (.scr ns), some (.box 1), x2, x3, x4, x5, x6, x7] (fdS q []) = some (.nx, [some (.scr ns), some (.box 1), y2, y3, y4, y5, y6, y7], fdS q' []) := by
  obtain ⟨p, q1, F, hp7, ok1, e1⟩ := ev_law_field (M := M) (k := k + 4) (T := []) H.h11 H.h13 ok
  have hp := F.p0
  obtain ⟨ok2, d0, d1⟩ := drw_ok (show (0 : Int) < 2 by decide) ok1
  have e2 := ev_draw (M := M) (k := k + 5) (T := []) H.h11 ok1 (show (0 : Int) < 2 by decide) (by decide)
  obtain ⟨m, hm, em⟩ : ∃ m : Nat, (m = 3 ∨ m = 8) ∧ idxD (fdS (drw q1 2).2 []) (.lst [.int 3, .int 8]) (.int (drw q1 2).1) = some (.int (m : Nat)) := by
    have hv : (drw q1 2).1 = 0 ∨ (drw q1 2).1 = 1 := by omega
    rcases hv with e | e
    · exact ⟨3, .inl rfl, by rw [e]; rfl⟩
    · exact ⟨8, .inr rfl, by rw [e]; rfl⟩
  generalize (drw q1 2).2 = q2 at *
  generalize (drw q1 2).1 = v2 at *
  -- most
  obtain ⟨m3, q3, hm3, ok3, e3⟩ : ∃ (m3 : Nat) (q3 : Fd), m3 ≤ 41 ∧ q3.Ok ∧ exec (callK fs M (k + 6)) M (.ifS (.band (.cons (.cmp .eq (.var 2) (.cI 5)) (.cons (.cmp .eq (.call 11 false (.cons (.var 1) (.cons (.cI 8) .nil))) (.cI 0)) .nil)))
   (.cons (.set 4 (.cI 41))
   .nil)
   .nil) [some (.scr ns), some (.box 1), some (.int (i : Nat)), some (.int p), some (.int (m : Nat)), x5, x6, x7] (fdS q2 []) = some (.nx, [some (.scr ns), some (.box 1), some (.int (i : Nat)), some (.int p), some (.int (m3 : Nat)), x5, x6, x7], fdS q3 []) := by
    by_cases h5 : i = 5
    · obtain ⟨ok3, _, _⟩ := drw_ok (show (0 : Int) < 8 by decide) ok2
      have e3 := ev_draw (M := M) (k := k + 5) (T := []) H.h11 ok2 (show (0 : Int) < 8 by decide) (by decide)
      by_cases hz : (drw q2 8).1 = 0
      · refine ⟨41, _, Nat.le_refl _, ok3, ?_⟩
        rw [x_ifS]
        have ht : evalT (callK fs M (k + 6)) (.band (.cons (.cmp .eq (.var 2) (.cI 5)) (.cons (.cmp .eq (.call 11 false (.cons (.var 1) (.cons (.cI 8) .nil))) (.cI 0)) .nil))) [some (.scr ns), some (.box 1), some (.int (i : Nat)), some (.int p), some (.int (m : Nat)), x5, x6, x7] (fdS q2 []) = some (true, fdS (drw q2 8).2 []) := by
          simp [h5, e3, hz]
        rw [ht]
        dsimp only
        rw [xs_nx (ρ1 := [some (.scr ns), some (.box 1), some (.int (i : Nat)), some (.int p), some (.int (41 : Nat)), x5, x6, x7]) (S1 := fdS (drw q2 8).2 []) (by simp), xs_nil]
      · exact ⟨m, _, by omega, ok3, if_no (by simp [h5, e3, hz])⟩
    · have h5' : ¬ (i : Int) = 5 := by omega
      exact ⟨m, q2, by omega, ok2, if_no (by simp [h5'])⟩
  obtain ⟨f, q4, ok4, zf, lf, e4⟩ := ev_law_poly (M := M) (k := k + 4) (T := []) H.h11 H.h14 H.h20 hp (by omega) (most := m3) (by omega) ok3
  obtain ⟨g, q5, ok5, zg, lg, e5⟩ := ev_law_poly (M := M) (k := k + 4) (T := []) H.h11 H.h14 H.h20 hp (by omega) (most := m3) (by omega) ok4
  obtain ⟨h, q6, ok6, zh, lh, e6⟩ := ev_law_poly (M := M) (k := k + 4) (T := []) H.h11 H.h14 H.h20 hp (by omega) (most := 4) (by omega) ok5
  obtain ⟨f', g', q7, ok7, zf', zg', lf', lg', e7⟩ : ∃ f' g' q7, Fd.Ok q7 ∧ Pz p f' ∧ Pz p g' ∧ f'.length ≤ 100 ∧ g'.length ≤ 100 ∧ exec (callK fs M (k + 6)) M (.ifS (.band (.cons (.cmp .lt (.var 4) (.cI 41)) (.cons (.cmp .eq (.call 11 false (.cons (.var 1) (.cons (.cI 2) .nil))) (.cI 0)) .nil)))
   (.cons (.set 5 (.call 17 false (.cons (.var 3) (.cons (.var 5) (.cons (.var 7) .nil)))))
   (.cons (.set 6 (.call 17 false (.cons (.var 3) (.cons (.var 6) (.cons (.var 7) .nil)))))
   .nil))
   .nil) [some (.scr ns), some (.box 1), some (.int (i : Nat)), some (.int p), some (.int (m3 : Nat)), some (.lst (il f)), some (.lst (il g)), some (.lst (il h))] (fdS q6 []) = some (.nx, [some (.scr ns), some (.box 1), some (.int (i : Nat)), some (.int p), some (.int (m3 : Nat)), some (.lst (il f')), some (.lst (il g')), some (.lst (il h))], fdS q7 []) := by
    by_cases h41 : m3 < 41
    · have h41' : (m3 : Int) < 41 := by omega
      obtain ⟨ok7, _, _⟩ := drw_ok (show (0 : Int) < 2 by decide) ok6
      have e7 := ev_draw (M := M) (k := k + 5) (T := []) H.h11 ok6 (show (0 : Int) < 2 by decide) (by decide)
      by_cases hz : (drw q6 2).1 = 0
      · have b1 : ∀ S, callK fs M (k + 6) 17 [.int p, .lst (il f), .lst (il h)] S = some (.fre (il (pmul p f h)), S) := fun S => ev_law_by (k := k + 4) H.h14 H.h17 hp (by omega) zf.rng zf.len zh.len
        have b2 : ∀ S, callK fs M (k + 6) 17 [.int p, .lst (il g), .lst (il h)] S = some (.fre (il (pmul p g h)), S) := fun S => ev_law_by (k := k + 4) H.h14 H.h17 hp (by omega) zg.rng zg.len zh.len
        have l1 : (pmul p f h).length ≤ f.length + h.length := pol_len
        have l2 : (pmul p g h).length ≤ g.length + h.length := pol_len
        refine ⟨pmul p f h, pmul p g h, _, ok7, pmul_pz hp (by omega), pmul_pz hp (by omega), by omega, by omega, ?_⟩
        rw [x_ifS]
        have ht : evalT (callK fs M (k + 6)) (.band (.cons (.cmp .lt (.var 4) (.cI 41)) (.cons (.cmp .eq (.call 11 false (.cons (.var 1) (.cons (.cI 2) .nil))) (.cI 0)) .nil))) [some (.scr ns), some (.box 1), some (.int (i : Nat)), some (.int p), some (.int (m3 : Nat)), some (.lst (il f)), some (.lst (il g)), some (.lst (il h))] (fdS q6 []) = some (true, fdS (drw q6 2).2 []) := by
          simp [h41', e7, hz]
        rw [ht]
        dsimp only
        rw [xs_nx (ρ1 := [some (.scr ns), some (.box 1), some (.int (i : Nat)), some (.int p), some (.int (m3 : Nat)), some (.lst (il (pmul p f h))), some (.lst (il g)), some (.lst (il h))]) (S1 := fdS (drw q6 2).2 []) (by simp [b1])]
        rw [xs_nx (ρ1 := [some (.scr ns), some (.box 1), some (.int (i : Nat)), some (.int p), some (.int (m3 : Nat)), some (.lst (il (pmul p f h))), some (.lst (il (pmul p g h))), some (.lst (il h))]) (S1 := fdS (drw q6 2).2 []) (by simp [b2]), xs_nil]
      · exact ⟨f, g, _, ok7, zf, zg, by omega, by omega, if_no (by simp [h41', e7, hz])⟩
    · have h41' : ¬ (m3 : Int) < 41 := by omega
      exact ⟨f, g, q6, ok6, zf, zg, by omega, by omega, if_no (by simp [h41'])⟩
  obtain ⟨q8, ok8, e8⟩ := ev_law_right (M := M) (k := k) H h23 F hp7 hM zf' zg' zh lf' lg' (by omega) ok7
  refine ⟨q8, some (.int (i : Nat)), some (.int p), some (.int (m3 : Nat)), some (.lst (il f')), some (.lst (il g')), some (.lst (il h)), ok8, ?_⟩
  simp only [stepF, asg, List.set_cons_succ, List.set_cons_zero]
  rw [w24_1]
  rw [xs_nx (ρ1 := [some (.scr ns), some (.box 1), some (.int (i : Nat)), some (.int p), x4, x5, x6, x7]) (S1 := fdS q1 []) (by simp [e1])]
  rw [xs_nx (ρ1 := [some (.scr ns), some (.box 1), some (.int (i : Nat)), some (.int p), some (.int (m : Nat)), x5, x6, x7]) (S1 := fdS q2 []) (by simp [e2, em, size_eq])]
  rw [xs_nx e3]
  rw [xs_nx (ρ1 := [some (.scr ns), some (.box 1), some (.int (i : Nat)), some (.int p), some (.int (m3 : Nat)), some (.lst (il f)), x6, x7]) (S1 := fdS q4 []) (by simp [e4])]
  rw [xs_nx (ρ1 := [some (.scr ns), some (.box 1), some (.int (i : Nat)), some (.int p), some (.int (m3 : Nat)), some (.lst (il f)), some (.lst (il g)), x7]) (S1 := fdS q5 []) (by simp [e5])]
  have e6' : callK fs M (k + 6) 20 [.box 1, .int p, .int 4] (fdS q5 []) = some (.fre (il h), fdS q6 []) := e6
  rw [xs_nx (ρ1 := [some (.scr ns), some (.box 1), some (.int (i : Nat)), some (.int p), some (.int (m3 : Nat)), some (.lst (il f)), some (.lst (il g)), some (.lst (il h))]) (S1 := fdS q6 []) (by simp [e6'])]
  rw [xs_nx e7]
  rw [xs_nx (if_no (S1 := fdS q8 []) (by simp [e8])), xs_nil]
/-! ### the told examples -/
theorem po_by {p : Int} {f : List Int} (h1 : f.getLast? ≠ some 0) (h2 : f.all (fun x => decide (0 ≤ x ∧ x < p)) = true) : Po p f :=
  ⟨fun x hx z => h1 (by rw [hx, z]), fun x hx => of_decide_eq_true (List.all_eq_true.mp h2 x hx)⟩
theorem ov_is (F : Fld p) {b c : Int} (h0 : 0 ≤ c) (h1 : c < p) (h : (b * c) % p = 1 % p) : ov p 1 b = c := by
  have hb : ¬ eqm p b 0 := fun e => F.one (by
    have := e.mul (eqm.refl p c)
    rw [Int.zero_mul] at this
    exact (eqm_iff.mpr h).symm.trans this)
  exact (ov_unique F hb h0 h1 (eqm_iff.mpr h)).symm
theorem ex1 : dq 5 [1, 0, 1] [2, 1] = [3, 1] ∧ dr 5 [1, 0, 1] [2, 1] = [] := by
  have h : IsDiv 5 [1, 0, 1] [2, 1] [3, 1] [] := ⟨po_by (by decide) (by decide), po_nil, by decide, fun k => by
    rw [cf_nil, Int.add_zero]
    match k with
    | 0 => exact eqm_iff.mpr (by decide)
    | 1 => exact eqm_iff.mpr (by decide)
    | 2 => exact eqm_iff.mpr (by decide)
    | k + 3 =>
      rw [cf_conv_out (by simp), cf_out (by simp)]
      exact .refl _ _⟩
  have := div_eq fld5 (po_by (by decide) (by decide)) h
  exact ⟨this.1.symm, this.2.symm⟩
theorem ex2 : pgcd 2 [1, 0, 1] [1, 1] = [1, 1] := by
  have h : IsDiv 2 [1, 0, 1] [1, 1] [1, 1] [] := ⟨po_by (by decide) (by decide), po_nil, by decide, fun k => by
    rw [cf_nil, Int.add_zero]
    match k with
    | 0 => exact eqm_iff.mpr (by decide)
    | 1 => exact eqm_iff.mpr (by decide)
    | 2 => exact eqm_iff.mpr (by decide)
    | k + 3 =>
      rw [cf_conv_out (by simp), cf_out (by simp)]
      exact .refl _ _⟩
  have hd := (div_eq fld2 (po_by (by decide) (by decide)) h).2.symm
  have hg : gcdL 2 ([1, 1] : List Int).length [1, 0, 1] [1, 1] = [1, 1] := by
    show (if ([1, 1] : List Int) = [] then _ else gcdL 2 1 [1, 1] (dr 2 [1, 0, 1] [1, 1])) = _
    rw [if_neg (by decide), hd, gcdL_nil]
  unfold pgcd mon
  rw [hg, if_neg (by decide), show cf [1, 1] (([1, 1] : List Int).length - 1) = 1 from rfl, ov_is fld2 (c := 1) (by decide) (by decide) (by decide)]
  decide
theorem ex3 : pgcd 3 [] [] = [] := by
  unfold pgcd mon
  rw [gcdL_nil, if_pos rfl]
theorem ex4 : pgcd 7 [] [2, 3] = [3, 1] := by
  have hd : dr 7 [] [2, 3] = [] := (div_eq fld7 (po_by (by decide) (by decide)) (div_short fld7 po_nil (by decide))).2.symm
  have hg : gcdL 7 ([2, 3] : List Int).length [] [2, 3] = [2, 3] := by
    show (if ([2, 3] : List Int) = [] then _ else gcdL 7 1 [2, 3] (dr 7 [] [2, 3])) = _
    rw [if_neg (by decide), hd, gcdL_nil]
  unfold pgcd mon
  rw [hg, if_neg (by decide), show cf [2, 3] (([2, 3] : List Int).length - 1) = 3 from rfl, ov_is fld7 (c := 5) (by decide) (by decide) (by decide)]
  decide
theorem ex5 : psub 3 [] [1, 2] = [2, 1] := by decide
theorem ev_law (H : Fs37 fs) (h23 : fs 23 = some f23) (h24 : fs 24 = some f24) (hM : 1000000 < M) (ns : List Int) : callK fs M (k + 7) 24 [.scr ns] [] = some (.bl true, []) := by
  rw [callK_f h24]
  have e10 := ev_law_feed (M := M) (k := k + 5) H.h10 ns
  have ok0 : Fd.Ok ⟨ns, 0, 0, 1⟩ := ⟨Int.le_refl 0, Int.le_refl 0, by show (0 : Int) ≤ 1; decide, by show (1 : Int) < 2147483647; decide⟩
  obtain ⟨ρ1, S1, e, ⟨q, y2, y3, y4, y5, y6, y7, ok, rfl, rfl⟩⟩ := forL_rng (wk := ⟨rngI 0 6, none⟩) (b := stepF (callK fs M (k + 6)) M (.name 2) w24_1)
    (fun _ ρ T => ∃ q y2 y3 y4 y5 y6 y7, Fd.Ok q ∧ ρ = [some (.scr ns), some (.box 1), y2, y3, y4, y5, y6, y7] ∧ T = fdS q []) 6 (fun i ρ T hi ⟨q, y2, y3, y4, y5, y6, y7, ok, hρ, hT⟩ => by
      subst hρ
      subst hT
      obtain ⟨q', z2, z3, z4, z5, z6, z7, ok', e⟩ := law_turn (k := k) H h23 hM ns i hi y2 y3 y4 y5 y6 y7 ok
      exact ⟨_, _, e, rfl, q', z2, z3, z4, z5, z6, z7, ok', rfl, rfl⟩)
    [some (.scr ns), some (.box 1), none, none, none, none, none, none] (fdS ⟨ns, 0, 0, 1⟩ []) ⟨_, none, none, none, none, none, none, ok0, rfl, rfl⟩
  have p1 : Po 5 [1, 0, 1] := po_by (by decide) (by decide)
  have p2 : Po 5 [2, 1] := po_by (by decide) (by decide)
  have c1 : ∀ S, callK fs M (k + 6) 6 [.int 5, .lst [.int 1, .int 0, .int 1], .lst [.int 2, .int 1]] S = some (.tup [.fre [.int 3, .int 1], .fre []], S) := fun S => by
    have := ev_poly_parts (M := M) (k := k + 4) (S := S) H.h0 H.h5 H.h6 fld5 (by decide) p1 p2 (by decide) (by decide) (by decide) hM
    rw [ex1.1, ex1.2] at this
    exact this
  have c2 : ∀ S, callK fs M (k + 6) 8 [.int 2, .lst [.int 1, .int 0, .int 1], .lst [.int 1, .int 1]] S = some (.fre [.int 1, .int 1], S) := fun S => by
    have := ev_poly_common (M := M) (k := k + 3) (S := S) H.h0 H.h5 H.h6 H.h7 H.h8 fld2 (by decide) hM (f := [1, 0, 1]) (g := [1, 1]) ⟨po_by (by decide) (by decide), by decide⟩ ⟨po_by (by decide) (by decide), by decide⟩
    rw [ex2] at this
    exact this
  have c3 : ∀ S, callK fs M (k + 6) 8 [.int 3, .lst [], .lst []] S = some (.fre [], S) := fun S => by
    have := ev_poly_common (M := M) (k := k + 3) (S := S) H.h0 H.h5 H.h6 H.h7 H.h8 fld3 (by decide) hM (f := []) (g := []) ⟨po_nil, by decide⟩ ⟨po_nil, by decide⟩
    rw [ex3] at this
    exact this
  have c4 : ∀ S, callK fs M (k + 6) 8 [.int 7, .lst [], .lst [.int 2, .int 3]] S = some (.fre [.int 3, .int 1], S) := fun S => by
    have := ev_poly_common (M := M) (k := k + 3) (S := S) H.h0 H.h5 H.h6 H.h7 H.h8 fld7 (by decide) hM (f := []) (g := [2, 3]) ⟨po_nil, by decide⟩ ⟨po_by (by decide) (by decide), by decide⟩
    rw [ex4] at this
    exact this
  have c5 : ∀ S, callK fs M (k + 6) 3 [.int 3, .lst [], .lst [.int 1, .int 2]] S = some (.fre [.int 2, .int 1], S) := fun S => by
    have := ev_poly_less (M := M) (k := k + 4) (S := S) H.h0 H.h1 H.h3 (p := 3) (by decide) (f := []) (g := [1, 2]) (by decide) (by decide) (by omega)
    rw [ex5] at this
    exact this
  have c6 : ∀ S, callK fs M (k + 6) 9 [.int 7, .lst [], .int 3] S = some (.int 0, S) := fun S => ev_poly_at (M := M) (k := k + 5) (S := S) H.h9 (p := 7) (by decide) (a := 3) (by decide) (f := [])
  have u1 : unfre (.fre [.int 3, .int 1]) = .lst [.int 3, .int 1] := unfre_il [3, 1]
  have u2 : unfre (.fre [.int 1, .int 1]) = .lst [.int 1, .int 1] := unfre_il [1, 1]
  have u3 : unfre (.fre [.int 2, .int 1]) = .lst [.int 2, .int 1] := unfre_il [2, 1]
  have q1 : ∀ S, eqD S (.tup [.lst [.int 3, .int 1], .lst []]) (.tup [.lst [.int 3, .int 1], .lst []]) = some true := fun S => by
    rw [eqD_plain rfl rfl]
    simp
  have q2 : ∀ S, eqD S (.lst [.int 1, .int 1]) (.lst [.int 1, .int 1]) = some true := fun S => by
    rw [eqD_plain rfl rfl]
    simp
  have q3 : ∀ S, eqD S (.lst []) (.lst []) = some true := fun S => by
    rw [eqD_plain rfl rfl]
    simp
  have q4 : ∀ S, eqD S (.lst [.int 2, .int 1]) (.lst [.int 2, .int 1]) = some true := fun S => by
    rw [eqD_plain rfl rfl]
    simp
  have q5 : ∀ S, eqD S (.lst [.int 3, .int 1]) (.lst [.int 3, .int 1]) = some true := fun S => by
    rw [eqD_plain rfl rfl]
    simp
  have hx : execs (callK fs M (k + 6)) M b24_law [some (.scr ns), none, none, none, none, none, none, none] [] = some (.ret (.bl true), [some (.scr ns), some (.box 1), y2, y3, y4, y5, y6, y7], fdS q []) := by
    rw [b24_law]
    rw [xs_nx (ρ1 := [some (.scr ns), some (.box 1), none, none, none, none, none, none]) (S1 := fdS ⟨ns, 0, 0, 1⟩ []) (by simp [e10, thaw_feed])]
    rw [xs_nx (by
      rw [x_forS, ei_rng1 (S1 := fdS ⟨ns, 0, 0, 1⟩ []) 6 (by simp) (by omega)]
      exact e)]
    rw [xs_nx (if_no (S1 := fdS q []) (by simp [c1, c2, c3, u1, u2, u3, q1, q2, q3, size_eq]))]
    exact xs_ret (by simp [c4, c5, c6, u1, u2, u3, q4, q5, size_eq])
  refine runF_ret (fd := f24) rfl hx ?_
  rw [exit_bl]
  rfl
end
end Sw

set_option Elab.async false
set_option linter.all false
set_option maxRecDepth 100000
set_option maxHeartbeats 4000000
namespace K37
open PySem PySem.Spec PyProof.Rows L2
open Sw
def top (i : Nat) : Stmt := PySem.Challenge.pw_sumwires_k37_whole_polynomials.main.body.getD i (.Pass ⟨0, 0, 0, 0⟩)
def xs : List (Nat × Str) := [(0, "trimmed"), (1, "coefficient"), (2, "poly_sum"), (3, "poly_less"), (4, "poly_product"), (5, "number_over"), (6, "poly_parts"), (7, "poly_by"), (8, "poly_common"), (9, "poly_at"), (10, "_law_feed"), (11, "_law_draw"), (12, "_law_is_whole"), (13, "_law_field"), (14, "_law_trim"), (15, "_law_inverse"), (16, "_law_plus"), (17, "_law_by"), (18, "_law_parted"), (19, "_law_common"), (20, "_law_poly"), (21, "_law_is_poly"), (22, "_law_value"), (23, "_law_right"), (24, "law")]
def gs : List (Str × D) := []
def d0 : Def := ⟨"trimmed", "trimmed", top 1, ["numbers", "last"], ["numbers"], f0⟩
theorem c0 : okDef xs gs d0 = true := by decide +kernel
def d1 : Def := ⟨"coefficient", "coefficient", top 2, ["f", "k"], ["f", "k"], f1⟩
theorem c1 : okDef xs gs d1 = true := by decide +kernel
def d2 : Def := ⟨"poly_sum", "poly_sum", top 3, ["p", "f", "g", "k"], ["p", "f", "g"], f2⟩
theorem c2 : okDef xs gs d2 = true := by decide +kernel
def d3 : Def := ⟨"poly_less", "poly_less", top 4, ["p", "f", "g", "k"], ["p", "f", "g"], f3⟩
theorem c3 : okDef xs gs d3 = true := by decide +kernel
def d4 : Def := ⟨"poly_product", "poly_product", top 5, ["p", "f", "g", "found", "k", "one", "j", "other"], ["p", "f", "g"], f4⟩
theorem c4 : okDef xs gs d4 = true := by decide +kernel
def d5 : Def := ⟨"number_over", "number_over", top 6, ["p", "a", "b", "c"], ["p", "a", "b"], f5⟩
theorem c5 : okDef xs gs d5 = true := by decide +kernel
def d6 : Def := ⟨"poly_parts", "poly_parts", top 7, ["p", "f", "g", "left", "found", "place", "factor", "k", "own"], ["p", "f", "g"], f6⟩
theorem c6 : okDef xs gs d6 = true := by decide +kernel
def d7 : Def := ⟨"poly_by", "poly_by", top 8, ["p", "f", "a", "own"], ["p", "f", "a"], f7⟩
theorem c7 : okDef xs gs d7 = true := by decide +kernel
def d8 : Def := ⟨"poly_common", "poly_common", top 9, ["p", "f", "g"], ["p", "f", "g"], f8⟩
theorem c8 : okDef xs gs d8 = true := by decide +kernel
def d9 : Def := ⟨"poly_at", "poly_at", top 10, ["p", "f", "a", "value", "own"], ["p", "f", "a"], f9⟩
theorem c9 : okDef xs gs d9 = true := by decide +kernel
def d10 : Def := ⟨"_law_feed", "_law_feed", top 12, ["script"], ["script"], f10⟩
theorem c10 : okDef xs gs d10 = true := by decide +kernel
def d11 : Def := ⟨"_law_draw", "_law_draw", top 13, ["feed", "many", "cell", "told", "mixed"], ["feed", "many"], f11⟩
theorem c11 : okDef xs gs d11 = true := by decide +kernel
def d12 : Def := ⟨"_law_is_whole", "_law_is_whole", top 14, ["x"], ["x"], f12⟩
theorem c12 : okDef xs gs d12 = true := by decide +kernel
def d13 : Def := ⟨"_law_field", "_law_field", top 15, ["feed"], ["feed"], f13⟩
theorem c13 : okDef xs gs d13 = true := by decide +kernel
def d14 : Def := ⟨"_law_trim", "_law_trim", top 16, ["f", "last", "k"], ["f"], f14⟩
theorem c14 : okDef xs gs d14 = true := by decide +kernel
def d15 : Def := ⟨"_law_inverse", "_law_inverse", top 17, ["p", "a", "b"], ["p", "a"], f15⟩
theorem c15 : okDef xs gs d15 = true := by decide +kernel
def d16 : Def := ⟨"_law_plus", "_law_plus", top 18, ["p", "f", "g", "factor", "many", "one", "other", "k"], ["p", "f", "g", "factor"], f16⟩
theorem c16 : okDef xs gs d16 = true := by decide +kernel
def d17 : Def := ⟨"_law_by", "_law_by", top 19, ["p", "f", "g", "found", "k", "j"], ["p", "f", "g"], f17⟩
theorem c17 : okDef xs gs d17 = true := by decide +kernel
def d18 : Def := ⟨"_law_parted", "_law_parted", top 20, ["p", "f", "g", "found", "left", "step", "place", "factor"], ["p", "f", "g"], f18⟩
theorem c18 : okDef xs gs d18 = true := by decide +kernel
def d19 : Def := ⟨"_law_common", "_law_common", top 21, ["p", "f", "g", "one", "other", "step", "rest", "x"], ["p", "f", "g"], f19⟩
theorem c19 : okDef xs gs d19 = true := by decide +kernel
def d20 : Def := ⟨"_law_poly", "_law_poly", top 22, ["feed", "p", "most", "k"], ["feed", "p", "most"], f20⟩
theorem c20 : okDef xs gs d20 = true := by decide +kernel
def d21 : Def := ⟨"_law_is_poly", "_law_is_poly", top 23, ["p", "f", "x"], ["p", "f"], f21⟩
theorem c21 : okDef xs gs d21 = true := by decide +kernel
def d22 : Def := ⟨"_law_value", "_law_value", top 24, ["p", "f", "a", "total", "power", "x"], ["p", "f", "a"], f22⟩
theorem c22 : okDef xs gs d22 = true := by decide +kernel
def d23 : Def := ⟨"_law_right", "_law_right", top 25, ["feed", "p", "f", "g", "h", "handed", "told", "due", "a", "values", "parts", "both", "own", "x"], ["feed", "p", "f", "g", "h"], f23⟩
theorem c23 : okDef xs gs d23 = true := by decide +kernel
def d24 : Def := ⟨"law", "law", top 26, ["script", "feed", "turn", "p", "most", "f", "g", "h"], ["script"], f24⟩
theorem c24 : okDef xs gs d24 = true := by decide +kernel
def defs : Defs := [(0, d0), (1, d1), (2, d2), (3, d3), (4, d4), (5, d5), (6, d6), (7, d7), (8, d8), (9, d9), (10, d10), (11, d11), (12, d12), (13, d13), (14, d14), (15, d15), (16, d16), (17, d17), (18, d18), (19, d19), (20, d20), (21, d21), (22, d22), (23, d23), (24, d24)]
section
variable {K : PySem.W.Frag} {h : Heap} {mg : Str → Option Value}
theorem l0 {f : Addr} {oc : Value} {od an : Option Addr} {osl : Array (Option Value)} {kV doc pm cdv ct : Value} (X : K.In h) (G : h.Ns mainGlobals mg) (a : PySem.W.nsIn K mainGlobals "trimmed" = some (some (.ref f)))
    (l : K.lookup f = some ⟨oc, od, .func (PySem.W.fnOf "trimmed" "trimmed" (defArgs (top 1)) (defBody (top 1)) (defScope (top 1)) .none kV doc pm an cdv ct), osl⟩) (c : PySem.W.codeIn K cdv "trimmed" = true) (k : PySem.W.keepIn K (.ref f) = true) : ∃ fa fdat, Laid K mg d0 fa fdat :=
  laid_mk (d := d0) X G a l c k fun _ _ _ _ _ _ us hl => match us, hl with | [_], _ => rfl
theorem l1 {f : Addr} {oc : Value} {od an : Option Addr} {osl : Array (Option Value)} {kV doc pm cdv ct : Value} (X : K.In h) (G : h.Ns mainGlobals mg) (a : PySem.W.nsIn K mainGlobals "coefficient" = some (some (.ref f)))
    (l : K.lookup f = some ⟨oc, od, .func (PySem.W.fnOf "coefficient" "coefficient" (defArgs (top 2)) (defBody (top 2)) (defScope (top 2)) .none kV doc pm an cdv ct), osl⟩) (c : PySem.W.codeIn K cdv "coefficient" = true) (k : PySem.W.keepIn K (.ref f) = true) : ∃ fa fdat, Laid K mg d1 fa fdat :=
  laid_mk (d := d1) X G a l c k fun _ _ _ _ _ _ us hl => match us, hl with | [_, _], _ => rfl
theorem l2 {f : Addr} {oc : Value} {od an : Option Addr} {osl : Array (Option Value)} {kV doc pm cdv ct : Value} (X : K.In h) (G : h.Ns mainGlobals mg) (a : PySem.W.nsIn K mainGlobals "poly_sum" = some (some (.ref f)))
    (l : K.lookup f = some ⟨oc, od, .func (PySem.W.fnOf "poly_sum" "poly_sum" (defArgs (top 3)) (defBody (top 3)) (defScope (top 3)) .none kV doc pm an cdv ct), osl⟩) (c : PySem.W.codeIn K cdv "poly_sum" = true) (k : PySem.W.keepIn K (.ref f) = true) : ∃ fa fdat, Laid K mg d2 fa fdat :=
  laid_mk (d := d2) X G a l c k fun _ _ _ _ _ _ us hl => match us, hl with | [_, _, _], _ => rfl
theorem l3 {f : Addr} {oc : Value} {od an : Option Addr} {osl : Array (Option Value)} {kV doc pm cdv ct : Value} (X : K.In h) (G : h.Ns mainGlobals mg) (a : PySem.W.nsIn K mainGlobals "poly_less" = some (some (.ref f)))
    (l : K.lookup f = some ⟨oc, od, .func (PySem.W.fnOf "poly_less" "poly_less" (defArgs (top 4)) (defBody (top 4)) (defScope (top 4)) .none kV doc pm an cdv ct), osl⟩) (c : PySem.W.codeIn K cdv "poly_less" = true) (k : PySem.W.keepIn K (.ref f) = true) : ∃ fa fdat, Laid K mg d3 fa fdat :=
  laid_mk (d := d3) X G a l c k fun _ _ _ _ _ _ us hl => match us, hl with | [_, _, _], _ => rfl
theorem l4 {f : Addr} {oc : Value} {od an : Option Addr} {osl : Array (Option Value)} {kV doc pm cdv ct : Value} (X : K.In h) (G : h.Ns mainGlobals mg) (a : PySem.W.nsIn K mainGlobals "poly_product" = some (some (.ref f)))
    (l : K.lookup f = some ⟨oc, od, .func (PySem.W.fnOf "poly_product" "poly_product" (defArgs (top 5)) (defBody (top 5)) (defScope (top 5)) .none kV doc pm an cdv ct), osl⟩) (c : PySem.W.codeIn K cdv "poly_product" = true) (k : PySem.W.keepIn K (.ref f) = true) : ∃ fa fdat, Laid K mg d4 fa fdat :=
  laid_mk (d := d4) X G a l c k fun _ _ _ _ _ _ us hl => match us, hl with | [_, _, _], _ => rfl
theorem l5 {f : Addr} {oc : Value} {od an : Option Addr} {osl : Array (Option Value)} {kV doc pm cdv ct : Value} (X : K.In h) (G : h.Ns mainGlobals mg) (a : PySem.W.nsIn K mainGlobals "number_over" = some (some (.ref f)))
    (l : K.lookup f = some ⟨oc, od, .func (PySem.W.fnOf "number_over" "number_over" (defArgs (top 6)) (defBody (top 6)) (defScope (top 6)) .none kV doc pm an cdv ct), osl⟩) (c : PySem.W.codeIn K cdv "number_over" = true) (k : PySem.W.keepIn K (.ref f) = true) : ∃ fa fdat, Laid K mg d5 fa fdat :=
  laid_mk (d := d5) X G a l c k fun _ _ _ _ _ _ us hl => match us, hl with | [_, _, _], _ => rfl
theorem l6 {f : Addr} {oc : Value} {od an : Option Addr} {osl : Array (Option Value)} {kV doc pm cdv ct : Value} (X : K.In h) (G : h.Ns mainGlobals mg) (a : PySem.W.nsIn K mainGlobals "poly_parts" = some (some (.ref f)))
    (l : K.lookup f = some ⟨oc, od, .func (PySem.W.fnOf "poly_parts" "poly_parts" (defArgs (top 7)) (defBody (top 7)) (defScope (top 7)) .none kV doc pm an cdv ct), osl⟩) (c : PySem.W.codeIn K cdv "poly_parts" = true) (k : PySem.W.keepIn K (.ref f) = true) : ∃ fa fdat, Laid K mg d6 fa fdat :=
  laid_mk (d := d6) X G a l c k fun _ _ _ _ _ _ us hl => match us, hl with | [_, _, _], _ => rfl
theorem l7 {f : Addr} {oc : Value} {od an : Option Addr} {osl : Array (Option Value)} {kV doc pm cdv ct : Value} (X : K.In h) (G : h.Ns mainGlobals mg) (a : PySem.W.nsIn K mainGlobals "poly_by" = some (some (.ref f)))
    (l : K.lookup f = some ⟨oc, od, .func (PySem.W.fnOf "poly_by" "poly_by" (defArgs (top 8)) (defBody (top 8)) (defScope (top 8)) .none kV doc pm an cdv ct), osl⟩) (c : PySem.W.codeIn K cdv "poly_by" = true) (k : PySem.W.keepIn K (.ref f) = true) : ∃ fa fdat, Laid K mg d7 fa fdat :=
  laid_mk (d := d7) X G a l c k fun _ _ _ _ _ _ us hl => match us, hl with | [_, _, _], _ => rfl
theorem l8 {f : Addr} {oc : Value} {od an : Option Addr} {osl : Array (Option Value)} {kV doc pm cdv ct : Value} (X : K.In h) (G : h.Ns mainGlobals mg) (a : PySem.W.nsIn K mainGlobals "poly_common" = some (some (.ref f)))
    (l : K.lookup f = some ⟨oc, od, .func (PySem.W.fnOf "poly_common" "poly_common" (defArgs (top 9)) (defBody (top 9)) (defScope (top 9)) .none kV doc pm an cdv ct), osl⟩) (c : PySem.W.codeIn K cdv "poly_common" = true) (k : PySem.W.keepIn K (.ref f) = true) : ∃ fa fdat, Laid K mg d8 fa fdat :=
  laid_mk (d := d8) X G a l c k fun _ _ _ _ _ _ us hl => match us, hl with | [_, _, _], _ => rfl
theorem l9 {f : Addr} {oc : Value} {od an : Option Addr} {osl : Array (Option Value)} {kV doc pm cdv ct : Value} (X : K.In h) (G : h.Ns mainGlobals mg) (a : PySem.W.nsIn K mainGlobals "poly_at" = some (some (.ref f)))
    (l : K.lookup f = some ⟨oc, od, .func (PySem.W.fnOf "poly_at" "poly_at" (defArgs (top 10)) (defBody (top 10)) (defScope (top 10)) .none kV doc pm an cdv ct), osl⟩) (c : PySem.W.codeIn K cdv "poly_at" = true) (k : PySem.W.keepIn K (.ref f) = true) : ∃ fa fdat, Laid K mg d9 fa fdat :=
  laid_mk (d := d9) X G a l c k fun _ _ _ _ _ _ us hl => match us, hl with | [_, _, _], _ => rfl
theorem l10 {f : Addr} {oc : Value} {od an : Option Addr} {osl : Array (Option Value)} {kV doc pm cdv ct : Value} (X : K.In h) (G : h.Ns mainGlobals mg) (a : PySem.W.nsIn K mainGlobals "_law_feed" = some (some (.ref f)))
    (l : K.lookup f = some ⟨oc, od, .func (PySem.W.fnOf "_law_feed" "_law_feed" (defArgs (top 12)) (defBody (top 12)) (defScope (top 12)) .none kV doc pm an cdv ct), osl⟩) (c : PySem.W.codeIn K cdv "_law_feed" = true) (k : PySem.W.keepIn K (.ref f) = true) : ∃ fa fdat, Laid K mg d10 fa fdat :=
  laid_mk (d := d10) X G a l c k fun _ _ _ _ _ _ us hl => match us, hl with | [_], _ => rfl
theorem l11 {f : Addr} {oc : Value} {od an : Option Addr} {osl : Array (Option Value)} {kV doc pm cdv ct : Value} (X : K.In h) (G : h.Ns mainGlobals mg) (a : PySem.W.nsIn K mainGlobals "_law_draw" = some (some (.ref f)))
    (l : K.lookup f = some ⟨oc, od, .func (PySem.W.fnOf "_law_draw" "_law_draw" (defArgs (top 13)) (defBody (top 13)) (defScope (top 13)) .none kV doc pm an cdv ct), osl⟩) (c : PySem.W.codeIn K cdv "_law_draw" = true) (k : PySem.W.keepIn K (.ref f) = true) : ∃ fa fdat, Laid K mg d11 fa fdat :=
  laid_mk (d := d11) X G a l c k fun _ _ _ _ _ _ us hl => match us, hl with | [_, _], _ => rfl
theorem l12 {f : Addr} {oc : Value} {od an : Option Addr} {osl : Array (Option Value)} {kV doc pm cdv ct : Value} (X : K.In h) (G : h.Ns mainGlobals mg) (a : PySem.W.nsIn K mainGlobals "_law_is_whole" = some (some (.ref f)))
    (l : K.lookup f = some ⟨oc, od, .func (PySem.W.fnOf "_law_is_whole" "_law_is_whole" (defArgs (top 14)) (defBody (top 14)) (defScope (top 14)) .none kV doc pm an cdv ct), osl⟩) (c : PySem.W.codeIn K cdv "_law_is_whole" = true) (k : PySem.W.keepIn K (.ref f) = true) : ∃ fa fdat, Laid K mg d12 fa fdat :=
  laid_mk (d := d12) X G a l c k fun _ _ _ _ _ _ us hl => match us, hl with | [_], _ => rfl
theorem l13 {f : Addr} {oc : Value} {od an : Option Addr} {osl : Array (Option Value)} {kV doc pm cdv ct : Value} (X : K.In h) (G : h.Ns mainGlobals mg) (a : PySem.W.nsIn K mainGlobals "_law_field" = some (some (.ref f)))
    (l : K.lookup f = some ⟨oc, od, .func (PySem.W.fnOf "_law_field" "_law_field" (defArgs (top 15)) (defBody (top 15)) (defScope (top 15)) .none kV doc pm an cdv ct), osl⟩) (c : PySem.W.codeIn K cdv "_law_field" = true) (k : PySem.W.keepIn K (.ref f) = true) : ∃ fa fdat, Laid K mg d13 fa fdat :=
  laid_mk (d := d13) X G a l c k fun _ _ _ _ _ _ us hl => match us, hl with | [_], _ => rfl
theorem l14 {f : Addr} {oc : Value} {od an : Option Addr} {osl : Array (Option Value)} {kV doc pm cdv ct : Value} (X : K.In h) (G : h.Ns mainGlobals mg) (a : PySem.W.nsIn K mainGlobals "_law_trim" = some (some (.ref f)))
    (l : K.lookup f = some ⟨oc, od, .func (PySem.W.fnOf "_law_trim" "_law_trim" (defArgs (top 16)) (defBody (top 16)) (defScope (top 16)) .none kV doc pm an cdv ct), osl⟩) (c : PySem.W.codeIn K cdv "_law_trim" = true) (k : PySem.W.keepIn K (.ref f) = true) : ∃ fa fdat, Laid K mg d14 fa fdat :=
  laid_mk (d := d14) X G a l c k fun _ _ _ _ _ _ us hl => match us, hl with | [_], _ => rfl
theorem l15 {f : Addr} {oc : Value} {od an : Option Addr} {osl : Array (Option Value)} {kV doc pm cdv ct : Value} (X : K.In h) (G : h.Ns mainGlobals mg) (a : PySem.W.nsIn K mainGlobals "_law_inverse" = some (some (.ref f)))
    (l : K.lookup f = some ⟨oc, od, .func (PySem.W.fnOf "_law_inverse" "_law_inverse" (defArgs (top 17)) (defBody (top 17)) (defScope (top 17)) .none kV doc pm an cdv ct), osl⟩) (c : PySem.W.codeIn K cdv "_law_inverse" = true) (k : PySem.W.keepIn K (.ref f) = true) : ∃ fa fdat, Laid K mg d15 fa fdat :=
  laid_mk (d := d15) X G a l c k fun _ _ _ _ _ _ us hl => match us, hl with | [_, _], _ => rfl
theorem l16 {f : Addr} {oc : Value} {od an : Option Addr} {osl : Array (Option Value)} {kV doc pm cdv ct : Value} (X : K.In h) (G : h.Ns mainGlobals mg) (a : PySem.W.nsIn K mainGlobals "_law_plus" = some (some (.ref f)))
    (l : K.lookup f = some ⟨oc, od, .func (PySem.W.fnOf "_law_plus" "_law_plus" (defArgs (top 18)) (defBody (top 18)) (defScope (top 18)) .none kV doc pm an cdv ct), osl⟩) (c : PySem.W.codeIn K cdv "_law_plus" = true) (k : PySem.W.keepIn K (.ref f) = true) : ∃ fa fdat, Laid K mg d16 fa fdat :=
  laid_mk (d := d16) X G a l c k fun _ _ _ _ _ _ us hl => match us, hl with | [_, _, _, _], _ => rfl
theorem l17 {f : Addr} {oc : Value} {od an : Option Addr} {osl : Array (Option Value)} {kV doc pm cdv ct : Value} (X : K.In h) (G : h.Ns mainGlobals mg) (a : PySem.W.nsIn K mainGlobals "_law_by" = some (some (.ref f)))
    (l : K.lookup f = some ⟨oc, od, .func (PySem.W.fnOf "_law_by" "_law_by" (defArgs (top 19)) (defBody (top 19)) (defScope (top 19)) .none kV doc pm an cdv ct), osl⟩) (c : PySem.W.codeIn K cdv "_law_by" = true) (k : PySem.W.keepIn K (.ref f) = true) : ∃ fa fdat, Laid K mg d17 fa fdat :=
  laid_mk (d := d17) X G a l c k fun _ _ _ _ _ _ us hl => match us, hl with | [_, _, _], _ => rfl
theorem l18 {f : Addr} {oc : Value} {od an : Option Addr} {osl : Array (Option Value)} {kV doc pm cdv ct : Value} (X : K.In h) (G : h.Ns mainGlobals mg) (a : PySem.W.nsIn K mainGlobals "_law_parted" = some (some (.ref f)))
    (l : K.lookup f = some ⟨oc, od, .func (PySem.W.fnOf "_law_parted" "_law_parted" (defArgs (top 20)) (defBody (top 20)) (defScope (top 20)) .none kV doc pm an cdv ct), osl⟩) (c : PySem.W.codeIn K cdv "_law_parted" = true) (k : PySem.W.keepIn K (.ref f) = true) : ∃ fa fdat, Laid K mg d18 fa fdat :=
  laid_mk (d := d18) X G a l c k fun _ _ _ _ _ _ us hl => match us, hl with | [_, _, _], _ => rfl
theorem l19 {f : Addr} {oc : Value} {od an : Option Addr} {osl : Array (Option Value)} {kV doc pm cdv ct : Value} (X : K.In h) (G : h.Ns mainGlobals mg) (a : PySem.W.nsIn K mainGlobals "_law_common" = some (some (.ref f)))
    (l : K.lookup f = some ⟨oc, od, .func (PySem.W.fnOf "_law_common" "_law_common" (defArgs (top 21)) (defBody (top 21)) (defScope (top 21)) .none kV doc pm an cdv ct), osl⟩) (c : PySem.W.codeIn K cdv "_law_common" = true) (k : PySem.W.keepIn K (.ref f) = true) : ∃ fa fdat, Laid K mg d19 fa fdat :=
  laid_mk (d := d19) X G a l c k fun _ _ _ _ _ _ us hl => match us, hl with | [_, _, _], _ => rfl
theorem l20 {f : Addr} {oc : Value} {od an : Option Addr} {osl : Array (Option Value)} {kV doc pm cdv ct : Value} (X : K.In h) (G : h.Ns mainGlobals mg) (a : PySem.W.nsIn K mainGlobals "_law_poly" = some (some (.ref f)))
    (l : K.lookup f = some ⟨oc, od, .func (PySem.W.fnOf "_law_poly" "_law_poly" (defArgs (top 22)) (defBody (top 22)) (defScope (top 22)) .none kV doc pm an cdv ct), osl⟩) (c : PySem.W.codeIn K cdv "_law_poly" = true) (k : PySem.W.keepIn K (.ref f) = true) : ∃ fa fdat, Laid K mg d20 fa fdat :=
  laid_mk (d := d20) X G a l c k fun _ _ _ _ _ _ us hl => match us, hl with | [_, _, _], _ => rfl
theorem l21 {f : Addr} {oc : Value} {od an : Option Addr} {osl : Array (Option Value)} {kV doc pm cdv ct : Value} (X : K.In h) (G : h.Ns mainGlobals mg) (a : PySem.W.nsIn K mainGlobals "_law_is_poly" = some (some (.ref f)))
    (l : K.lookup f = some ⟨oc, od, .func (PySem.W.fnOf "_law_is_poly" "_law_is_poly" (defArgs (top 23)) (defBody (top 23)) (defScope (top 23)) .none kV doc pm an cdv ct), osl⟩) (c : PySem.W.codeIn K cdv "_law_is_poly" = true) (k : PySem.W.keepIn K (.ref f) = true) : ∃ fa fdat, Laid K mg d21 fa fdat :=
  laid_mk (d := d21) X G a l c k fun _ _ _ _ _ _ us hl => match us, hl with | [_, _], _ => rfl
theorem l22 {f : Addr} {oc : Value} {od an : Option Addr} {osl : Array (Option Value)} {kV doc pm cdv ct : Value} (X : K.In h) (G : h.Ns mainGlobals mg) (a : PySem.W.nsIn K mainGlobals "_law_value" = some (some (.ref f)))
    (l : K.lookup f = some ⟨oc, od, .func (PySem.W.fnOf "_law_value" "_law_value" (defArgs (top 24)) (defBody (top 24)) (defScope (top 24)) .none kV doc pm an cdv ct), osl⟩) (c : PySem.W.codeIn K cdv "_law_value" = true) (k : PySem.W.keepIn K (.ref f) = true) : ∃ fa fdat, Laid K mg d22 fa fdat :=
  laid_mk (d := d22) X G a l c k fun _ _ _ _ _ _ us hl => match us, hl with | [_, _, _], _ => rfl
theorem l23 {f : Addr} {oc : Value} {od an : Option Addr} {osl : Array (Option Value)} {kV doc pm cdv ct : Value} (X : K.In h) (G : h.Ns mainGlobals mg) (a : PySem.W.nsIn K mainGlobals "_law_right" = some (some (.ref f)))
    (l : K.lookup f = some ⟨oc, od, .func (PySem.W.fnOf "_law_right" "_law_right" (defArgs (top 25)) (defBody (top 25)) (defScope (top 25)) .none kV doc pm an cdv ct), osl⟩) (c : PySem.W.codeIn K cdv "_law_right" = true) (k : PySem.W.keepIn K (.ref f) = true) : ∃ fa fdat, Laid K mg d23 fa fdat :=
  laid_mk (d := d23) X G a l c k fun _ _ _ _ _ _ us hl => match us, hl with | [_, _, _, _, _], _ => rfl
theorem l24 {f : Addr} {oc : Value} {od an : Option Addr} {osl : Array (Option Value)} {kV doc pm cdv ct : Value} (X : K.In h) (G : h.Ns mainGlobals mg) (a : PySem.W.nsIn K mainGlobals "law" = some (some (.ref f)))
    (l : K.lookup f = some ⟨oc, od, .func (PySem.W.fnOf "law" "law" (defArgs (top 26)) (defBody (top 26)) (defScope (top 26)) .none kV doc pm an cdv ct), osl⟩) (c : PySem.W.codeIn K cdv "law" = true) (k : PySem.W.keepIn K (.ref f) = true) : ∃ fa fdat, Laid K mg d24 fa fdat :=
  laid_mk (d := d24) X G a l c k fun _ _ _ _ _ _ us hl => match us, hl with | [_], _ => rfl
theorem oks : ∀ p ∈ defs, okDef xs gs p.2 = true :=
  all_cons c0 (all_cons c1 (all_cons c2 (all_cons c3 (all_cons c4 (all_cons c5 (all_cons c6 (all_cons c7 (all_cons c8 (all_cons c9 (all_cons c10 (all_cons c11 (all_cons c12 (all_cons c13 (all_cons c14 (all_cons c15 (all_cons c16 (all_cons c17 (all_cons c18 (all_cons c19 (all_cons c20 (all_cons c21 (all_cons c22 (all_cons c23 (all_cons c24 (all_nil)))))))))))))))))))))))))
theorem tops_mk (t0 : ∃ fa fdat, Laid K mg d0 fa fdat) (t1 : ∃ fa fdat, Laid K mg d1 fa fdat) (t2 : ∃ fa fdat, Laid K mg d2 fa fdat) (t3 : ∃ fa fdat, Laid K mg d3 fa fdat) (t4 : ∃ fa fdat, Laid K mg d4 fa fdat) (t5 : ∃ fa fdat, Laid K mg d5 fa fdat) (t6 : ∃ fa fdat, Laid K mg d6 fa fdat) (t7 : ∃ fa fdat, Laid K mg d7 fa fdat) (t8 : ∃ fa fdat, Laid K mg d8 fa fdat) (t9 : ∃ fa fdat, Laid K mg d9 fa fdat) (t10 : ∃ fa fdat, Laid K mg d10 fa fdat) (t11 : ∃ fa fdat, Laid K mg d11 fa fdat) (t12 : ∃ fa fdat, Laid K mg d12 fa fdat) (t13 : ∃ fa fdat, Laid K mg d13 fa fdat) (t14 : ∃ fa fdat, Laid K mg d14 fa fdat) (t15 : ∃ fa fdat, Laid K mg d15 fa fdat) (t16 : ∃ fa fdat, Laid K mg d16 fa fdat) (t17 : ∃ fa fdat, Laid K mg d17 fa fdat) (t18 : ∃ fa fdat, Laid K mg d18 fa fdat) (t19 : ∃ fa fdat, Laid K mg d19 fa fdat) (t20 : ∃ fa fdat, Laid K mg d20 fa fdat) (t21 : ∃ fa fdat, Laid K mg d21 fa fdat) (t22 : ∃ fa fdat, Laid K mg d22 fa fdat) (t23 : ∃ fa fdat, Laid K mg d23 fa fdat) (t24 : ∃ fa fdat, Laid K mg d24 fa fdat) (z0 : mg "len" = none) (z1 : mg "abs" = none) (z2 : mg "int" = none) (z3 : mg "max" = none) (z4 : mg "min" = none) (z5 : mg "list" = none) (z6 : mg "tuple" = none) (z7 : mg "sum" = none) (z8 : mg "any" = none) (z9 : mg "all" = none) (z10 : mg "isinstance" = none) (z11 : mg "range" = none) (z12 : mg "enumerate" = none) (z13 : mg "zip" = none) (z14 : mg "reversed" = none) (z15 : mg "bool" = none) (z16 : mg "str" = none)  : Tops K mg xs gs defs :=
  ⟨rfl, bl_mk z0 z1 z2 z3 z4 z5 z6 z7 z8 z9 z10 z11 z12 z13 z14 z15 z16, all_nil, oks, all_cons t0 (all_cons t1 (all_cons t2 (all_cons t3 (all_cons t4 (all_cons t5 (all_cons t6 (all_cons t7 (all_cons t8 (all_cons t9 (all_cons t10 (all_cons t11 (all_cons t12 (all_cons t13 (all_cons t14 (all_cons t15 (all_cons t16 (all_cons t17 (all_cons t18 (all_cons t19 (all_cons t20 (all_cons t21 (all_cons t22 (all_cons t23 (all_cons t24 (all_nil)))))))))))))))))))))))))⟩
end
end K37

set_option Elab.async false
set_option linter.all false
set_option maxRecDepth 100000
set_option maxHeartbeats 4000000
namespace K37
open PySem PySem.Spec PyProof.Rows L2
open Sw
theorem fs37 : Fs37 (FTof defs) := ⟨rfl, rfl, rfl, rfl, rfl, rfl, rfl, rfl, rfl, rfl, rfl, rfl, rfl, rfl, rfl, rfl, rfl, rfl, rfl, rfl, rfl, rfl, rfl, rfl⟩
theorem law_true (ns : List Int) (h : ns.length ≤ 63) : callK (FTof defs) 1000001 12 24 [.scr ns] [] = some (.bl true, []) := ev_law (k := 5) fs37 rfl rfl (by decide) ns
end K37
open PySem PySem.W PyProof.Rows
set_option maxRecDepth 100000 in
set_option maxHeartbeats 0 in
theorem PySem.Challenge.cw_sumwires_k37_whole_polynomials_holds : PySem.Challenge.rw_sumwires_k37_whole_polynomials.Holds := by
  w_on; o_law; k_head; (case hw => w_witness2)
  k_fill
  refine Sw.sw_walk (l := PySem.Challenge.rw_sumwires_k37_whole_polynomials) (n := 63) (k := 12) (M := 1000001) (f := 24) (xs := K37.xs) (gs := K37.gs) (defs := K37.defs) (df := K37.d24) rfl (by decide) rfl ⟨rfl, by decide, by decide⟩ (fun w h Y => PySem.W.kIn_of Y) rfl rfl rfl ?F fun ns hl => K37.law_true ns hl
  case F =>
    intro w mg h KX G
    refine' K37.tops_mk ?t0 ?t1 ?t2 ?t3 ?t4 ?t5 ?t6 ?t7 ?t8 ?t9 ?t10 ?t11 ?t12 ?t13 ?t14 ?t15 ?t16 ?t17 ?t18 ?t19 ?t20 ?t21 ?t22 ?t23 ?t24 ?z0 ?z1 ?z2 ?z3 ?z4 ?z5 ?z6 ?z7 ?z8 ?z9 ?z10 ?z11 ?z12 ?z13 ?z14 ?z15 ?z16 
    (case t0 => (refine' K37.l0 KX G ?a ?l ?c ?k); (case a => k_is); (case l => k_is); (case c => k_is); (case k => k_is))
    (case t1 => (refine' K37.l1 KX G ?a ?l ?c ?k); (case a => k_is); (case l => k_is); (case c => k_is); (case k => k_is))
    (case t2 => (refine' K37.l2 KX G ?a ?l ?c ?k); (case a => k_is); (case l => k_is); (case c => k_is); (case k => k_is))
    (case t3 => (refine' K37.l3 KX G ?a ?l ?c ?k); (case a => k_is); (case l => k_is); (case c => k_is); (case k => k_is))
    (case t4 => (refine' K37.l4 KX G ?a ?l ?c ?k); (case a => k_is); (case l => k_is); (case c => k_is); (case k => k_is))
    (case t5 => (refine' K37.l5 KX G ?a ?l ?c ?k); (case a => k_is); (case l => k_is); (case c => k_is); (case k => k_is))
    (case t6 => (refine' K37.l6 KX G ?a ?l ?c ?k); (case a => k_is); (case l => k_is); (case c => k_is); (case k => k_is))
    (case t7 => (refine' K37.l7 KX G ?a ?l ?c ?k); (case a => k_is); (case l => k_is); (case c => k_is); (case k => k_is))
    (case t8 => (refine' K37.l8 KX G ?a ?l ?c ?k); (case a => k_is); (case l => k_is); (case c => k_is); (case k => k_is))
    (case t9 => (refine' K37.l9 KX G ?a ?l ?c ?k); (case a => k_is); (case l => k_is); (case c => k_is); (case k => k_is))
    (case t10 => (refine' K37.l10 KX G ?a ?l ?c ?k); (case a => k_is); (case l => k_is); (case c => k_is); (case k => k_is))
    (case t11 => (refine' K37.l11 KX G ?a ?l ?c ?k); (case a => k_is); (case l => k_is); (case c => k_is); (case k => k_is))
    (case t12 => (refine' K37.l12 KX G ?a ?l ?c ?k); (case a => k_is); (case l => k_is); (case c => k_is); (case k => k_is))
    (case t13 => (refine' K37.l13 KX G ?a ?l ?c ?k); (case a => k_is); (case l => k_is); (case c => k_is); (case k => k_is))
    (case t14 => (refine' K37.l14 KX G ?a ?l ?c ?k); (case a => k_is); (case l => k_is); (case c => k_is); (case k => k_is))
    (case t15 => (refine' K37.l15 KX G ?a ?l ?c ?k); (case a => k_is); (case l => k_is); (case c => k_is); (case k => k_is))
    (case t16 => (refine' K37.l16 KX G ?a ?l ?c ?k); (case a => k_is); (case l => k_is); (case c => k_is); (case k => k_is))
    (case t17 => (refine' K37.l17 KX G ?a ?l ?c ?k); (case a => k_is); (case l => k_is); (case c => k_is); (case k => k_is))
    (case t18 => (refine' K37.l18 KX G ?a ?l ?c ?k); (case a => k_is); (case l => k_is); (case c => k_is); (case k => k_is))
    (case t19 => (refine' K37.l19 KX G ?a ?l ?c ?k); (case a => k_is); (case l => k_is); (case c => k_is); (case k => k_is))
    (case t20 => (refine' K37.l20 KX G ?a ?l ?c ?k); (case a => k_is); (case l => k_is); (case c => k_is); (case k => k_is))
    (case t21 => (refine' K37.l21 KX G ?a ?l ?c ?k); (case a => k_is); (case l => k_is); (case c => k_is); (case k => k_is))
    (case t22 => (refine' K37.l22 KX G ?a ?l ?c ?k); (case a => k_is); (case l => k_is); (case c => k_is); (case k => k_is))
    (case t23 => (refine' K37.l23 KX G ?a ?l ?c ?k); (case a => k_is); (case l => k_is); (case c => k_is); (case k => k_is))
    (case t24 => (refine' K37.l24 KX G ?a ?l ?c ?k); (case a => k_is); (case l => k_is); (case c => k_is); (case k => k_is))
    (case z0 => (refine' PySem.W.mg_none_of KX G ?a); (case a => k_is))
    (case z1 => (refine' PySem.W.mg_none_of KX G ?a); (case a => k_is))
    (case z2 => (refine' PySem.W.mg_none_of KX G ?a); (case a => k_is))
    (case z3 => (refine' PySem.W.mg_none_of KX G ?a); (case a => k_is))
    (case z4 => (refine' PySem.W.mg_none_of KX G ?a); (case a => k_is))
    (case z5 => (refine' PySem.W.mg_none_of KX G ?a); (case a => k_is))
    (case z6 => (refine' PySem.W.mg_none_of KX G ?a); (case a => k_is))
    (case z7 => (refine' PySem.W.mg_none_of KX G ?a); (case a => k_is))
    (case z8 => (refine' PySem.W.mg_none_of KX G ?a); (case a => k_is))
    (case z9 => (refine' PySem.W.mg_none_of KX G ?a); (case a => k_is))
    (case z10 => (refine' PySem.W.mg_none_of KX G ?a); (case a => k_is))
    (case z11 => (refine' PySem.W.mg_none_of KX G ?a); (case a => k_is))
    (case z12 => (refine' PySem.W.mg_none_of KX G ?a); (case a => k_is))
    (case z13 => (refine' PySem.W.mg_none_of KX G ?a); (case a => k_is))
    (case z14 => (refine' PySem.W.mg_none_of KX G ?a); (case a => k_is))
    (case z15 => (refine' PySem.W.mg_none_of KX G ?a); (case a => k_is))
    (case z16 => (refine' PySem.W.mg_none_of KX G ?a); (case a => k_is))
#print axioms PySem.Challenge.cw_sumwires_k37_whole_polynomials_holds

