import PyProof.Rows.All
import Wide.All
import OpenK.AllK
import Wide.FinOn
import HandS.CallSlots
import HandS.Comp
import HandS.Deep
import HandS.Defaults
import HandS.ExcOwn
import HandS.ForSpec
import HandS.Head2
import HandS.HeadEnd
import HandS.HeadHook2
import HandS.IsInst
import HandS.Iter
import HandS.Style
import HandS.TryMany
import HandS.TryOnly
import HandS.TupAny
import HandS.Wide
import HandS.WordsExc
import HandS.Zip
import PySem.Challenge.RW_withinone_k26_whole_bounds_reckoned
set_option Elab.async false
set_option linter.all false
set_option maxRecDepth 100000
set_option maxHeartbeats 8000000
set_option exponentiation.threshold 20000

/-! a small language of trees and owned lists, what its programs want (wE, wS) -/
namespace IL
open PySem L2

/-- data: trees; lst: a list that nobody writes any more; scr: the law's own list of ints; ref n: the n-th object of the store -/
inductive D where
  | non | bl (b : Bool) | int (i : Int) | str (x : Str) | tup (l : List D) | lst (l : List D) | scr (l : List Int) | ref (n : Nat) | fn (x : Str)
deriving Inhabited
/-- an object that may be written -/
inductive Ob where
  | lst (l : List D) | ins (C : Str) (fs : List (Str × D)) | dead
deriving Inhabited
abbrev Env := List (Option D)
abbrev Store := List Ob

mutual
def D.dep : D → Nat
  | .tup l => D.deps l + 1
  | .lst l => D.deps l + 1
  | _ => 0
def D.deps : List D → Nat
  | [] => 0
  | d :: ds => max d.dep (D.deps ds)
end
mutual
def D.lay : D → Bool
  | .str x => PyData.strOk x
  | .tup l => D.lays l
  | .lst l => D.lays l
  | .ref _ => false
  | .scr _ => false
  | .fn _ => false
  | _ => true
def D.lays : List D → Bool
  | [] => true
  | d :: ds => d.lay && D.lays ds
end
/-- what may be compared -/
def D.ok (d : D) : Prop := d.lay = true ∧ d.dep ≤ 64
mutual
def D.eqv : D → D → Bool
  | .non, .non => true
  | .bl a, .bl b => a == b
  | .bl a, .int j => (if a then 1 else 0) == j
  | .int i, .bl b => i == (if b then 1 else 0)
  | .int i, .int j => i == j
  | .str x, .str y => x == y
  | .tup xs, .tup ys => D.eqvs xs ys
  | .lst xs, .lst ys => D.eqvs xs ys
  | _, _ => false
def D.eqvs : List D → List D → Bool
  | [], [] => true
  | x :: xs, y :: ys => D.eqv x y && D.eqvs xs ys
  | _, _ => false
end
mutual
/-- only objects below n are meant in it -/
def D.inb (n : Nat) : D → Bool
  | .ref k => decide (k < n)
  | .tup l => D.inbs n l
  | .lst l => D.inbs n l
  | _ => true
def D.inbs (n : Nat) : List D → Bool
  | [] => true
  | d :: ds => d.inb n && D.inbs n ds
end
def D.nonB : D → Bool
  | .non => true
  | _ => false
def Ob.inb (n : Nat) : Ob → Bool
  | .lst l => D.inbs n l
  | .ins _ fs => D.inbs n (fs.map (·.2))
  | .dead => true

/-- a list that is read -/
def seqL (μ : Store) : D → Option (List D)
  | .lst l => some l
  | .scr l => some (l.map D.int)
  | .ref n => match μ[n]? with
    | some (.lst l) => some l
    | _ => none
  | _ => none
/-- a list or a tuple that is read -/
def seqA (μ : Store) : D → Option (List D)
  | .tup l => some l
  | d => seqL μ d
/-- the tree of a datum -/
def tree (μ : Store) : D → Option D
  | .ref n => match μ[n]? with
    | some (.lst l) => some (.lst l)
    | _ => none
  | d => some d
def cut {α : Type} (xs : List α) (lo hi : Option Int) : List α := (xs.drop (HT.sIx xs.length 0 lo)).take (HT.sIx xs.length xs.length hi - HT.sIx xs.length 0 lo)

inductive Bop where | add | sub | mul | fdiv | mod
deriving DecidableEq
inductive Cop where | lt | le | gt | ge | eq | ne | iss | isn | inn | nin
deriving DecidableEq
inductive Bf where | len | abs | max | min | int | list | tuple | all | str
deriving DecidableEq
inductive Ty where | int | bool | tuple | list | str
deriving DecidableEq
inductive Tg where | nm (i : Nat) | tp (is : List Nat)
deriving DecidableEq
inductive ItK where | seq | r1 | r2 | r3 | zip
deriving DecidableEq

mutual
inductive E where
  | nop
  | var (i : Nat) | int (i : Int) | bl (b : Bool) | non | str (x : Str) | glo (x : Str)
  | tup (es : Es) | lst (own : Bool) (es : Es)
  | bin (own : Bool) (o : Bop) (a b : E) | neg (a : E)
  | cmp (c : Cop) (a b : E) | chn (c d : Cop) (a b e : E)
  | and (a b : E) | or (a b : E) | not (a : E) | ite (t a b : E)
  | idx (a i : E) | slc (own : Bool) (a lo hi : E) | rev (own : Bool) (a : E)
  | call (f : Str) (es : Es) | bf (own : Bool) (f : Bf) (es : Es) | isi (t : Ty) (a : E)
  | comp (own : Bool) (k : ItK) (a b c : E) (tg : Tg) (t e : E)
  | pop (a : E) | app (a b : E)
  | frz (a : E)
inductive Es where
  | nil | cons (e : E) (es : Es)
end
mutual
inductive S where
  | pass | brk | cnt | retn
  | ret (e : E) | exp (e : E) | set (i : Nat) (e : E) | aug (i : Nat) (o : Bop) (e : E)
  | par (is : List Nat) (es : Es) | unp (is : List Nat) (e : E) | seti (o i e : E) | swap (o i p j a b : E)
  | ite (t : E) (a b : Ss) | whl (t : E) (b : Ss) | loop (k : ItK) (a b c : E) (tg : Tg) (s : Ss)
  | raise (x : Str) | tr (b : Ss) (x : Str) (s : Ss) (more : Hs)
inductive Ss where
  | nil | cons (s : S) (ss : Ss)
/-- further clauses -/
inductive Hs where
  | nil | cons (x : Str) (s : Ss) (hs : Hs)
end

abbrev XQ := Str → Store → Prop
abbrev DQ := D → Store → Prop
/-- what a def wants: arguments, store, the end, an exception -/
abbrev Spec := List D → Store → DQ → XQ → Prop
abbrev WE := Env → Store → DQ → XQ → Prop
abbrev WEs := Env → Store → (List D → Store → Prop) → XQ → Prop
abbrev WT := Env → Store → (Bool → Store → Prop) → XQ → Prop
structure Ctl where
  nx : Env → Store → Prop
  rt : D → Store → Prop
  ex : Str → Env → Store → Prop
  bk : Env → Store → Prop := fun _ _ => False
  ct : Env → Store → Prop := fun _ _ => False
abbrev WS := Env → Store → Ctl → Prop

/-- a new list -/
def newL (own : Bool) (l : List D) (μ : Store) (Q : DQ) : Prop := l.length ≤ sizeLine ∧ if own = true then Q (.ref μ.length) (μ ++ [.lst l]) else Q (.lst l) μ
def mulOk (i j : Int) : Prop := i.natAbs.log2 + j.natAbs.log2 < 134217000
def divOk (_i j : Int) : Prop := j ≠ 0
def bopS (own : Bool) (o : Bop) (x y : D) (μ : Store) (Q : DQ) : Prop := match o, x, y with
  | .add, .int i, .int j => Q (.int (i + j)) μ
  | .sub, .int i, .int j => Q (.int (i - j)) μ
  | .mul, .int i, .int j => mulOk i j ∧ Q (.int (i * j)) μ
  | .fdiv, .int i, .int j => divOk i j ∧ Q (.int (i.fdiv j)) μ
  | .mod, .int i, .int j => j ≠ 0 ∧ Q (.int (i.fmod j)) μ
  | .add, .tup xs, .tup ys => xs.length + ys.length ≤ sizeLine ∧ Q (.tup (xs ++ ys)) μ
  | .add, .str a, .str b => a.length + b.length ≤ sizeLine ∧ Q (.str (a ++ b)) μ
  | .add, x, y => ∃ xs ys, seqL μ x = some xs ∧ seqL μ y = some ys ∧ (∀ l, x ≠ .scr l) ∧ (∀ l, y ≠ .scr l) ∧ newL own (xs ++ ys) μ Q
  | .mul, x, .int k => ∃ xs, seqL μ x = some xs ∧ (∀ l, x ≠ .scr l) ∧ -(2 ^ 63) ≤ k ∧ k < 2 ^ 63 ∧ newL own ((List.replicate k.toNat xs).flatten) μ Q
  | _, _, _ => False
def copS (c : Cop) (x y : D) (μ : Store) (Q : DQ) : Prop := match c with
  | .lt => ∃ i j, x = .int i ∧ y = .int j ∧ Q (.bl (decide (i < j))) μ
  | .le => ∃ i j, x = .int i ∧ y = .int j ∧ Q (.bl (decide (i ≤ j))) μ
  | .gt => ∃ i j, x = .int i ∧ y = .int j ∧ Q (.bl (decide (j < i))) μ
  | .ge => ∃ i j, x = .int i ∧ y = .int j ∧ Q (.bl (decide (j ≤ i))) μ
  | .eq => ∃ a b, tree μ x = some a ∧ tree μ y = some b ∧ a.ok ∧ b.ok ∧ Q (.bl (D.eqv a b)) μ
  | .ne => ∃ a b, tree μ x = some a ∧ tree μ y = some b ∧ a.ok ∧ b.ok ∧ Q (.bl (!D.eqv a b)) μ
  | .iss => (y = .non ∧ Q (.bl x.nonB) μ) ∨ ∃ a b, x = .bl a ∧ y = .bl b ∧ Q (.bl (a == b)) μ
  | .isn => (y = .non ∧ Q (.bl (!x.nonB)) μ) ∨ ∃ a b, x = .bl a ∧ y = .bl b ∧ Q (.bl (!(a == b))) μ
  | .inn => ∃ ys, seqA μ y = some ys ∧ x.ok ∧ (D.tup ys).ok ∧ Q (.bl (ys.any fun z => D.eqv z x)) μ
  | .nin => ∃ ys, seqA μ y = some ys ∧ x.ok ∧ (D.tup ys).ok ∧ Q (.bl (!(ys.any fun z => D.eqv z x))) μ
def bools : List D → Option (List Bool)
  | [] => some []
  | .bl b :: r => (bools r).map (b :: ·)
  | _ => none
def bfS (own : Bool) (f : Bf) (xs : List D) (μ : Store) (Q : DQ) : Prop := match f, xs with
  | .len, [x] => ∃ l, seqA μ x = some l ∧ Q (.int l.length) μ
  | .abs, [.int i] => Q (.int (if i < 0 then -i else i)) μ
  | .max, [.int i, .int j] => Q (.int (if j > i then j else i)) μ
  | .min, [.int i, .int j] => Q (.int (if j < i then j else i)) μ
  | .int, [.int i] => Q (.int i) μ
  | .int, [.bl b] => Q (.int (if b then 1 else 0)) μ
  | .list, [x] => ∃ l, seqA μ x = some l ∧ newL own l μ Q
  | .tuple, [x] => ∃ l, seqA μ x = some l ∧ Q (.tup l) μ
  | .all, [x] => ∃ l bs, seqL μ x = some l ∧ bools l = some bs ∧ Q (.bl (bs.all id)) μ
  | _, _ => False
def tyOf (μ : Store) : D → Option Ty
  | .bl _ => some .bool
  | .int _ => some .int
  | .str _ => some .str
  | .tup _ => some .tuple
  | .lst _ => some .list
  | .scr _ => some .list
  | .ref n => match μ[n]? with
    | some (.lst _) => some .list
    | _ => none
  | _ => none
def isiS (t : Ty) (x : D) (μ : Store) (Q : DQ) : Prop := match x with
  | .non => Q (.bl false) μ
  | _ => ∃ u, tyOf μ x = some u ∧ Q (.bl (decide (u = t) || (decide (t = .int) && decide (u = .bool)))) μ
def idxS (x y : D) (μ : Store) (Q : DQ) : Prop := ∃ l i d, seqA μ x = some l ∧ y = .int i ∧ atI l i = some d ∧ Q d μ
def part : D → Option (Option Int)
  | .int i => some (some i)
  | _ => none
def slcS (own : Bool) (x : D) (lo hi : Option Int) (μ : Store) (Q : DQ) : Prop := match x with
  | .tup l => Q (.tup (cut l lo hi)) μ
  | _ => ∃ l, seqL μ x = some l ∧ newL own (cut l lo hi) μ Q
def revS (own : Bool) (x : D) (μ : Store) (Q : DQ) : Prop := match x with
  | .tup l => Q (.tup l.reverse) μ
  | _ => ∃ l, seqL μ x = some l ∧ newL own l.reverse μ Q
/-- the slots of a target -/
def Tg.slots : Tg → List Nat
  | .nm i => [i]
  | .tp is => is
def wipeD (ρ : Env) : List Nat → Env
  | [] => ρ
  | v :: vs => (wipeD ρ vs).set v none
def setMany (ρ : Env) : List Nat → List D → Env
  | i :: is, d :: ds => setMany (ρ.set i (some d)) is ds
  | _, _ => ρ
/-- a datum goes to a target -/
def tgS (tg : Tg) (d : D) (ρ : Env) (Q : Env → Prop) : Prop := match tg with
  | .nm i => Q (ρ.set i (some d))
  | .tp is => ∃ l, d = .tup l ∧ l.length = is.length ∧ Q (setMany ρ is l)
/-- what an iteration asks of the store ahead of each turn -/
def guard (x : D) (l : List D) (μ : Store) : Prop := match x with
  | .ref n => μ[n]? = some (.lst l)
  | _ => True
def zipD : List D → List D → List D
  | x :: xs, y :: ys => .tup [x, y] :: zipD xs ys
  | _, _ => []
def rngD (lo : Int) (n : Nat) : List D := (List.range n).map fun (k : Nat) => D.int (lo + (k : Int))
def rngS (lo c : Int) (n : Nat) : List D := (List.range n).map fun (k : Nat) => D.int (lo + (k : Int) * c)

section
variable (Φ : Str → Spec) (C : Str → Option D)
/-- one turn after another of a comprehension -/
def compW (tg : Tg) (t : WT) (e : WE) (g : Store → Prop) (ρ : Env) : List D → List D → Store → (List D → Store → Prop) → Prop
  | [], acc, μ, Q => g μ ∧ Q acc μ
  | d :: ds, acc, μ, Q => g μ ∧ tgS tg d ρ fun ρ' => t ρ' μ (fun b μ1 =>
      if b = true then e ρ' μ1 (fun y μ2 => acc.length < sizeLine ∧ compW tg t e g ρ ds (acc ++ [y]) μ2 Q) (fun _ _ => False) else compW tg t e g ρ ds acc μ1 Q) (fun _ _ => False)
/-- what an iteration walks -/
def itS (k : ItK) (x y z : D) (μ : Store) (R : List D → (Store → Prop) → Prop) : Prop := match k with
  | .seq => ∃ l, seqA μ x = some l ∧ R l (guard x l)
  | .r1 => ∃ j, x = .int j ∧ -(2 ^ 62) ≤ j ∧ j < 2 ^ 62 ∧ R (rngD 0 j.toNat) fun _ => True
  | .r2 => ∃ i j, x = .int i ∧ y = .int j ∧ (-(2 ^ 62) ≤ i ∧ i < 2 ^ 62 ∧ -(2 ^ 62) ≤ j ∧ j < 2 ^ 62) ∧ R (rngD i (j - i).toNat) fun _ => True
  | .r3 => ∃ i j, x = .int i ∧ y = .int j ∧ z = .int (-1) ∧ (-(2 ^ 62) ≤ i ∧ i < 2 ^ 62 ∧ -(2 ^ 62) ≤ j ∧ j < 2 ^ 62) ∧ R (rngS i (-1) (i - j).toNat) fun _ => True
  | .zip => ∃ l m, ((x = .lst l ∧ y = .lst m) ∨ (x = .tup l ∧ y = .tup m)) ∧ R (zipD l m) fun _ => True

/-- a test by its value -/
def tW (e : WE) : WT := fun ρ μ Q X => e ρ μ (fun x μ1 => ∃ c, x = .bl c ∧ Q c μ1) X
def isNop : E → Bool
  | .nop => true
  | _ => false
/-- a part of a slice -/
def pW (n : Bool) (e : WE) (ρ : Env) (μ : Store) (Q : Option Int → Store → Prop) (X : XQ) : Prop := if n = true then Q none μ else e ρ μ (fun d μ1 => ∃ i, d = .int i ∧ Q (some i) μ1) X
def itW (k : ItK) (a b c : WE) (ρ : Env) (μ : Store) (Q : D → D → D → Store → Prop) (X : XQ) : Prop := match k with
  | .seq => a ρ μ (fun x μ1 => Q x .non .non μ1) X
  | .r1 => a ρ μ (fun x μ1 => Q x .non .non μ1) X
  | .r2 => a ρ μ (fun x μ1 => b ρ μ1 (fun y μ2 => Q x y .non μ2) X) X
  | .r3 => a ρ μ (fun x μ1 => b ρ μ1 (fun y μ2 => c ρ μ2 (fun z μ3 => Q x y z μ3) X) X) X
  | .zip => a ρ μ (fun x μ1 => b ρ μ1 (fun y μ2 => Q x y .non μ2) X) X
mutual
def wE : E → WE
  | .nop => fun _ _ _ _ => False
  | .var i => fun ρ μ Q _ => ∃ d, ρ[i]? = some (some d) ∧ Q d μ
  | .int i => fun _ μ Q _ => Q (.int i) μ
  | .bl b => fun _ μ Q _ => Q (.bl b) μ
  | .non => fun _ μ Q _ => Q .non μ
  | .str x => fun _ μ Q _ => Q (.str x) μ
  | .glo x => fun _ μ Q _ => ∃ d, C x = some d ∧ Q d μ
  | .tup es => fun ρ μ Q X => wEs es ρ μ (fun ds μ1 => ds.length ≤ sizeLine ∧ Q (.tup ds) μ1) X
  | .lst own es => fun ρ μ Q X => wEs es ρ μ (fun ds μ1 => newL own ds μ1 Q) X
  | .bin own o a b => fun ρ μ Q X => wE a ρ μ (fun x μ1 => wE b ρ μ1 (fun y μ2 => bopS own o x y μ2 Q) X) X
  | .neg a => fun ρ μ Q X => wE a ρ μ (fun x μ1 => ∃ i, x = .int i ∧ Q (.int (-i)) μ1) X
  | .cmp c a b => fun ρ μ Q X => wE a ρ μ (fun x μ1 => wE b ρ μ1 (fun y μ2 => copS c x y μ2 Q) X) X
  | .chn c d a b e => fun ρ μ Q X => wE a ρ μ (fun x μ1 => wE b ρ μ1 (fun y μ2 => copS c x y μ2 fun z μ3 => ∃ k, z = .bl k ∧
      if k = true then wE e ρ μ3 (fun w μ4 => copS d y w μ4 Q) X else Q (.bl false) μ3) X) X
  | .and a b => fun ρ μ Q X => wE a ρ μ (fun x μ1 => ∃ c, x = .bl c ∧ if c = true then wE b ρ μ1 Q X else Q (.bl false) μ1) X
  | .or a b => fun ρ μ Q X => wE a ρ μ (fun x μ1 => ∃ c, x = .bl c ∧ if c = true then Q (.bl true) μ1 else wE b ρ μ1 Q X) X
  | .not a => fun ρ μ Q X => wE a ρ μ (fun x μ1 => ∃ c, x = .bl c ∧ Q (.bl (!c)) μ1) X
  | .ite t a b => fun ρ μ Q X => wE t ρ μ (fun x μ1 => ∃ c, x = .bl c ∧ if c = true then wE a ρ μ1 Q X else wE b ρ μ1 Q X) X
  | .idx a i => fun ρ μ Q X => wE a ρ μ (fun x μ1 => wE i ρ μ1 (fun y μ2 => idxS x y μ2 Q) X) X
  | .slc own a lo hi => fun ρ μ Q X => wE a ρ μ (fun x μ1 => pW (isNop lo) (wE lo) ρ μ1 (fun l μ2 => pW (isNop hi) (wE hi) ρ μ2 (fun h μ3 => slcS own x l h μ3 Q) X) X) X
  | .rev own a => fun ρ μ Q X => wE a ρ μ (fun x μ1 => revS own x μ1 Q) X
  | .call f es => fun ρ μ Q X => wEs es ρ μ (fun ds μ1 => Φ f ds μ1 Q X) X
  | .bf own f es => fun ρ μ Q X => wEs es ρ μ (fun ds μ1 => bfS own f ds μ1 Q) X
  | .isi t a => fun ρ μ Q X => wE a ρ μ (fun x μ1 => isiS t x μ1 Q) X
  | .comp own k a b c tg t e => fun ρ μ Q X => itW k (wE a) (wE b) (wE c) ρ μ (fun x y z μ1 => itS k x y z μ1 fun l g =>
      compW tg (tW (wE t)) (wE e) g (wipeD ρ tg.slots) l [] μ1 fun acc μ2 => newL own acc μ2 Q) X
  | .pop a => fun ρ μ Q X => wE a ρ μ (fun x μ1 => ∃ n l d, x = .ref n ∧ μ1[n]? = some (.lst l) ∧ l[l.length - 1]? = some d ∧ Q d (μ1.set n (.lst l.dropLast))) X
  | .app a b => fun ρ μ Q X => wE a ρ μ (fun x μ1 => (∃ n l, x = .ref n ∧ μ1[n]? = some (.lst l)) ∧ wE b ρ μ1 (fun y μ2 => ∃ n l, x = .ref n ∧ μ2[n]? = some (.lst l) ∧ l.length < sizeLine ∧ Q .non (μ2.set n (.lst (l ++ [y])))) X) X
  | .frz a => fun ρ μ Q X => wE a ρ μ (fun x μ1 => ∃ n l, x = .ref n ∧ μ1[n]? = some (.lst l) ∧ Q (.lst l) (μ1.set n .dead)) X
def wEs : Es → WEs
  | .nil => fun _ μ Q _ => Q [] μ
  | .cons e es => fun ρ μ Q X => wE e ρ μ (fun d μ1 => wEs es ρ μ1 (fun ds μ2 => Q (d :: ds) μ2) X) X
end
/-- a for, one turn after another -/
def loopW (tg : Tg) (b : WS) (g : Store → Prop) : List D → Env → Store → Ctl → Prop
  | [], ρ, μ, K => g μ ∧ K.nx ρ μ
  | d :: ds, ρ, μ, K => g μ ∧ tgS tg d ρ fun ρ1 => b ρ1 μ { K with nx := fun ρ2 μ2 => loopW tg b g ds ρ2 μ2 K, ct := fun ρ2 μ2 => loopW tg b g ds ρ2 μ2 K, bk := K.nx }
/-- a while, at most n turns -/
def whlW (t : WT) (b : WS) : Nat → Env → Store → Ctl → Prop
  | 0, _, _, _ => False
  | n + 1, ρ, μ, K => t ρ μ (fun c μ1 => if c = true then b ρ μ1 { K with nx := fun ρ2 μ2 => whlW t b n ρ2 μ2 K, ct := fun ρ2 μ2 => whlW t b n ρ2 μ2 K, bk := K.nx } else K.nx ρ μ1) fun x μ1 => K.ex x ρ μ1
variable (U : Str → Str → Option Bool)
mutual
def wS : S → WS
  | .pass => fun ρ μ K => K.nx ρ μ
  | .brk => fun ρ μ K => K.bk ρ μ
  | .cnt => fun ρ μ K => K.ct ρ μ
  | .retn => fun _ μ K => K.rt .non μ
  | .ret e => fun ρ μ K => wE Φ C e ρ μ K.rt fun x μ1 => K.ex x ρ μ1
  | .exp e => fun ρ μ K => wE Φ C e ρ μ (fun _ μ1 => K.nx ρ μ1) fun x μ1 => K.ex x ρ μ1
  | .set i e => fun ρ μ K => wE Φ C e ρ μ (fun d μ1 => K.nx (ρ.set i (some d)) μ1) fun x μ1 => K.ex x ρ μ1
  | .aug i o e => fun ρ μ K => ∃ x, ρ[i]? = some (some x) ∧ wE Φ C e ρ μ (fun y μ1 => ∃ a b, x = .int a ∧ y = .int b ∧ (o = .add ∧ K.nx (ρ.set i (some (.int (a + b)))) μ1 ∨ o = .sub ∧ K.nx (ρ.set i (some (.int (a - b)))) μ1)) fun x μ1 => K.ex x ρ μ1
  | .par is es => fun ρ μ K => wEs Φ C es ρ μ (fun ds μ1 => ds.length = is.length ∧ K.nx (setMany ρ is ds) μ1) fun x μ1 => K.ex x ρ μ1
  | .unp is e => fun ρ μ K => wE Φ C e ρ μ (fun d μ1 => ∃ l, seqA μ1 d = some l ∧ l.length = is.length ∧ K.nx (setMany ρ is l) μ1) fun x μ1 => K.ex x ρ μ1
  | .seti o i e => fun ρ μ K => wE Φ C e ρ μ (fun v μ1 => wE Φ C o ρ μ1 (fun x μ2 => wE Φ C i ρ μ2 (fun y μ3 => ∃ n l k j, x = .ref n ∧ y = .int k ∧ μ3[n]? = some (.lst l) ∧ ixN l.length k = some j ∧
      K.nx ρ (μ3.set n (.lst (l.set j v)))) fun x μ1 => K.ex x ρ μ1) fun x μ1 => K.ex x ρ μ1) fun x μ1 => K.ex x ρ μ1
  | .swap o i p j a b => fun ρ μ K => wE Φ C a ρ μ (fun v μ1 => wE Φ C b ρ μ1 (fun u μ2 =>
      wE Φ C o ρ μ2 (fun x μ3 => wE Φ C i ρ μ3 (fun y μ4 => ∃ n l k q, x = .ref n ∧ y = .int k ∧ μ4[n]? = some (.lst l) ∧ ixN l.length k = some q ∧
      wE Φ C p ρ (μ4.set n (.lst (l.set q v))) (fun x μ5 => wE Φ C j ρ μ5 (fun y μ6 => ∃ n l k q, x = .ref n ∧ y = .int k ∧ μ6[n]? = some (.lst l) ∧ ixN l.length k = some q ∧
      K.nx ρ (μ6.set n (.lst (l.set q u)))) fun x μ1 => K.ex x ρ μ1) fun x μ1 => K.ex x ρ μ1) fun x μ1 => K.ex x ρ μ1) fun x μ1 => K.ex x ρ μ1) fun x μ1 => K.ex x ρ μ1) fun x μ1 => K.ex x ρ μ1
  | .ite t a b => fun ρ μ K => wE Φ C t ρ μ (fun x μ1 => ∃ c, x = .bl c ∧ if c = true then wSs a ρ μ1 K else wSs b ρ μ1 K) fun x μ1 => K.ex x ρ μ1
  | .whl t b => fun ρ μ K => ∃ n, whlW (tW (wE Φ C t)) (wSs b) n ρ μ K
  | .loop k a b c tg s => fun ρ μ K => itW k (wE Φ C a) (wE Φ C b) (wE Φ C c) ρ μ (fun x y z μ1 => itS k x y z μ1 fun l g => loopW tg (wSs s) g l ρ μ1 K) fun x μ1 => K.ex x ρ μ1
  | .raise x => fun ρ μ K => K.ex x ρ μ
  | .tr b x s hs => fun ρ μ K => wSs b ρ μ { K with ex := fun y ρ1 μ1 => ∃ m, U y x = some m ∧ if m = true then wSs s ρ1 μ1 { K with ex := fun _ _ _ => False } else wHs hs y ρ1 μ1 K }
def wSs : Ss → WS
  | .nil => fun ρ μ K => K.nx ρ μ
  | .cons s ss => fun ρ μ K => wS s ρ μ { K with nx := fun ρ1 μ1 => wSs ss ρ1 μ1 K }
def wHs : Hs → Str → WS
  | .nil => fun y ρ μ K => K.ex y ρ μ
  | .cons x s hs => fun y ρ μ K => ∃ m, U y x = some m ∧ if m = true then wSs s ρ μ { K with ex := fun _ _ _ => False } else wHs hs y ρ μ K
end
end
end IL

/-! data and stores as they lie in the heap -/
namespace IL
open PySem PySem.Spec PyProof.Rows L2

structure Wd where
  ι : List Addr
  φ : Addr → Prop
def SqF (K : PySem.W.Frag) (w : Wd) (H : Hp) (a : Addr) (xs : List V) : Prop :=
  (w.φ a ∧ Rd H a (.lst xs)) ∨
    ∃ (o : Obj) (its : Array Value) (n : Nat), K.lookup a = some o ∧ o.cls = .type "list" ∧ o.dict = none ∧ o.data = .seq its n ∧ its.size ≤ sizeLine ∧ Vals xs its.toList
theorem SqF.sq {K : PySem.W.Frag} {w : Wd} {H : Hp} {a : Addr} {xs : List V} (h : SqF K w H a xs) : SqL K H a xs := h.elim (fun z => .inl z.2) .inr
section
variable (K : PySem.W.Frag) (w : Wd) (H : Hp)
mutual
def RV : D → V → Prop
  | .non, v => v = .non
  | .bl b, v => v = .bl b
  | .int i, v => v = .int i
  | .str x, v => v = .str x
  | .tup l, v => ∃ a vs, v = .ref a ∧ SqT K H a vs ∧ RVs l vs
  | .lst l, v => ∃ a vs, v = .ref a ∧ w.φ a ∧ H a = some (.lst vs) ∧ RVs l vs
  | .scr l, v => ∃ a, v = .ref a ∧ SqF K w H a (l.map V.int)
  | .ref n, v => ∃ a, v = .ref a ∧ w.ι[n]? = some a
  | .fn x, v => v = .ref (He.ga K x)
def RVs : List D → List V → Prop
  | [], vs => vs = []
  | d :: ds, vs => ∃ v r, vs = v :: r ∧ RV d v ∧ RVs ds r
end
def RFs : List (Str × D) → List (Str × V) → Prop
  | [], vs => vs = []
  | p :: ps, vs => ∃ v r, vs = (p.1, v) :: r ∧ RV K w H p.2 v ∧ RFs ps r
def ObR (a : Addr) : Ob → Prop
  | .lst l => ∃ vs, H a = some (.lst vs) ∧ RVs K w H l vs
  | .ins C fs => ∃ dx vs, H a = some (.ins (He.ga K C) dx vs) ∧ RFs K w H fs vs
  | .dead => True
structure RS (μ : Store) : Prop where
  len : w.ι.length = μ.length
  nd : w.ι.Nodup
  dj : ∀ (n : Nat) (a : Addr), w.ι[n]? = some a → w.φ a → μ[n]? = some .dead
  tr : ∀ a, w.φ a → ∃ u, H a = some u
  ti : ∀ a ∈ w.ι, ∃ u, H a = some u ∧ ∀ xs, u ≠ .tup xs ∧ ∀ o v, u ≠ .frz o v
  ob : ∀ (n : Nat) (a : Addr) (o : Ob), w.ι[n]? = some a → μ[n]? = some o → ObR K w H a o
structure RSt (σ : L2.St) (ρ : Env) : Prop where
  len : σ.length = ρ.length
  at_ : ∀ (i : Nat) (d : D), ρ[i]? = some (some d) → ∃ v, σ[i]? = some (some v) ∧ RV K w H d v
end
/-- later: more objects, the same tuples and frozen lists -/
structure Ext0 (K : PySem.W.Frag) (w : Wd) (H : Hp) (w' : Wd) (H' : Hp) : Prop where
  ι : w.ι <+: w'.ι
  φ : ∀ a, w.φ a → w'.φ a
  t : ∀ a xs, SqT K H a xs → SqT K H' a xs
  f : ∀ a u, w.φ a → H a = some u → H' a = some u
/-- .. and what is not of the store as it was -/
structure Ext (K : PySem.W.Frag) (w : Wd) (H : Hp) (w' : Wd) (H' : Hp) : Prop extends Ext0 K w H w' H' where
  o : ∀ a u, a ∉ w.ι → H a = some u → H' a = some u ∧ a ∉ w'.ι ∧ (w'.φ a → w.φ a)
section
variable {K : PySem.W.Frag} {w w' w'' : Wd} {H H' H'' : Hp} {μ : Store} {σ : L2.St} {ρ : Env}
theorem Ext.refl : Ext K w H w H := ⟨⟨List.prefix_rfl, fun _ h => h, fun _ _ h => h, fun _ _ _ h => h⟩, fun _ _ h e => ⟨e, h, id⟩⟩
theorem Ext.trans (a : Ext K w H w' H') (b : Ext K w' H' w'' H'') : Ext K w H w'' H'' :=
  ⟨⟨a.ι.trans b.ι, fun x h => b.φ x (a.φ x h), fun x xs h => b.t x xs (a.t x xs h), fun x u h e => b.f x u (a.φ x h) (a.f x u h e)⟩, fun x u h e => let ⟨p, q, r⟩ := a.o x u h e; let ⟨p', q', r'⟩ := b.o x u q p; ⟨p', q', fun z => r (r' z)⟩⟩
theorem prefix_at {α : Type} {l m : List α} {n : Nat} {a : α} (h : l <+: m) (e : l[n]? = some a) : m[n]? = some a := by
  obtain ⟨t, rfl⟩ := h
  obtain ⟨hn, _⟩ := List.getElem?_eq_some_iff.mp e
  rw [List.getElem?_append_left hn]; exact e
theorem SqF.ext {a : Addr} {xs : List V} (x : Ext0 K w H w' H') (h : SqF K w H a xs) : SqF K w' H' a xs := by
  rcases h with ⟨p, h⟩ | h
  · refine .inl ⟨x.φ a p, ?_⟩
    rcases h with h | ⟨o, h⟩
    · exact .inl (x.f a _ p h)
    · exact .inr ⟨o, x.f a _ p h⟩
  · exact .inr h
mutual
theorem RV.ext (x : Ext0 K w H w' H') : ∀ (d : D) (v : V), RV K w H d v → RV K w' H' d v
  | .non, v, h => by unfold RV at h ⊢; exact h
  | .bl b, v, h => by unfold RV at h ⊢; exact h
  | .int i, v, h => by unfold RV at h ⊢; exact h
  | .str s, v, h => by unfold RV at h ⊢; exact h
  | .tup l, v, h => by
    unfold RV at h ⊢
    obtain ⟨a, vs, e, q, r⟩ := h
    exact ⟨a, vs, e, x.t a vs q, RVs.ext x l vs r⟩
  | .lst l, v, h => by
    unfold RV at h ⊢
    obtain ⟨a, vs, e, p, q, r⟩ := h
    exact ⟨a, vs, e, x.φ a p, x.f a _ p q, RVs.ext x l vs r⟩
  | .scr l, v, h => by
    unfold RV at h ⊢
    obtain ⟨a, e, q⟩ := h
    exact ⟨a, e, q.ext x⟩
  | .ref n, v, h => by
    unfold RV at h ⊢
    obtain ⟨a, e, q⟩ := h
    exact ⟨a, e, prefix_at x.ι q⟩
  | .fn s, v, h => by unfold RV at h ⊢; exact h
theorem RVs.ext (x : Ext0 K w H w' H') : ∀ (l : List D) (vs : List V), RVs K w H l vs → RVs K w' H' l vs
  | [], vs, h => by unfold RVs at h ⊢; exact h
  | d :: ds, vs, h => by
    unfold RVs at h ⊢
    obtain ⟨v, r, e, p, q⟩ := h
    exact ⟨v, r, e, RV.ext x d v p, RVs.ext x ds r q⟩
end
theorem RFs.ext (x : Ext0 K w H w' H') : ∀ (l : List (Str × D)) (vs : List (Str × V)), RFs K w H l vs → RFs K w' H' l vs
  | [], vs, h => h
  | p :: ps, vs, h => by
    obtain ⟨v, r, e, q, t⟩ := h
    exact ⟨v, r, e, q.ext x, RFs.ext x ps r t⟩
theorem RSt.ext (x : Ext0 K w H w' H') (h : RSt K w H σ ρ) : RSt K w' H' σ ρ :=
  ⟨h.len, fun i d e => let ⟨v, a, b⟩ := h.at_ i d e; ⟨v, a, b.ext x⟩⟩
/-! lists of data -/
theorem RVs.nil {vs : List V} (h : RVs K w H [] vs) : vs = [] := by unfold RVs at h; exact h
theorem RVs.mk_nil : RVs K w H [] [] := by unfold RVs; rfl
theorem RVs.cons {d : D} {ds : List D} {v : V} {vs : List V} (h : RV K w H d v) (t : RVs K w H ds vs) : RVs K w H (d :: ds) (v :: vs) := by unfold RVs; exact ⟨v, vs, rfl, h, t⟩
theorem RVs.uncons {d : D} {ds : List D} {vs : List V} (h : RVs K w H (d :: ds) vs) : ∃ v r, vs = v :: r ∧ RV K w H d v ∧ RVs K w H ds r := by unfold RVs at h; exact h
theorem RVs.length : ∀ {ds : List D} {vs : List V}, RVs K w H ds vs → ds.length = vs.length
  | [], vs, h => by rw [h.nil]; rfl
  | d :: ds, vs, h => by
    obtain ⟨v, r, rfl, _, t⟩ := h.uncons
    simp [RVs.length t]
theorem RVs.get : ∀ {ds : List D} {vs : List V} {i : Nat} {d : D}, RVs K w H ds vs → ds[i]? = some d → ∃ v, vs[i]? = some v ∧ RV K w H d v
  | [], vs, i, d, h, e => by simp at e
  | d0 :: ds, vs, i, d, h, e => by
    obtain ⟨v, r, rfl, p, t⟩ := h.uncons
    cases i with
    | zero => simp at e; subst e; exact ⟨v, rfl, p⟩
    | succ i => exact RVs.get (ds := ds) (i := i) t (by simpa using e)
theorem RVs.set : ∀ {ds : List D} {vs : List V} (i : Nat) {d : D} {v : V}, RVs K w H ds vs → RV K w H d v → RVs K w H (ds.set i d) (vs.set i v)
  | [], vs, i, d, v, h, q => by rw [h.nil]; simp only [List.set_nil]; exact .mk_nil
  | d0 :: ds, vs, i, d, v, h, q => by
    obtain ⟨v0, r, rfl, p, t⟩ := h.uncons
    cases i with
    | zero => exact .cons q t
    | succ i => exact .cons p (RVs.set i t q)
theorem RVs.append : ∀ {ds es : List D} {vs us : List V}, RVs K w H ds vs → RVs K w H es us → RVs K w H (ds ++ es) (vs ++ us)
  | [], es, vs, us, h, g => by rw [h.nil]; exact g
  | d :: ds, es, vs, us, h, g => by
    obtain ⟨v, r, rfl, p, t⟩ := h.uncons
    exact .cons p (RVs.append t g)
theorem RVs.take : ∀ {ds : List D} {vs : List V} (n : Nat), RVs K w H ds vs → RVs K w H (ds.take n) (vs.take n)
  | _, _, 0, _ => .mk_nil
  | [], vs, n + 1, h => by rw [h.nil]; exact .mk_nil
  | d :: ds, vs, n + 1, h => by
    obtain ⟨v, r, rfl, p, t⟩ := h.uncons
    exact .cons p (RVs.take n t)
theorem RVs.drop : ∀ {ds : List D} {vs : List V} (n : Nat), RVs K w H ds vs → RVs K w H (ds.drop n) (vs.drop n)
  | _, _, 0, h => h
  | [], vs, n + 1, h => by rw [h.nil]; exact .mk_nil
  | d :: ds, vs, n + 1, h => by
    obtain ⟨v, r, rfl, p, t⟩ := h.uncons
    exact RVs.drop n t
theorem RVs.reverse : ∀ {ds : List D} {vs : List V}, RVs K w H ds vs → RVs K w H ds.reverse vs.reverse
  | [], vs, h => by rw [h.nil]; exact .mk_nil
  | d :: ds, vs, h => by
    obtain ⟨v, r, rfl, p, t⟩ := h.uncons
    rw [List.reverse_cons, List.reverse_cons]
    exact (RVs.reverse t).append (.cons p .mk_nil)
theorem RVs.dropLast : ∀ {ds : List D} {vs : List V}, RVs K w H ds vs → RVs K w H ds.dropLast vs.dropLast := fun {ds vs} h => by
  rw [List.dropLast_eq_take, List.dropLast_eq_take, h.length]; exact h.take _
theorem RVs.rep {ds : List D} {vs : List V} (h : RVs K w H ds vs) : ∀ k : Nat, RVs K w H (List.replicate k ds).flatten (List.replicate k vs).flatten
  | 0 => .mk_nil
  | k + 1 => by
    rw [List.replicate_succ, List.replicate_succ, List.flatten_cons, List.flatten_cons]
    exact h.append (RVs.rep h k)
theorem RVs.ints : ∀ l : List Int, RVs K w H (l.map D.int) (l.map V.int)
  | [] => .mk_nil
  | i :: l => .cons (by unfold RV; rfl) (RVs.ints l)
theorem RVs.cut {ds : List D} {vs : List V} (h : RVs K w H ds vs) (lo hi : Option Int) : RVs K w H (IL.cut ds lo hi) (cutV vs lo hi) := by
  unfold IL.cut cutV; rw [h.length]; exact (h.drop _).take _
theorem RVs.atI {ds : List D} {vs : List V} {i : Int} {d : D} (h : RVs K w H ds vs) (e : L2.atI ds i = some d) : ∃ v, L2.atI vs i = some v ∧ RV K w H d v := by
  unfold L2.atI at e ⊢
  rw [← h.length]
  cases q : ixN ds.length i with
  | none => rw [q] at e; cases e
  | some j => rw [q] at e; exact h.get e
/-! the store -/
theorem RS.get {n : Nat} {a : Addr} {l : List D} (S : RS K w H μ) (hi : w.ι[n]? = some a) (hm : μ[n]? = some (.lst l)) : ∃ vs, H a = some (.lst vs) ∧ RVs K w H l vs := S.ob n a _ hi hm
theorem RS.addr {n : Nat} {o : Ob} (S : RS K w H μ) (hm : μ[n]? = some o) : ∃ a, w.ι[n]? = some a := by
  obtain ⟨hn, _⟩ := List.getElem?_eq_some_iff.mp hm
  exact ⟨w.ι[n]'(by rw [S.len]; exact hn), List.getElem?_eq_getElem _⟩
theorem seqL_ok {x : D} {v : V} {l : List D} (S : RS K w H μ) (r : RV K w H x v) (e : seqL μ x = some l) : ∃ a vs, v = .ref a ∧ SqL K H a vs ∧ RVs K w H l vs ∧ ((∀ m, x ≠ .scr m) → H a = some (.lst vs)) := by
  cases x with
  | lst m =>
    unfold seqL at e; cases e
    unfold RV at r
    obtain ⟨a, vs, e1, p, q, t⟩ := r
    exact ⟨a, vs, e1, .of q, t, fun _ => q⟩
  | scr m =>
    unfold seqL at e; cases e
    unfold RV at r
    obtain ⟨a, e1, q⟩ := r
    exact ⟨a, _, e1, q.sq, RVs.ints m, fun z => absurd rfl (z m)⟩
  | ref n =>
    have e : (match μ[n]? with | some (.lst l) => some l | _ => none) = some l := e
    unfold RV at r
    obtain ⟨a, e1, q⟩ := r
    cases hm : μ[n]? with
    | none => rw [hm] at e; cases e
    | some o =>
      rw [hm] at e
      cases o with
      | lst m =>
        cases e
        obtain ⟨vs, h1, h2⟩ := S.get q hm
        exact ⟨a, vs, e1, .of h1, h2, fun _ => h1⟩
      | ins _ _ => cases e
      | dead => cases e
  | _ => cases e
theorem seqA_ok {x : D} {v : V} {l : List D} (S : RS K w H μ) (r : RV K w H x v) (e : seqA μ x = some l) :
    ∃ a vs, v = .ref a ∧ RVs K w H l vs ∧ ((∃ m, x = .tup m) ∧ SqT K H a vs ∨ (∀ m, x ≠ .tup m) ∧ seqL μ x = some l ∧ SqL K H a vs) := by
  cases x with
  | tup m =>
    unfold seqA at e; cases e
    unfold RV at r
    obtain ⟨a, vs, e1, q, t⟩ := r
    exact ⟨a, vs, e1, t, .inl ⟨⟨_, rfl⟩, q⟩⟩
  | non => unfold seqA seqL at e; cases e
  | bl b => unfold seqA seqL at e; cases e
  | int b => unfold seqA seqL at e; cases e
  | str b => unfold seqA seqL at e; cases e
  | fn b => unfold seqA seqL at e; cases e
  | lst m => obtain ⟨a, vs, e1, q, t, _⟩ := seqL_ok S r (show seqL μ _ = _ from e); exact ⟨a, vs, e1, t, .inr ⟨fun _ => D.noConfusion, e, q⟩⟩
  | scr m => obtain ⟨a, vs, e1, q, t, _⟩ := seqL_ok S r (show seqL μ _ = _ from e); exact ⟨a, vs, e1, t, .inr ⟨fun _ => D.noConfusion, e, q⟩⟩
  | ref n => obtain ⟨a, vs, e1, q, t, _⟩ := seqL_ok S r (show seqL μ _ = _ from e); exact ⟨a, vs, e1, t, .inr ⟨fun _ => D.noConfusion, e, q⟩⟩
/-- heaps that grow by one -/
theorem sqT_upd {p a : Addr} {o : HO} {xs : List V} (hp : H p = none) (h : SqT K H a xs) : SqT K (upd H p o) a xs := by
  rcases h with h | h
  · refine .inl ?_
    rcases h with h | ⟨ob, h⟩
    · exact .inl (by rw [upd_ne (ne_of_none h hp)]; exact h)
    · exact .inr ⟨ob, by rw [upd_ne (ne_of_none h hp)]; exact h⟩
  · exact .inr h
theorem Ext.new {p : Addr} {o : HO} {ι' : List Addr} {φ' : Addr → Prop} (hp : H p = none) (hι : w.ι <+: ι') (hφ : ∀ a, w.φ a → φ' a) (hn : ∀ a ∈ ι', a ∈ w.ι ∨ a = p := by exact fun a h => .inl h) (hf : ∀ a, φ' a → w.φ a ∨ a = p := by exact fun a h => .inl h) : Ext K w H ⟨ι', φ'⟩ (upd H p o) :=
  ⟨⟨hι, hφ, fun a xs h => sqT_upd hp h, fun a u _ e => by rw [upd_ne (ne_of_none e hp)]; exact e⟩, fun a u h e => ⟨by rw [upd_ne (ne_of_none e hp)]; exact e, fun z => (hn a z).elim h (fun q => absurd e (by rw [q, hp]; exact fun z => nomatch z)), fun z => (hf a z).elim id (fun q => absurd e (by rw [q, hp]; exact fun z => nomatch z))⟩⟩
theorem mem_own {p : Addr} : ∀ a ∈ w.ι ++ [p], a ∈ w.ι ∨ a = p := fun a h => by simpa using h
theorem ObR.ext {a : Addr} {o : Ob} (x : Ext0 K w H w' H') (k : ∀ u, H a = some u → H' a = some u) (h : ObR K w H a o) : ObR K w' H' a o := by
  cases o with
  | lst l => obtain ⟨vs, e, q⟩ := h; exact ⟨vs, k _ e, q.ext x⟩
  | ins C fs => obtain ⟨dx, vs, e, q⟩ := h; exact ⟨dx, vs, k _ e, RFs.ext x _ _ q⟩
  | dead => trivial
/-- a new tuple: nothing else changes -/
theorem RS.keep {p : Addr} {o : HO} (S : RS K w H μ) (hp : H p = none) : RS K w (upd H p o) μ :=
  have x : Ext K w H w (upd H p o) := Ext.new hp List.prefix_rfl fun _ h => h
  have k : ∀ a u, H a = some u → upd H p o a = some u := fun a u e => by rw [upd_ne (ne_of_none e hp)]; exact e
  ⟨S.len, S.nd, S.dj, fun a h => let ⟨u, e⟩ := S.tr a h; ⟨u, k a u e⟩, fun a h => let ⟨u, e, q⟩ := S.ti a h; ⟨u, k a u e, q⟩, fun n a ob h1 h2 => (S.ob n a ob h1 h2).ext x.toExt0 (k a)⟩
/-- a new frozen list -/
theorem RS.froze {p : Addr} {o : HO} (S : RS K w H μ) (hp : H p = none) : RS K ⟨w.ι, fun a => w.φ a ∨ a = p⟩ (upd H p o) μ := by
  have x : Ext K w H ⟨w.ι, fun a => w.φ a ∨ a = p⟩ (upd H p o) := Ext.new hp List.prefix_rfl (fun _ h => .inl h) (fun _ h => .inl h) (fun _ h => h)
  have k : ∀ a u, H a = some u → upd H p o a = some u := fun a u e => by rw [upd_ne (ne_of_none e hp)]; exact e
  refine ⟨S.len, S.nd, fun n a h q => ?_, fun a h => ?_, fun a h => ?_, fun n a ob h1 h2 => (S.ob n a ob h1 h2).ext x.toExt0 (k a)⟩
  · rcases q with q | z
    · exact S.dj n a h q
    · obtain ⟨u, e, _⟩ := S.ti a (List.mem_of_getElem? h)
      rw [z, hp] at e; cases e
  · rcases h with z | z
    · obtain ⟨u, e⟩ := S.tr a z
      exact ⟨u, k a u e⟩
    · exact ⟨o, by rw [z, upd_same]⟩
  · obtain ⟨u, e, q⟩ := S.ti a h
    exact ⟨u, k a u e, q⟩
/-- a new object of the store -/
theorem RS.own {p : Addr} {o : HO} {ob : Ob} (S : RS K w H μ) (hp : H p = none) (ho : ∀ xs, o ≠ .tup xs ∧ ∀ q v, o ≠ .frz q v) (h : ObR K ⟨w.ι ++ [p], w.φ⟩ (upd H p o) p ob) : RS K ⟨w.ι ++ [p], w.φ⟩ (upd H p o) (μ ++ [ob]) := by
  have x : Ext K w H ⟨w.ι ++ [p], w.φ⟩ (upd H p o) := Ext.new hp (List.prefix_append _ _) (fun _ h => h) mem_own
  have k : ∀ a u, H a = some u → upd H p o a = some u := fun a u e => by rw [upd_ne (ne_of_none e hp)]; exact e
  have np : p ∉ w.ι := fun z => by
    obtain ⟨u, e, _⟩ := S.ti p z
    rw [hp] at e; cases e
  refine ⟨by simp [S.len], ?_, fun n a h q => ?_, fun a h => ?_, fun a h => ?_, fun n a ob' h1 h2 => ?_⟩
  · rw [List.nodup_append]
    refine ⟨S.nd, by simp, fun a ha b hb => ?_⟩
    have e : b = p := by simpa using hb
    rw [e]; exact fun z => np (z ▸ ha)
  · have q' : w.φ a := q
    by_cases hn : n < μ.length
    · rw [List.getElem?_append_left hn]
      have h' : (w.ι ++ [p])[n]? = some a := h
      rw [List.getElem?_append_left (by rw [S.len]; exact hn)] at h'
      exact S.dj n a h' q'
    · have h' : (w.ι ++ [p])[n]? = some a := h
      rw [List.getElem?_append_right (by rw [S.len]; omega)] at h'
      have e : a = p := by simpa using List.mem_of_getElem? h'
      obtain ⟨u, e2⟩ := S.tr a q'
      rw [e, hp] at e2; cases e2
  · obtain ⟨u, e⟩ := S.tr a h
    exact ⟨u, k a u e⟩
  · rcases List.mem_append.mp h with z | z
    · obtain ⟨u, e, q⟩ := S.ti a z
      exact ⟨u, k a u e, q⟩
    · have e : a = p := by simpa using z
      rw [e]; exact ⟨o, upd_same, ho⟩
  · have h1' : (w.ι ++ [p])[n]? = some a := h1
    by_cases hn : n < μ.length
    · rw [List.getElem?_append_left hn] at h2
      rw [List.getElem?_append_left (by rw [S.len]; exact hn)] at h1'
      exact (S.ob n a ob' h1' h2).ext x.toExt0 (k a)
    · rw [List.getElem?_append_right (by omega)] at h2
      rw [List.getElem?_append_right (by rw [S.len]; omega)] at h1'
      obtain ⟨hz, e2⟩ := List.getElem?_eq_some_iff.mp h2
      have z : n - μ.length = 0 := by simp at hz; omega
      rw [z] at h2
      rw [S.len, z] at h1'
      cases h1'; cases h2
      exact h
/-- an object of the store is written -/
theorem RS.write {n : Nat} {a : Addr} {o u : HO} {ob ob0 : Ob} (S : RS K w H μ) (hi : w.ι[n]? = some a) (h0 : μ[n]? = some ob0) (hd : ob0 ≠ .dead) (hu : H a = some u) (ho : ∀ xs, o ≠ .tup xs ∧ ∀ q v, o ≠ .frz q v) (h : ∀ w', Ext K w H w' (upd H a o) → ObR K w' (upd H a o) a ob) :
    RS K w (upd H a o) (μ.set n ob) ∧ Ext K w H w (upd H a o) := by
  have ha : a ∈ w.ι := List.mem_of_getElem? hi
  have nf : ¬ w.φ a := fun p => by
    have q := S.dj n a hi p
    rw [h0] at q
    exact hd (Option.some.inj q)
  obtain ⟨u', hu', nt⟩ := S.ti a ha
  rw [hu] at hu'; cases hu'
  have x : Ext K w H w (upd H a o) := ⟨⟨List.prefix_rfl, fun _ h => h, fun b xs q => by
    rcases q with q | q
    · refine .inl ?_
      rcases q with q | ⟨oo, q⟩
      · exact .inl (by rw [upd_ne (fun z => by rw [z, hu] at q; exact (nt xs).1 (Option.some.inj q))]; exact q)
      · exact .inr ⟨oo, by rw [upd_ne (fun z => by rw [z, hu] at q; exact (nt xs).2 _ _ (Option.some.inj q))]; exact q⟩
    · exact .inr q, fun b v p e => by
      have hb : b ≠ a := fun z => by rw [z] at p; exact nf p
      rw [upd_ne hb]; exact e⟩, fun b v p e => ⟨by rw [upd_ne (fun z => by rw [z] at p; exact p ha)]; exact e, p, id⟩⟩
  refine ⟨⟨by simp [S.len], S.nd, fun m b h1 p => ?_, fun b hb => ?_, fun b hb => ?_, fun m b ob' h1 h2 => ?_⟩, x⟩
  · by_cases z : n = m
    · subst z
      rw [hi] at h1; cases h1
      exact absurd p nf
    · rw [List.getElem?_set_ne z]; exact S.dj m b h1 p
  · obtain ⟨v, e⟩ := S.tr b hb
    have hne : b ≠ a := fun z => by rw [z] at hb; exact nf hb
    exact ⟨v, by rw [upd_ne hne]; exact e⟩
  · by_cases z : b = a
    · rw [z]; exact ⟨o, upd_same, ho⟩
    · obtain ⟨v, e, q⟩ := S.ti b hb
      exact ⟨v, by rw [upd_ne z]; exact e, q⟩
  · by_cases z : m = n
    · subst z
      rw [hi] at h1; cases h1
      have hl : m < μ.length := by rw [← S.len]; exact (List.getElem?_eq_some_iff.mp hi).1
      rw [List.getElem?_set_self hl] at h2; cases h2
      exact h w x
    · rw [List.getElem?_set_ne (Ne.symm z)] at h2
      have hb : b ≠ a := fun e => z (by
        subst e
        obtain ⟨p1, q1⟩ := List.getElem?_eq_some_iff.mp h1
        obtain ⟨p2, q2⟩ := List.getElem?_eq_some_iff.mp hi
        exact (List.getElem_inj S.nd).mp (q1.trans q2.symm))
      exact (S.ob m b ob' h1 h2).ext x.toExt0 fun v e => by rw [upd_ne hb]; exact e
/-- an object of the store is frozen -/
theorem RS.freeze {n : Nat} {a : Addr} {u : HO} (S : RS K w H μ) (hi : w.ι[n]? = some a) (hu : H a = some u) :
    RS K ⟨w.ι, fun b => w.φ b ∨ b = a⟩ H (μ.set n .dead) ∧ Ext K w H ⟨w.ι, fun b => w.φ b ∨ b = a⟩ H := by
  have x : Ext K w H ⟨w.ι, fun b => w.φ b ∨ b = a⟩ H := ⟨⟨List.prefix_rfl, fun _ h => .inl h, fun _ _ h => h, fun _ _ _ h => h⟩, fun b _ h e => ⟨e, h, fun z => z.elim id fun q => absurd (List.mem_of_getElem? hi) (q ▸ h)⟩⟩
  have hl : n < μ.length := by rw [← S.len]; exact (List.getElem?_eq_some_iff.mp hi).1
  refine ⟨⟨by simp [S.len], S.nd, fun m b h1 p => ?_, fun b hb => ?_, S.ti, fun m b ob' h1 h2 => ?_⟩, x⟩
  · by_cases z : n = m
    · subst z; rw [List.getElem?_set_self hl]
    · rw [List.getElem?_set_ne z]
      refine S.dj m b h1 (p.elim id fun e => absurd ?_ z)
      subst e
      obtain ⟨p1, q1⟩ := List.getElem?_eq_some_iff.mp h1
      obtain ⟨p2, q2⟩ := List.getElem?_eq_some_iff.mp hi
      exact (List.getElem_inj S.nd).mp (q2.trans q1.symm)
  · exact hb.elim (S.tr b) fun z => ⟨u, by rw [z]; exact hu⟩
  · by_cases z : n = m
    · subst z
      rw [List.getElem?_set_self hl] at h2; cases h2
      trivial
    · rw [List.getElem?_set_ne z] at h2
      exact (S.ob m b ob' h1 h2).ext x.toExt0 fun _ e => e
/-- an object of nobody's is written: a list that is being made -/
theorem out_ext0 {p : Addr} {o : HO} {vs : List V} (hp : H p = some (.lst vs)) (nf : ¬ w.φ p) : Ext0 K w H w (upd H p o) :=
  ⟨List.prefix_rfl, fun _ h => h, fun b xs q => by
    rcases q with q | q
    · refine .inl ?_
      rcases q with q | ⟨oo, q⟩
      · exact .inl (by rw [upd_ne (fun z => by rw [z, hp] at q; cases q)]; exact q)
      · exact .inr ⟨oo, by rw [upd_ne (fun z => by rw [z, hp] at q; cases q)]; exact q⟩
    · exact .inr q, fun b v q e => by rw [upd_ne (fun z => by rw [z] at q; exact nf q)]; exact e⟩
theorem RS.out {p : Addr} {o : HO} {vs : List V} (S : RS K w H μ) (hp : H p = some (.lst vs)) (nf : ¬ w.φ p) (ni : p ∉ w.ι) : RS K w (upd H p o) μ := by
  have x := out_ext0 (K := K) (o := o) hp nf
  refine ⟨S.len, S.nd, S.dj, fun a h => ?_, fun a h => ?_, fun n a ob h1 h2 => ?_⟩
  · obtain ⟨u, e⟩ := S.tr a h
    exact ⟨u, by rw [upd_ne (fun z => by rw [z] at h; exact nf h)]; exact e⟩
  · obtain ⟨u, e, q⟩ := S.ti a h
    exact ⟨u, by rw [upd_ne (fun z => by rw [z] at h; exact ni h)]; exact e, q⟩
  · have na : a ≠ p := fun z => ni (z ▸ List.mem_of_getElem? h1)
    exact (S.ob n a ob h1 h2).ext x fun u e => by rw [upd_ne na]; exact e
theorem Ext.out {p : Addr} {o : HO} {vs : List V} (x : Ext K w H w' H') (hn : H p = none) (hp : H' p = some (.lst vs)) (nf : ¬ w'.φ p) (nt : ∀ xs, o ≠ .tup xs) : Ext K w H w' (upd H' p o) :=
  have y := out_ext0 (K := K) (w := w') (o := o) hp nf
  ⟨⟨x.ι, x.φ, fun a xs h => y.t a xs (x.t a xs h), fun a u h e => y.f a u (x.φ a h) (x.f a u h e)⟩, fun a u h e => ⟨by rw [upd_ne (ne_of_none e hn)]; exact (x.o a u h e).1, (x.o a u h e).2⟩⟩
theorem Ext.take {p : Addr} (x : Ext K w H w' H') (hn : H p = none) : Ext K w H ⟨w'.ι ++ [p], w'.φ⟩ H' :=
  ⟨⟨x.ι.trans (List.prefix_append _ _), x.φ, x.t, x.f⟩, fun a u h e => let ⟨p1, p2, p3⟩ := x.o a u h e; ⟨p1, fun z => (mem_own a z).elim p2 (fun q => absurd e (by rw [q, hn]; exact fun z => nomatch z)), p3⟩⟩
theorem Ext.takeF {p : Addr} (x : Ext K w H w' H') (hn : H p = none) : Ext K w H ⟨w'.ι, fun a => w'.φ a ∨ a = p⟩ H' :=
  ⟨⟨x.ι, fun a h => .inl (x.φ a h), x.t, x.f⟩, fun a u h e => let ⟨p1, p2, p3⟩ := x.o a u h e; ⟨p1, p2, fun z => z.elim p3 (fun q => absurd e (by rw [q, hn]; exact fun z => nomatch z))⟩⟩
/-- a made list is taken over -/
theorem RS.take {p : Addr} {l : List D} {vs : List V} (S : RS K w H μ) (hp : H p = some (.lst vs)) (nf : ¬ w.φ p) (ni : p ∉ w.ι) (q : RVs K w H l vs) : RS K ⟨w.ι ++ [p], w.φ⟩ H (μ ++ [.lst l]) := by
  have x : Ext0 K w H ⟨w.ι ++ [p], w.φ⟩ H := ⟨List.prefix_append _ _, fun _ h => h, fun _ _ h => h, fun _ _ _ h => h⟩
  refine ⟨by simp [S.len], ?_, fun n a h p1 => ?_, S.tr, fun a h => ?_, fun n a ob h1 h2 => ?_⟩
  · rw [List.nodup_append]
    refine ⟨S.nd, by simp, fun a ha b hb => ?_⟩
    have e : b = p := by simpa using hb
    rw [e]; exact fun z => ni (z ▸ ha)
  · have p2 : w.φ a := p1
    have h' : (w.ι ++ [p])[n]? = some a := h
    by_cases hn : n < μ.length
    · rw [List.getElem?_append_left hn]
      rw [List.getElem?_append_left (by rw [S.len]; exact hn)] at h'
      exact S.dj n a h' p2
    · rw [List.getElem?_append_right (by rw [S.len]; omega)] at h'
      have e : a = p := by simpa using List.mem_of_getElem? h'
      rw [e] at p2; exact absurd p2 nf
  · rcases List.mem_append.mp h with z | z
    · exact S.ti a z
    · have e : a = p := by simpa using z
      rw [e]; exact ⟨_, hp, fun xs => ⟨by simp, by simp⟩⟩
  · have h' : (w.ι ++ [p])[n]? = some a := h1
    by_cases hn : n < μ.length
    · rw [List.getElem?_append_left hn] at h2
      rw [List.getElem?_append_left (by rw [S.len]; exact hn)] at h'
      exact (S.ob n a ob h' h2).ext x fun _ e => e
    · rw [List.getElem?_append_right (by omega)] at h2
      rw [List.getElem?_append_right (by rw [S.len]; omega)] at h'
      obtain ⟨hz, e2⟩ := List.getElem?_eq_some_iff.mp h2
      have z : n - μ.length = 0 := by simp at hz; omega
      rw [z] at h2
      rw [S.len, z] at h'
      cases h'; cases h2
      exact ⟨vs, hp, q.ext x⟩
theorem RS.takeF {p : Addr} {vs : List V} (S : RS K w H μ) (hp : H p = some (.lst vs)) (ni : p ∉ w.ι) : RS K ⟨w.ι, fun a => w.φ a ∨ a = p⟩ H μ := by
  have x : Ext0 K w H ⟨w.ι, fun a => w.φ a ∨ a = p⟩ H := ⟨List.prefix_rfl, fun _ h => .inl h, fun _ _ h => h, fun _ _ _ h => h⟩
  refine ⟨S.len, S.nd, fun n a h q => ?_, fun a h => ?_, S.ti, fun n a ob h1 h2 => (S.ob n a ob h1 h2).ext x fun _ e => e⟩
  · rcases q with q | z
    · exact S.dj n a h q
    · rw [z] at h
      exact absurd (List.mem_of_getElem? h) ni
  · rcases h with z | z
    · exact S.tr a z
    · rw [z]; exact ⟨_, hp⟩
theorem RSt.set {i : Nat} {d : D} {v : V} (h : RSt K w H σ ρ) (r : RV K w H d v) : RSt K w H (σ.set i (some v)) (ρ.set i (some d)) :=
  ⟨by simp [h.len], fun j e hj => by
    by_cases z : i = j
    · subst z
      by_cases hl : i < ρ.length
      · rw [List.getElem?_set_self hl] at hj; cases hj
        exact ⟨v, by rw [List.getElem?_set_self (by rw [h.len]; exact hl)], r⟩
      · rw [List.getElem?_eq_none (by simpa using hl)] at hj; cases hj
    · rw [List.getElem?_set_ne z] at hj
      rw [List.getElem?_set_ne z]
      exact h.at_ j e hj⟩
theorem RSt.unset {i : Nat} (h : RSt K w H σ ρ) : RSt K w H (σ.set i none) (ρ.set i none) :=
  ⟨by simp [h.len], fun j e hj => by
    by_cases z : i = j
    · subst z
      by_cases hl : i < ρ.length
      · rw [List.getElem?_set_self hl] at hj; cases hj
      · rw [List.getElem?_eq_none (by simpa using hl)] at hj; cases hj
    · rw [List.getElem?_set_ne z] at hj
      rw [List.getElem?_set_ne z]
      exact h.at_ j e hj⟩
theorem RSt.wipe (h : RSt K w H σ ρ) : ∀ vs : List Nat, RSt K w H (L2.wipe σ vs) (wipeD ρ vs)
  | [] => h
  | v :: vs => (RSt.wipe h vs).unset
end
end IL

/-! operations on data are Python's -/
namespace IL
open PySem PySem.Spec PyProof.Rows L2

section
variable {Q Q' : DQ} {own : Bool} {μ : Store}
theorem newL.mono {l : List D} (h : ∀ d μ, Q d μ → Q' d μ) (q : newL own l μ Q) : newL own l μ Q' := by
  unfold newL at *
  refine ⟨q.1, ?_⟩
  split
  · rename_i c; rw [if_pos c] at q; exact h _ _ q.2
  · rename_i c; rw [if_neg c] at q; exact h _ _ q.2
theorem bopS.mono {o : Bop} {x y : D} (h : ∀ d μ, Q d μ → Q' d μ) (q : bopS own o x y μ Q) : bopS own o x y μ Q' := by
  revert q
  unfold bopS
  split
  · exact fun q => h _ _ q
  · exact fun q => h _ _ q
  · exact fun q => ⟨q.1, h _ _ q.2⟩
  · exact fun q => ⟨q.1, h _ _ q.2⟩
  · exact fun q => ⟨q.1, h _ _ q.2⟩
  · exact fun q => ⟨q.1, h _ _ q.2⟩
  · exact fun q => ⟨q.1, h _ _ q.2⟩
  · exact fun ⟨xs, ys, e1, e2, e3, e4, q⟩ => ⟨xs, ys, e1, e2, e3, e4, q.mono h⟩
  · exact fun ⟨xs, e1, e2, e3, e4, q⟩ => ⟨xs, e1, e2, e3, e4, q.mono h⟩
  · exact fun q => q
theorem copS.mono {c : Cop} {x y : D} (h : ∀ d μ, Q d μ → Q' d μ) (q : copS c x y μ Q) : copS c x y μ Q' := by
  cases c
  all_goals
    first
    | (obtain ⟨i, j, e1, e2, q⟩ := q; exact ⟨i, j, e1, e2, h _ _ q⟩)
    | (obtain ⟨a, b, e1, e2, e3, e4, q⟩ := q; exact ⟨a, b, e1, e2, e3, e4, h _ _ q⟩)
    | (rcases q with ⟨e, q⟩ | ⟨a, b, e1, e2, q⟩
       · exact .inl ⟨e, h _ _ q⟩
       · exact .inr ⟨a, b, e1, e2, h _ _ q⟩)
    | (obtain ⟨ys, e1, e2, e3, q⟩ := q; exact ⟨ys, e1, e2, e3, h _ _ q⟩)
theorem bfS.mono {f : Bf} {xs : List D} (h : ∀ d μ, Q d μ → Q' d μ) (q : bfS own f xs μ Q) : bfS own f xs μ Q' := by
  unfold bfS at *
  split at q
  all_goals first
    | exact h _ _ q
    | exact q.elim
    | (obtain ⟨l, e1, q⟩ := q; exact ⟨l, e1, h _ _ q⟩)
    | (obtain ⟨l, e1, q⟩ := q; exact ⟨l, e1, q.mono h⟩)
    | (obtain ⟨l, bs, e1, e2, q⟩ := q; exact ⟨l, bs, e1, e2, h _ _ q⟩)
theorem isiS.mono {t : Ty} {x : D} (h : ∀ d μ, Q d μ → Q' d μ) (q : isiS t x μ Q) : isiS t x μ Q' := by
  unfold isiS at *
  split at q
  · exact h _ _ q
  · obtain ⟨u, e, q⟩ := q
    exact ⟨u, e, h _ _ q⟩
theorem idxS.mono {x y : D} (h : ∀ d μ, Q d μ → Q' d μ) (q : idxS x y μ Q) : idxS x y μ Q' := by
  obtain ⟨l, i, d, e1, e2, e3, q⟩ := q
  exact ⟨l, i, d, e1, e2, e3, h _ _ q⟩
theorem slcS.mono {x : D} {lo hi : Option Int} (h : ∀ d μ, Q d μ → Q' d μ) (q : slcS own x lo hi μ Q) : slcS own x lo hi μ Q' := by
  unfold slcS at *
  split at q
  · exact h _ _ q
  · obtain ⟨l, e, q⟩ := q
    exact ⟨l, e, q.mono h⟩
theorem revS.mono {x : D} (h : ∀ d μ, Q d μ → Q' d μ) (q : revS own x μ Q) : revS own x μ Q' := by
  unfold revS at *
  split at q
  · exact h _ _ q
  · obtain ⟨l, e, q⟩ := q
    exact ⟨l, e, q.mono h⟩
end
/-- a def's wish grows with the ends -/
def MoS (s : Spec) : Prop := ∀ (ds : List D) (μ : Store) (Q Q' : DQ) (X X' : XQ), (∀ d μ, Q d μ → Q' d μ) → (∀ x μ, X x μ → X' x μ) → s ds μ Q X → s ds μ Q' X'
def MoE (w : WE) : Prop := ∀ (ρ : Env) (μ : Store) (Q Q' : DQ) (X X' : XQ), (∀ d μ, Q d μ → Q' d μ) → (∀ x μ, X x μ → X' x μ) → w ρ μ Q X → w ρ μ Q' X'
def MoEs (w : WEs) : Prop := ∀ (ρ : Env) (μ : Store) (Q Q' : List D → Store → Prop) (X X' : XQ), (∀ d μ, Q d μ → Q' d μ) → (∀ x μ, X x μ → X' x μ) → w ρ μ Q X → w ρ μ Q' X'
theorem tgS.mono {tg : Tg} {d : D} {ρ : Env} {Q Q' : Env → Prop} (h : ∀ ρ, Q ρ → Q' ρ) (q : tgS tg d ρ Q) : tgS tg d ρ Q' := by
  cases tg with
  | nm i => exact h _ q
  | tp is => obtain ⟨l, e1, e2, q⟩ := q; exact ⟨l, e1, e2, h _ q⟩
theorem compW.mono {tg : Tg} {t e : WE} {g : Store → Prop} {ρ : Env} (ht : MoE t) (he : MoE e) : ∀ (l acc : List D) (μ : Store) (Q Q' : List D → Store → Prop), (∀ d μ, Q d μ → Q' d μ) → compW tg (tW t) e g ρ l acc μ Q → compW tg (tW t) e g ρ l acc μ Q'
  | [], acc, μ, Q, Q', h, q => ⟨q.1, h _ _ q.2⟩
  | d :: ds, acc, μ, Q, Q', h, q => by
    refine ⟨q.1, q.2.mono fun ρ1 q1 => ht ρ1 μ _ _ _ _ (fun x μ1 q2 => ?_) (fun _ _ z => z) q1⟩
    obtain ⟨c, ec, q2⟩ := q2
    refine ⟨c, ec, ?_⟩
    cases c with
    | true => exact he ρ1 μ1 _ _ _ _ (fun y μ2 q3 => ⟨q3.1, compW.mono ht he ds _ μ2 Q Q' h q3.2⟩) (fun _ _ z => z) q2
    | false => exact compW.mono ht he ds _ μ1 Q Q' h q2
theorem itS.mono {k : ItK} {x y z : D} {μ : Store} {R R' : List D → (Store → Prop) → Prop} (h : ∀ l g, R l g → R' l g) (q : itS k x y z μ R) : itS k x y z μ R' := by
  cases k with
  | seq => obtain ⟨l, e, q⟩ := q; exact ⟨l, e, h _ _ q⟩
  | r1 => obtain ⟨j, e, e1, e2, q⟩ := q; exact ⟨j, e, e1, e2, h _ _ q⟩
  | r2 => obtain ⟨i, j, e, e1, e2, q⟩ := q; exact ⟨i, j, e, e1, e2, h _ _ q⟩
  | r3 => obtain ⟨i, j, e, e1, e2, e3, q⟩ := q; exact ⟨i, j, e, e1, e2, e3, h _ _ q⟩
  | zip => obtain ⟨l, m, e, q⟩ := q; exact ⟨l, m, e, h _ _ q⟩
theorem pW.mono {n : Bool} {e : WE} (he : MoE e) {ρ : Env} {μ : Store} {Q Q' : Option Int → Store → Prop} {X X' : XQ} (h : ∀ d μ, Q d μ → Q' d μ) (hx : ∀ x μ, X x μ → X' x μ) (q : pW n e ρ μ Q X) : pW n e ρ μ Q' X' := by
  unfold pW at *
  split
  · rename_i c; rw [if_pos c] at q; exact h _ _ q
  · rename_i c; rw [if_neg c] at q
    exact he ρ μ _ _ _ _ (fun d μ1 ⟨i, e, q⟩ => ⟨i, e, h _ _ q⟩) hx q
theorem itW.mono {k : ItK} {a b c : WE} (ha : MoE a) (hb : MoE b) (hc : MoE c) {ρ : Env} {μ : Store} {Q Q' : D → D → D → Store → Prop} {X X' : XQ} (h : ∀ x y z μ, Q x y z μ → Q' x y z μ) (hx : ∀ x μ, X x μ → X' x μ) (q : itW k a b c ρ μ Q X) : itW k a b c ρ μ Q' X' := by
  cases k with
  | seq => exact ha ρ μ _ _ _ _ (fun x μ1 q => h _ _ _ _ q) hx q
  | r1 => exact ha ρ μ _ _ _ _ (fun x μ1 q => h _ _ _ _ q) hx q
  | r2 => exact ha ρ μ _ _ _ _ (fun x μ1 q => hb ρ μ1 _ _ _ _ (fun y μ2 q => h _ _ _ _ q) hx q) hx q
  | zip => exact ha ρ μ _ _ _ _ (fun x μ1 q => hb ρ μ1 _ _ _ _ (fun y μ2 q => h _ _ _ _ q) hx q) hx q
  | r3 => exact ha ρ μ _ _ _ _ (fun x μ1 q => hb ρ μ1 _ _ _ _ (fun y μ2 q => hc ρ μ2 _ _ _ _ (fun z μ3 q => h _ _ _ _ q) hx q) hx q) hx q
section
variable {Φ : Str → Spec} {C : Str → Option D} (hΦ : ∀ f, MoS (Φ f))
include hΦ
theorem ite_mono {c : Bool} {A B A' B' : Prop} (h : A → A') (g : B → B') (q : if c = true then A else B) : if c = true then A' else B' := by
  cases c with
  | true => exact h q
  | false => exact g q
mutual
theorem wE.mono : ∀ e : E, MoE (wE Φ C e)
  | .nop => fun ρ μ Q Q' X X' h hx q => q
  | .var i => fun ρ μ Q Q' X X' h hx q => by unfold wE at *; obtain ⟨d, e, q⟩ := q; exact ⟨d, e, h _ _ q⟩
  | .int i => fun ρ μ Q Q' X X' h hx q => by unfold wE at *; exact h _ _ q
  | .bl b => fun ρ μ Q Q' X X' h hx q => by unfold wE at *; exact h _ _ q
  | .non => fun ρ μ Q Q' X X' h hx q => by unfold wE at *; exact h _ _ q
  | .str x => fun ρ μ Q Q' X X' h hx q => by unfold wE at *; exact h _ _ q
  | .glo x => fun ρ μ Q Q' X X' h hx q => by unfold wE at *; obtain ⟨d, e, q⟩ := q; exact ⟨d, e, h _ _ q⟩
  | .tup es => fun ρ μ Q Q' X X' h hx q => by unfold wE at *; exact wEs.mono es ρ μ _ _ _ _ (fun ds μ1 q => ⟨q.1, h _ _ q.2⟩) hx q
  | .lst own es => fun ρ μ Q Q' X X' h hx q => by unfold wE at *; exact wEs.mono es ρ μ _ _ _ _ (fun ds μ1 q => q.mono h) hx q
  | .bin own o a b => fun ρ μ Q Q' X X' h hx q => by
    unfold wE at *; exact wE.mono a ρ μ _ _ _ _ (fun x μ1 q => wE.mono b ρ μ1 _ _ _ _ (fun y μ2 q => q.mono h) hx q) hx q
  | .neg a => fun ρ μ Q Q' X X' h hx q => by unfold wE at *; exact wE.mono a ρ μ _ _ _ _ (fun x μ1 ⟨i, e, q⟩ => ⟨i, e, h _ _ q⟩) hx q
  | .cmp c a b => fun ρ μ Q Q' X X' h hx q => by
    unfold wE at *; exact wE.mono a ρ μ _ _ _ _ (fun x μ1 q => wE.mono b ρ μ1 _ _ _ _ (fun y μ2 q => q.mono h) hx q) hx q
  | .chn c d a b e => fun ρ μ Q Q' X X' h hx q => by
    unfold wE at *; exact wE.mono a ρ μ _ _ _ _ (fun x μ1 q => wE.mono b ρ μ1 _ _ _ _ (fun y μ2 q => q.mono fun z μ3 ⟨k, ek, q⟩ => ⟨k, ek,
      ite_mono hΦ (fun q => wE.mono e ρ μ3 _ _ _ _ (fun w μ4 q => q.mono h) hx q) (fun q => h _ _ q) q⟩) hx q) hx q
  | .and a b => fun ρ μ Q Q' X X' h hx q => by
    unfold wE at *; exact wE.mono a ρ μ _ _ _ _ (fun x μ1 ⟨c, e, q⟩ => ⟨c, e, ite_mono hΦ (fun q => wE.mono b ρ μ1 _ _ _ _ h hx q) (fun q => h _ _ q) q⟩) hx q
  | .or a b => fun ρ μ Q Q' X X' h hx q => by
    unfold wE at *; exact wE.mono a ρ μ _ _ _ _ (fun x μ1 ⟨c, e, q⟩ => ⟨c, e, ite_mono hΦ (fun q => h _ _ q) (fun q => wE.mono b ρ μ1 _ _ _ _ h hx q) q⟩) hx q
  | .not a => fun ρ μ Q Q' X X' h hx q => by unfold wE at *; exact wE.mono a ρ μ _ _ _ _ (fun x μ1 ⟨c, e, q⟩ => ⟨c, e, h _ _ q⟩) hx q
  | .ite t a b => fun ρ μ Q Q' X X' h hx q => by
    unfold wE at *; exact wE.mono t ρ μ _ _ _ _ (fun x μ1 ⟨c, e, q⟩ => ⟨c, e, ite_mono hΦ (fun q => wE.mono a ρ μ1 _ _ _ _ h hx q) (fun q => wE.mono b ρ μ1 _ _ _ _ h hx q) q⟩) hx q
  | .idx a i => fun ρ μ Q Q' X X' h hx q => by
    unfold wE at *; exact wE.mono a ρ μ _ _ _ _ (fun x μ1 q => wE.mono i ρ μ1 _ _ _ _ (fun y μ2 q => q.mono h) hx q) hx q
  | .slc own a lo hi => fun ρ μ Q Q' X X' h hx q => by
    unfold wE at *
    exact wE.mono a ρ μ _ _ _ _ (fun x μ1 q => pW.mono (wE.mono lo) (fun l μ2 q => pW.mono (wE.mono hi) (fun u μ3 q => q.mono h) hx q) hx q) hx q
  | .rev own a => fun ρ μ Q Q' X X' h hx q => by unfold wE at *; exact wE.mono a ρ μ _ _ _ _ (fun x μ1 q => q.mono h) hx q
  | .call f es => fun ρ μ Q Q' X X' h hx q => by unfold wE at *; exact wEs.mono es ρ μ _ _ _ _ (fun ds μ1 q => hΦ f ds μ1 _ _ _ _ h hx q) hx q
  | .bf own f es => fun ρ μ Q Q' X X' h hx q => by unfold wE at *; exact wEs.mono es ρ μ _ _ _ _ (fun ds μ1 q => q.mono h) hx q
  | .isi t a => fun ρ μ Q Q' X X' h hx q => by unfold wE at *; exact wE.mono a ρ μ _ _ _ _ (fun x μ1 q => q.mono h) hx q
  | .comp own k a b c tg t e => fun ρ μ Q Q' X X' h hx q => by
    unfold wE at *
    exact itW.mono (wE.mono a) (wE.mono b) (wE.mono c) (fun x y z μ1 q => q.mono fun l g q => compW.mono (wE.mono t) (wE.mono e) l [] μ1 _ _ (fun acc μ2 q => q.mono h) q) hx q
  | .pop a => fun ρ μ Q Q' X X' h hx q => by
    unfold wE at *; exact wE.mono a ρ μ _ _ _ _ (fun x μ1 ⟨n, l, d, e1, e2, e3, q⟩ => ⟨n, l, d, e1, e2, e3, h _ _ q⟩) hx q
  | .app a b => fun ρ μ Q Q' X X' h hx q => by
    unfold wE at *; exact wE.mono a ρ μ _ _ _ _ (fun x μ1 q => ⟨q.1, wE.mono b ρ μ1 _ _ _ _ (fun y μ2 ⟨n, l, e1, e2, e3, q⟩ => ⟨n, l, e1, e2, e3, h _ _ q⟩) hx q.2⟩) hx q
  | .frz a => fun ρ μ Q Q' X X' h hx q => by
    unfold wE at *; exact wE.mono a ρ μ _ _ _ _ (fun x μ1 ⟨n, l, e1, e2, q⟩ => ⟨n, l, e1, e2, h _ _ q⟩) hx q
theorem wEs.mono : ∀ e : Es, MoEs (wEs Φ C e)
  | .nil => fun ρ μ Q Q' X X' h hx q => by unfold wEs at *; exact h _ _ q
  | .cons e es => fun ρ μ Q Q' X X' h hx q => by
    unfold wEs at *; exact wE.mono e ρ μ _ _ _ _ (fun x μ1 q => wEs.mono es ρ μ1 _ _ _ _ (fun ds μ2 q => h _ _ q) hx q) hx q
end
end
end IL

/-! each operation on values does what is wanted of it on data -/
namespace IL
open PySem PySem.Spec PyProof.Rows L2

/-- the ends meet: what is wanted of data gives what is wanted of values -/
abbrev Fin (K : PySem.W.Frag) (w : Wd) (H : Hp) (P : DQ) (Q : VK) : Prop := ∀ (d : D) (μ' : Store) (w' : Wd) (H' : Hp) (v : V), P d μ' → Ext K w H w' H' → RS K w' H' μ' → RV K w' H' d v → Q v H'
section
variable {K : PySem.W.Frag} {w : Wd} {H : Hp} {μ : Store} {P : DQ} {Q : VK} {own : Bool}
theorem rv_int {i : Int} {v : V} : RV K w H (.int i) v ↔ v = .int i := by unfold RV; rfl
theorem rv_bl {i : Bool} {v : V} : RV K w H (.bl i) v ↔ v = .bl i := by unfold RV; rfl
theorem rv_str {i : Str} {v : V} : RV K w H (.str i) v ↔ v = .str i := by unfold RV; rfl
theorem rv_non {v : V} : RV K w H .non v ↔ v = .non := by unfold RV; rfl
theorem newL_ok {l : List D} {vs : List V} (S : RS K w H μ) (r : RVs K w H l vs) (h : newL own l μ P) (F : Fin K w H P Q) : vs.length ≤ sizeLine ∧ ∀ p, H p = none → Q (.ref p) (upd H p (.lst vs)) := by
  unfold newL at h
  refine ⟨by rw [← r.length]; exact h.1, fun p hp => ?_⟩
  have h2 := h.2
  cases own with
  | true =>
    have x : Ext K w H ⟨w.ι ++ [p], w.φ⟩ (upd H p (.lst vs)) := Ext.new hp (List.prefix_append _ _) (fun _ h => h) mem_own
    refine F _ _ ⟨w.ι ++ [p], w.φ⟩ _ _ h2 x (S.own hp (fun xs => ⟨by simp, by simp⟩) ⟨vs, upd_same, r.ext x.toExt0⟩) ?_
    unfold RV
    exact ⟨p, rfl, by rw [List.getElem?_append_right (by rw [S.len]; exact Nat.le_refl _), S.len, Nat.sub_self]; rfl⟩
  | false =>
    have x : Ext K w H ⟨w.ι, fun a => w.φ a ∨ a = p⟩ (upd H p (.lst vs)) := Ext.new hp List.prefix_rfl (fun _ h => .inl h) (fun _ h => .inl h) (fun _ h => h)
    refine F _ _ ⟨w.ι, fun a => w.φ a ∨ a = p⟩ _ _ h2 x (S.froze hp) ?_
    unfold RV
    exact ⟨p, vs, rfl, .inr rfl, upd_same, r.ext x.toExt0⟩
theorem newT_ok {l : List D} {vs : List V} (S : RS K w H μ) (r : RVs K w H l vs) (h : P (.tup l) μ) (F : Fin K w H P Q) : ∀ p, H p = none → Q (.ref p) (upd H p (.tup vs)) := fun p hp => by
  have x : Ext K w H w (upd H p (.tup vs)) := Ext.new hp List.prefix_rfl fun _ h => h
  refine F _ _ w _ _ h x (S.keep hp) ?_
  unfold RV
  exact ⟨p, vs, rfl, .of upd_same, r.ext x.toExt0⟩
theorem Fin.here {d : D} {v : V} (F : Fin K w H P Q) (S : RS K w H μ) (h : P d μ) (r : RV K w H d v) : Q v H := F d μ w H v h .refl S r
theorem Fin.int {i : Int} (F : Fin K w H P Q) (S : RS K w H μ) (h : P (.int i) μ) : Q (.int i) H := F.here S h (rv_int.mpr rfl)
theorem Fin.bl {i : Bool} (F : Fin K w H P Q) (S : RS K w H μ) (h : P (.bl i) μ) : Q (.bl i) H := F.here S h (rv_bl.mpr rfl)
end
/-! ### a op b -/
def opB : Bop → Operator
  | .add => .Add
  | .sub => .Sub
  | .mul => .Mult
  | .fdiv => .FloorDiv
  | .mod => .Mod
def rStr2 : R2 := fun x y H Q => ∃ i j, x = .str i ∧ y = .str j ∧ i.length + j.length ≤ sizeLine ∧ Q (.str (i ++ j)) H
def rBin (K : PySem.W.Frag) : Bop → R2
  | .add => fun x y H Q => rI0 (fun i j => .int (i + j)) x y H Q ∨ rCatA K x y H Q ∨ rStr2 x y H Q ∨ rCat x y H Q
  | .sub => rI0 fun i j => .int (i - j)
  | .mul => fun x y H Q => rI mulOk (fun i j => .int (i * j)) x y H Q ∨ rRep x y H Q
  | .fdiv => rI divOk fun i j => .int (i.fdiv j)
  | .mod => rI (fun _ j => j ≠ 0) fun i j => .int (i.fmod j)
theorem mulOk.fits {i j : Int} (h : mulOk i j) : IntMulOk i j := by
  have b : ∀ z : Int, Builtin.Int.intBits z ≤ z.natAbs.log2 + 1 := fun z => by unfold Builtin.Int.intBits; split <;> omega
  have hi := b i
  have hj := b j
  have hs : i.natAbs.log2 + j.natAbs.log2 < 134217000 := h
  have e : bitsLine = 134217728 := by decide
  unfold IntMulOk
  intro z
  have z2 := (Bool.and_eq_true_iff.mp z).2
  unfold Builtin.Int.intTooBig at z2
  have z3 := of_decide_eq_true z2
  rw [e] at z3
  omega
/-- what a long division looks for ahead of it: frames enough, no hook, no module laid in its way -/
structure SeerP (h : Heap) : Prop where
  statics : ∃ mc, h.Ns cStatics mc ∧ mc "sys.audit-hooks" = none ∧ mc "sys.dict" = none
  mods : ∃ mm, h.Ns sysModules mm ∧ mm "_pylong" = none
  main : ∃ mg bm ob, h.Ns mainGlobals mg ∧ mg "__builtins__" = some (.ref bm) ∧ h.get? bm = some ob ∧ ob.cls = .type "module" ∧ ob.dict = some builtinsNs
structure PyX (X : Cx) : Prop where
  tree : X.prog.given.tree = none
  dep : X.A.depth + Builtin.pylongFrames < recursionLimit
  seer : ∀ h : Heap, X.K.In h → SeerP h
  frs : ∃ env l, X.stack = env :: l ∧ env.scope.isGenerator = false ∧ env.scope.isCoroutine = false ∧ env.builtins = builtinsNs ∧ env.globals = mainGlobals
theorem PyX.room {X : Cx} (p : PyX X) {pins : List (Addr × Obj)} {σ : L2.St} {H : Hp} {s : Shared} (I : Inv X pins σ H s) : PySem.PylongRoom (model X.prog X.w) X.A s := by
  obtain ⟨env, l, f, g, c, b, gl⟩ := p.frs
  have q := p.seer s.heap I.kIn
  obtain ⟨mb, nb, hb⟩ := I.ok.mod.blt
  exact PySem.PylongRoom.of I.nolimit p.dep (PySem.SeerAt.of ⟨q.statics, q.mods, ⟨mb, nb.keepsP I.bk, hb⟩, q.main⟩ p.tree (I.ok.frames.trans (congrArg some f)) g c b gl)
theorem op_bin {X : Cx} (py : PyX X) : ∀ o : Bop, OpR X (binaryOp (opB o)) (rBin X.K o)
  | .add => OpR.or op_add (OpR.or op_catA (OpR.or op_add_str op_cat))
  | .sub => op_sub
  | .mul => OpR.or (opI fun _ _ _ _ _ _ _ hc q => mul_int q hc.fits) op_rep
  | .fdiv => by
    intro pins s σ H x y v u Q I rx ry h
    obtain ⟨i, j, rfl, rfl, hc, q⟩ := h
    obtain ⟨t, rfl⟩ := rx
    obtain ⟨t', rfl⟩ := ry
    exact floordiv_int hc ⟨.int (i.fdiv j), H, I.tok _, ⟨_, rfl⟩, q⟩ (.inr (py.room I))
  | .mod => op_modN
section
variable {K : PySem.W.Frag} {w : Wd} {H : Hp} {μ : Store} {P : DQ} {Q : VK} {own : Bool} {x y : D} {vx vy : V}
theorem cat_ok {xs ys : List D} (S : RS K w H μ) (rx : RV K w H x vx) (ry : RV K w H y vy) (e1 : seqL μ x = some xs) (e2 : seqL μ y = some ys) (n1 : ∀ l, x ≠ .scr l) (n2 : ∀ l, y ≠ .scr l)
    (h : newL own (xs ++ ys) μ P) (F : Fin K w H P Q) : rCat vx vy H Q := by
  obtain ⟨a, vs, rfl, _, r1, k1⟩ := seqL_ok S rx e1
  obtain ⟨b, us, rfl, _, r2, k2⟩ := seqL_ok S ry e2
  obtain ⟨hl, g⟩ := newL_ok S (r1.append r2) h F
  exact ⟨a, b, vs, us, rfl, rfl, k1 n1, k2 n2, by simpa using hl, g⟩
theorem bin_ok {o : Bop} (S : RS K w H μ) (rx : RV K w H x vx) (ry : RV K w H y vy) (h : bopS own o x y μ P) (F : Fin K w H P Q) : rBin K o vx vy H Q := by
  unfold bopS at h
  split at h
  · rw [rv_int.mp rx, rv_int.mp ry]; exact .inl ⟨_, _, rfl, rfl, F.int S h⟩
  · rw [rv_int.mp rx, rv_int.mp ry]; exact ⟨_, _, rfl, rfl, F.int S h⟩
  · rw [rv_int.mp rx, rv_int.mp ry]; exact .inl ⟨_, _, rfl, rfl, h.1, F.int S h.2⟩
  · rw [rv_int.mp rx, rv_int.mp ry]; exact ⟨_, _, rfl, rfl, h.1, F.int S h.2⟩
  · rw [rv_int.mp rx, rv_int.mp ry]; exact ⟨_, _, rfl, rfl, h.1, F.int S h.2⟩
  · rename_i xs ys
    have rx' := rx
    have ry' := ry
    unfold RV at rx ry
    obtain ⟨a, vs, rfl, q1, r1⟩ := rx
    obtain ⟨b, us, rfl, q2, r2⟩ := ry
    have t := newT_ok S (r1.append r2) h.2 F
    refine .inr (.inl ⟨a, b, vs, us, rfl, rfl, q1, q2, by rw [← r1.length, ← r2.length]; exact h.1, fun e => ?_, fun _ e => ?_, fun _ _ => t⟩)
    · have e' : xs = [] := by have l := r1.length; rw [e] at l; exact List.length_eq_zero_iff.mp l
      subst e'
      exact F.here S (by simpa using h.2) ry'
    · have e' : ys = [] := by have l := r2.length; rw [e] at l; exact List.length_eq_zero_iff.mp l
      subst e'
      exact F.here S (by simpa using h.2) rx'
  · rw [rv_str.mp rx, rv_str.mp ry]; exact .inr (.inr (.inl ⟨_, _, rfl, rfl, h.1, F.here S h.2 (rv_str.mpr rfl)⟩))
  · obtain ⟨xs, ys, e1, e2, n1, n2, h⟩ := h
    exact .inr (.inr (.inr (cat_ok S rx ry e1 e2 n1 n2 h F)))
  · obtain ⟨xs, e1, n1, l1, l2, h⟩ := h
    obtain ⟨a, vs, rfl, _, r1, k1⟩ := seqL_ok S rx e1
    rw [rv_int.mp ry]
    obtain ⟨hl, g⟩ := newL_ok S (r1.rep _) h F
    refine .inr ⟨a, _, vs, rfl, rfl, k1 n1, l1, l2, ?_, g⟩
    rw [Nat.mul_comm]
    simpa using hl
  · exact h.elim
end
/-! ### comparisons -/
mutual
def toP : D → PyData
  | .non => .none
  | .bl b => .bool b
  | .int i => .int i
  | .str x => .str x
  | .tup l => .tuple (toPs l)
  | .lst l => .list (toPs l)
  | _ => .none
def toPs : List D → List PyData
  | [] => []
  | d :: ds => toP d :: toPs ds
end
mutual
theorem toP_lay : ∀ d : D, d.lay = true → (toP d).canLay0 = true
  | .non, _ => by simp [toP, PyData.canLay0]
  | .bl _, _ => by simp [toP, PyData.canLay0]
  | .int _, _ => by simp [toP, PyData.canLay0]
  | .str x, h => by simp only [toP, PyData.canLay0]; simpa only [D.lay] using h
  | .tup l, h => by simp only [toP, PyData.canLay0]; exact toPs_lay l (by simpa only [D.lay] using h)
  | .lst l, h => by simp only [toP, PyData.canLay0]; exact toPs_lay l (by simpa only [D.lay] using h)
  | .scr _, h => by simp [D.lay] at h
  | .ref _, h => by simp [D.lay] at h
  | .fn _, h => by simp [D.lay] at h
theorem toPs_lay : ∀ l : List D, D.lays l = true → PyData.canLayAll0 (toPs l) = true
  | [], _ => by simp [toPs, PyData.canLayAll0]
  | d :: ds, h => by
    simp only [D.lays, Bool.and_eq_true] at h
    simp only [toPs, PyData.canLayAll0, toP_lay d h.1, toPs_lay ds h.2, Bool.and_self]
end
mutual
theorem toP_dep : ∀ d : D, (toP d).depth = d.dep
  | .non => by simp [toP, PyData.depth, D.dep]
  | .bl _ => by simp [toP, PyData.depth, D.dep]
  | .int _ => by simp [toP, PyData.depth, D.dep]
  | .str x => by simp [toP, PyData.depth, D.dep]
  | .tup l => by simp only [toP, PyData.depth, D.dep, toPs_dep l]
  | .lst l => by simp only [toP, PyData.depth, D.dep, toPs_dep l]
  | .scr _ => by simp [toP, PyData.depth, D.dep]
  | .ref _ => by simp [toP, PyData.depth, D.dep]
  | .fn _ => by simp [toP, PyData.depth, D.dep]
theorem toPs_dep : ∀ l : List D, PyData.depthAll (toPs l) = D.deps l
  | [] => by simp [toPs, PyData.depthAll, D.deps]
  | d :: ds => by simp only [toPs, PyData.depthAll, D.deps, toP_dep d, toPs_dep ds]
end
theorem toP_shaped {d : D} (h : d.ok) : SeqAt.shaped (toP d) = true := by
  unfold SeqAt.shaped
  rw [toP_lay d h.1, toP_dep d, Bool.true_and]
  exact decide_eq_true h.2
mutual
theorem toP_eqv : ∀ a b : D, a.lay = true → b.lay = true → PyData.eqv (toP a) (toP b) = D.eqv a b
  | .non, b, _, hb => by cases b <;> simp_all [toP, PyData.eqv, D.eqv, D.lay]
  | .bl _, b, _, hb => by cases b <;> simp_all [toP, PyData.eqv, D.eqv, D.lay]
  | .int _, b, _, hb => by cases b <;> simp_all [toP, PyData.eqv, D.eqv, D.lay]
  | .str x, b, _, hb => by cases b <;> simp_all [toP, PyData.eqv, D.eqv, D.lay]
  | .tup l, .tup m, ha, hb => by
    simp only [toP, PyData.eqv, D.eqv]
    exact toPs_eqv l m (by simpa only [D.lay] using ha) (by simpa only [D.lay] using hb)
  | .lst l, .lst m, ha, hb => by
    simp only [toP, PyData.eqv, D.eqv]
    exact toPs_eqv l m (by simpa only [D.lay] using ha) (by simpa only [D.lay] using hb)
  | .tup l, .non, _, _ | .tup l, .bl _, _, _ | .tup l, .int _, _, _ | .tup l, .str _, _, _ | .tup l, .lst _, _, _ => by simp [toP, PyData.eqv, D.eqv]
  | .lst l, .non, _, _ | .lst l, .bl _, _, _ | .lst l, .int _, _, _ | .lst l, .str _, _, _ | .lst l, .tup _, _, _ => by simp [toP, PyData.eqv, D.eqv]
  | .tup l, .scr _, _, h | .tup l, .ref _, _, h | .tup l, .fn _, _, h | .lst l, .scr _, _, h | .lst l, .ref _, _, h | .lst l, .fn _, _, h => by simp [D.lay] at h
  | .scr _, _, h, _ | .ref _, _, h, _ | .fn _, _, h, _ => by simp [D.lay] at h
theorem toPs_eqv : ∀ l m : List D, D.lays l = true → D.lays m = true → PyData.eqvAll (toPs l) (toPs m) = D.eqvs l m
  | [], [], _, _ => by simp [toPs, PyData.eqvAll, D.eqvs]
  | [], _ :: _, _, _ => by simp [toPs, PyData.eqvAll, D.eqvs]
  | _ :: _, [], _, _ => by simp [toPs, PyData.eqvAll, D.eqvs]
  | a :: l, b :: m, ha, hb => by
    simp only [D.lays, Bool.and_eq_true] at ha hb
    simp only [toPs, PyData.eqvAll, D.eqvs, toP_eqv a b ha.1 hb.1, toPs_eqv l m ha.2 hb.2]
end
section
variable {K : PySem.W.Frag} {w : Wd} {H : Hp} {μ : Store} {P : DQ} {Q : VK} {own : Bool} {x y : D} {vx vy : V}
mutual
theorem dp_of : ∀ (d : D) (v : V), d.lay = true → RV K w H d v → Dp K H v (toP d)
  | .non, v, _, r => by rw [rv_non.mp r]; unfold toP; exact .non
  | .bl b, v, _, r => by rw [rv_bl.mp r]; unfold toP; exact .bl b
  | .int i, v, _, r => by rw [rv_int.mp r]; unfold toP; exact .int i
  | .str s, v, _, r => by rw [rv_str.mp r]; unfold toP; exact .str s
  | .tup l, v, h, r => by
    unfold RV at r
    obtain ⟨a, vs, rfl, q, t⟩ := r
    unfold toP
    exact .tup q (dps_of l vs (by simpa only [D.lay] using h) t)
  | .lst l, v, h, r => by
    unfold RV at r
    obtain ⟨a, vs, rfl, _, q, t⟩ := r
    unfold toP
    exact .lst (.of q) (dps_of l vs (by simpa only [D.lay] using h) t)
  | .scr _, _, h, _ => by simp [D.lay] at h
  | .ref _, _, h, _ => by simp [D.lay] at h
  | .fn _, _, h, _ => by simp [D.lay] at h
theorem dps_of : ∀ (l : List D) (vs : List V), D.lays l = true → RVs K w H l vs → DpAll K H vs (toPs l)
  | [], vs, _, r => by rw [r.nil]; unfold toPs; exact .nil
  | d :: ds, vs, h, r => by
    obtain ⟨v, us, rfl, q, t⟩ := r.uncons
    simp only [D.lays, Bool.and_eq_true] at h
    unfold toPs
    exact .cons (dp_of d v h.1 q) (dps_of ds us h.2 t)
end
theorem tree_dp {d : D} (S : RS K w H μ) (r : RV K w H x vx) (e : tree μ x = some d) (o : d.lay = true) : Dp K H vx (toP d) := by
  cases x with
  | ref n =>
    have e : (match μ[n]? with | some (.lst l) => some (D.lst l) | _ => none) = some d := e
    unfold RV at r
    obtain ⟨a, rfl, hi⟩ := r
    cases hm : μ[n]? with
    | none => rw [hm] at e; cases e
    | some ob =>
      rw [hm] at e
      cases ob with
      | lst l =>
        cases e
        obtain ⟨vs, h1, h2⟩ := S.get hi hm
        unfold toP
        exact .lst (.of h1) (dps_of l vs (by simpa only [D.lay] using o) h2)
      | ins _ _ => cases e
      | dead => cases e
  | _ =>
    cases e
    exact dp_of _ _ o r
theorem seqA_dp {l : List D} (S : RS K w H μ) (r : RV K w H x vx) (e : seqA μ x = some l) (o : D.lays l = true) : Dp K H vx (.tuple (toPs l)) ∨ Dp K H vx (.list (toPs l)) := by
  obtain ⟨a, vs, rfl, t, q | ⟨_, _, q⟩⟩ := seqA_ok S r e
  · exact .inl (.tup q.2 (dps_of l vs o t))
  · exact .inr (.lst q (dps_of l vs o t))
end
def opC : Cop → CmpOp
  | .lt => .Lt | .le => .LtE | .gt => .Gt | .ge => .GtE | .eq => .Eq | .ne => .NotEq | .iss => .Is | .isn => .IsNot | .inn => .In | .nin => .NotIn
def rInT (K : PySem.W.Frag) (neg : Bool) : R2 := fun x y H Q => ∃ d ds, Dp K H x d ∧ Dp K H y (.tuple ds) ∧ SeqAt.shaped d = true ∧ SeqAt.shaped (.tuple ds) = true ∧ Q (.bl (if neg = true then !(ds.any fun z => PyData.eqv z d) else ds.any fun z => PyData.eqv z d)) H
def rCmp (K : PySem.W.Frag) : Cop → R2
  | .lt => rI0 fun i j => .bl (decide (i < j))
  | .le => rI0 fun i j => .bl (decide (i ≤ j))
  | .gt => rI0 fun i j => .bl (decide (j < i))
  | .ge => rI0 fun i j => .bl (decide (j ≤ i))
  | .eq => rEqD K
  | .ne => rNeD K
  | .iss => fun x y H Q => (y = .non ∧ Q (.bl (decide (x = .non))) H) ∨ rIsB x y H Q
  | .isn => fun x y H Q => (y = .non ∧ Q (.bl (!decide (x = .non))) H) ∨ rNotB x y H Q
  | .inn => fun x y H Q => rInD K x y H Q ∨ rInT K false x y H Q
  | .nin => fun x y H Q => rNotInD K x y H Q ∨ rInT K true x y H Q
theorem op_inT {X : Cx} (hu : X.A.units + 65 < cLine) : OpR X (compareOp .In) (rInT X.K false) := fun pins s σ H x y v u Q I rx ry h => by
  obtain ⟨d, ds, hd, he, sd, se, q⟩ := h
  obtain ⟨as, r1⟩ := Dp.reads I d x v hd rx
  obtain ⟨bs, r2⟩ := Dp.reads I (.tuple ds) y u he ry
  have room : X.A.units + 1 + min (PyData.depthAll ds) d.depth < cLine := by
    have h1 := SeqAt.depth_of_shaped sd
    have h2 : min (PyData.depthAll ds) d.depth ≤ d.depth := Nat.min_le_right _ _
    omega
  exact SeqAt.in_tuple_reads r2 r1 (SeqAt.canLay_of_shaped se) (SeqAt.canLay_of_shaped sd) room ⟨.bl _, H, I, rfl, q⟩
theorem op_notInT {X : Cx} (hu : X.A.units + 65 < cLine) : OpR X (compareOp .NotIn) (rInT X.K true) := fun pins s σ H x y v u Q I rx ry h => by
  obtain ⟨d, ds, hd, he, sd, se, q⟩ := h
  obtain ⟨as, r1⟩ := Dp.reads I d x v hd rx
  obtain ⟨bs, r2⟩ := Dp.reads I (.tuple ds) y u he ry
  have room : X.A.units + 1 + min (PyData.depthAll ds) d.depth < cLine := by
    have h1 := SeqAt.depth_of_shaped sd
    have h2 : min (PyData.depthAll ds) d.depth ≤ d.depth := Nat.min_le_right _ _
    omega
  exact SeqAt.notIn_tuple_reads r2 r1 (SeqAt.canLay_of_shaped se) (SeqAt.canLay_of_shaped sd) room ⟨.bl _, H, I, rfl, q⟩
theorem op_cmp {X : Cx} (hu : X.A.units + 65 < cLine) : ∀ c : Cop, OpR X (compareOp (opC c)) (rCmp X.K c)
  | .lt => op_lt
  | .le => op_le
  | .gt => op_gt
  | .ge => op_ge
  | .eq => op_eqD (by omega)
  | .ne => op_neD (by omega)
  | .iss => OpR.or op_isN op_isBl
  | .isn => OpR.or op_notN op_notBl
  | .inn => OpR.or (op_inD hu) (op_inT hu)
  | .nin => OpR.or (op_notInD hu) (op_notInT hu)
section
variable {K : PySem.W.Frag} {w : Wd} {H : Hp} {μ : Store} {P : DQ} {Q : VK} {own : Bool} {x y : D} {vx vy : V}
theorem rv_is_non (r : RV K w H x vx) : decide (vx = .non) = x.nonB := by
  cases x with
  | non => rw [rv_non.mp r]; rfl
  | bl b => rw [rv_bl.mp r]; rfl
  | int b => rw [rv_int.mp r]; rfl
  | str b => rw [rv_str.mp r]; rfl
  | tup l => unfold RV at r; obtain ⟨a, vs, rfl, _⟩ := r; rfl
  | lst l => unfold RV at r; obtain ⟨a, vs, rfl, _⟩ := r; rfl
  | scr l => unfold RV at r; obtain ⟨a, rfl, _⟩ := r; rfl
  | ref l => unfold RV at r; obtain ⟨a, rfl, _⟩ := r; rfl
  | fn l => unfold RV at r; rw [r]; rfl
theorem any_eqv : ∀ (l : List D) (d : D), D.lays l = true → d.lay = true → ((toPs l).any fun z => PyData.eqv z (toP d)) = l.any fun z => D.eqv z d
  | [], _, _, _ => by simp [toPs]
  | a :: l, d, h, hd => by
    simp only [D.lays, Bool.and_eq_true] at h
    simp only [toPs, List.any_cons, toP_eqv a d h.1 hd, any_eqv l d h.2 hd]
theorem cmp_ok {c : Cop} (S : RS K w H μ) (rx : RV K w H x vx) (ry : RV K w H y vy) (h : copS c x y μ P) (F : Fin K w H P Q) : rCmp K c vx vy H Q := by
  cases c with
  | lt => obtain ⟨i, j, rfl, rfl, h⟩ := h; rw [rv_int.mp rx, rv_int.mp ry]; exact ⟨_, _, rfl, rfl, F.bl S h⟩
  | le => obtain ⟨i, j, rfl, rfl, h⟩ := h; rw [rv_int.mp rx, rv_int.mp ry]; exact ⟨_, _, rfl, rfl, F.bl S h⟩
  | gt => obtain ⟨i, j, rfl, rfl, h⟩ := h; rw [rv_int.mp rx, rv_int.mp ry]; exact ⟨_, _, rfl, rfl, F.bl S h⟩
  | ge => obtain ⟨i, j, rfl, rfl, h⟩ := h; rw [rv_int.mp rx, rv_int.mp ry]; exact ⟨_, _, rfl, rfl, F.bl S h⟩
  | eq =>
    obtain ⟨a, b, e1, e2, o1, o2, h⟩ := h
    exact ⟨toP a, toP b, tree_dp S rx e1 o1.1, tree_dp S ry e2 o2.1, toP_shaped o1, toP_shaped o2, by rw [toP_eqv a b o1.1 o2.1]; exact F.bl S h⟩
  | ne =>
    obtain ⟨a, b, e1, e2, o1, o2, h⟩ := h
    exact ⟨toP a, toP b, tree_dp S rx e1 o1.1, tree_dp S ry e2 o2.1, toP_shaped o1, toP_shaped o2, by rw [toP_eqv a b o1.1 o2.1]; exact F.bl S h⟩
  | iss =>
    rcases h with ⟨rfl, h⟩ | ⟨a, b, rfl, rfl, h⟩
    · refine .inl ⟨rv_non.mp ry, ?_⟩
      rw [rv_is_non rx]
      exact F.bl S h
    · rw [rv_bl.mp rx, rv_bl.mp ry]
      refine .inr ⟨a, b, rfl, rfl, ?_⟩
      rw [← Bool.beq_eq_decide_eq]
      exact F.bl S h
  | isn =>
    rcases h with ⟨rfl, h⟩ | ⟨a, b, rfl, rfl, h⟩
    · refine .inl ⟨rv_non.mp ry, ?_⟩
      rw [rv_is_non rx]
      exact F.bl S h
    · rw [rv_bl.mp rx, rv_bl.mp ry]
      refine .inr ⟨a, b, rfl, rfl, ?_⟩
      rw [← Bool.beq_eq_decide_eq]
      exact F.bl S h
  | inn =>
    obtain ⟨ys, e, o1, o2, h⟩ := h
    have ol : D.lays ys = true := by simpa only [D.lay] using o2.1
    have st := toP_shaped o2
    have sl : SeqAt.shaped (toP (.lst ys)) = true := toP_shaped ⟨by simpa only [D.lay] using o2.1, by simpa only [D.dep] using o2.2⟩
    have hq := F.bl S h
    rw [← any_eqv ys x ol o1.1] at hq
    rcases seqA_dp S ry e ol with q | q
    · exact .inr ⟨toP x, toPs ys, dp_of x vx o1.1 rx, q, toP_shaped o1, by simpa only [toP] using st, hq⟩
    · exact .inl ⟨toP x, toPs ys, dp_of x vx o1.1 rx, q, toP_shaped o1, by simpa only [toP] using sl, hq⟩
  | nin =>
    obtain ⟨ys, e, o1, o2, h⟩ := h
    have ol : D.lays ys = true := by simpa only [D.lay] using o2.1
    have st := toP_shaped o2
    have sl : SeqAt.shaped (toP (.lst ys)) = true := toP_shaped ⟨by simpa only [D.lay] using o2.1, by simpa only [D.dep] using o2.2⟩
    have hq := F.bl S h
    rw [← any_eqv ys x ol o1.1] at hq
    rcases seqA_dp S ry e ol with q | q
    · exact .inr ⟨toP x, toPs ys, dp_of x vx o1.1 rx, q, toP_shaped o1, by simpa only [toP] using st, hq⟩
    · exact .inl ⟨toP x, toPs ys, dp_of x vx o1.1 rx, q, toP_shaped o1, by simpa only [toP] using sl, hq⟩
end
end IL

/-! built-ins, items, slices, what is walked -/
namespace IL
open PySem PySem.Spec PyProof.Rows L2

/-! ### t[::-1], xs[::-1] -/
theorem all_get {α : Type} : ∀ r : List α, (List.range r.length).filterMap (fun m => r[m]?) = r
  | [] => rfl
  | a :: r => by
    rw [List.length_cons, List.range_succ_eq_map, List.filterMap_cons]
    simp only [List.getElem?_cons_zero, List.filterMap_map]
    congr 1
    exact all_get r
theorem fm_congr {α β : Type} {f g : α → Option β} : ∀ l : List α, (∀ a ∈ l, f a = g a) → l.filterMap f = l.filterMap g
  | [], _ => rfl
  | a :: l, h => by
    rw [List.filterMap_cons, List.filterMap_cons, h a List.mem_cons_self, fm_congr l fun b hb => h b (List.mem_cons_of_mem _ hb)]
theorem rev_get {α : Type} (l : List α) : (List.range l.length).filterMap (fun (m : Nat) => l[(((l.length : Int) - 1) + (m : Int) * (-1)).toNat]?) = l.reverse := by
  conv => rhs; rw [← all_get l.reverse]
  rw [List.length_reverse]
  refine fm_congr _ fun m hm => ?_
  have h := List.mem_range.mp hm
  rw [List.getElem?_reverse h]
  congr 1
  omega
section
variable {prog : Program} {w : World} {A : Around} {E : Value → Shared → Prop} {s : Shared}
theorem down_places (n : Nat) : Builtin.Slice.slicePlaces ((n : Int) - 1) (-1) (-1) = n := by
  unfold Builtin.Slice.slicePlaces
  rw [if_neg (by decide)]
  by_cases h : n = 0
  · subst h; rfl
  · rw [if_pos (by omega)]
    have e : ((n : Int) - 1 - -1 - 1) / - -1 = (n : Int) - 1 := by
      rw [show (- -1 : Int) = 1 from rfl, Int.ediv_one]; omega
    rw [e]; omega
theorem down_applied {sl : Addr} {vl vu vs : Value} {n : Nat} {Q : Int × Int × Nat → Shared → Prop} (hs : s.heap.IsSliceOf sl vl vu vs) (pl : IsPart vl none) (pu : IsPart vu none) (ps : IsPart vs (some (-1)))
    (h : Q ((n : Int) - 1, -1, n) s) : wpAny (model prog w) A (Builtin.Slice.sliceApplied (.ref sl) (pure (n : Int))) Q E s := by
  obtain ⟨os, hos, hcs, hds⟩ := id hs
  unfold Builtin.Slice.sliceApplied Builtin.Slice.sliceFields
  refine wpAny_bind (wpAny_bind (wpAny_field hos hds (x := vl) rfl (wpAny_bind (wpAny_field hos hds (x := vu) rfl (wpAny_bind (wpAny_field hos hds (x := vs) rfl (wpAny_pure ?_)))))))
  refine wpAny_bind (HT.slicePart_ ps ?_)
  show wpAny _ _ (if ((-1 : Int) == 0) = true then _ else _) _ _ s
  rw [if_neg (by decide)]
  refine wpAny_bind (HT.slicePart_ pl (wpAny_bind (HT.slicePart_ pu (wpAny_bind (wpAny_pure ?_)))))
  show wpAny _ _ (pure ((n : Int) - 1, (-1 : Int), Builtin.Slice.slicePlaces ((n : Int) - 1) (-1) (-1))) _ _ s
  rw [down_places]
  exact wpAny_pure h
theorem tup_down {t sl : Addr} {items : Array Value} {vl vu vs : Value} {Q : Value → Shared → Prop} (ht : IsTup s.heap t items) (hs : s.heap.IsSliceOf sl vl vu vs) (pl : IsPart vl none) (pu : IsPart vu none) (ps : IsPart vs (some (-1)))
    (h : Q (.ref s.heap.objs.size) { s with heap := s.heap.push { cls := .type "tuple", data := .seq items.toList.reverse.toArray } }) (hsz : items.size ≤ sizeLine) : wpAny (model prog w) A (getItem (.ref t) (.ref sl)) Q E s := by
  have ok : sizeOk (.seq items.toList.reverse.toArray) := by
    show items.toList.reverse.toArray.size ≤ sizeLine
    simpa using hsz
  obtain ⟨os, hos, hcs, hds⟩ := id hs
  have hT : s.TypeIs (.ref sl) "slice" := ⟨os, hos, hcs⟩
  unfold getItem
  try with_reducible refine wpAny_holding ?_
  first | refine wpAny_bind (wpAny_pure ?_) | skip
  refine wpAny_bind (wpAny_sequenceKey ht.typeIs (by decide) ?_)
  refine wpAny_bind (wpAny_callSpecial?_slot (name := Str.ofString "__getitem__") ht.typeIs PyProof.Rows.slot_tuple_getitem (wpAny_call_entry PyProof.Rows.slot_tuple_getitem ht.typeIs entry_tuple_getitem ?_ (args_tuple_getitem _ _)))
  show wpAny _ _ (Builtin.Tuple.tupleItemsOf (.ref t) >>= _) _ _ s
  refine wpAny_bind (PyProof.Rows.tupleItemsOf_ ht ?_)
  refine wpAny_bind (wpAny_typeOf hT ?_)
  rw [if_pos (by decide)]
  refine wpAny_bind (down_applied hs pl pu ps ?_)
  have no : ¬ ((((items.size : Int) - 1) == 0 && (-1 : Int) == 1 && items.size == items.size) = true) := by
    intro q
    rw [Bool.and_eq_true, Bool.and_eq_true] at q
    exact absurd q.1.2 (by decide)
  show wpAny _ _ (if (((items.size : Int) - 1) == 0 && (-1 : Int) == 1 && items.size == items.size) = true then _ else _) _ _ s
  have pick : ((List.range items.size).filterMap fun (m : Nat) => items[(((items.size : Int) - 1) + (m : Int) * (-1)).toNat]?).toArray = items.toList.reverse.toArray := by
    have e := rev_get items.toList
    rw [Array.length_toList] at e
    rw [← e]
    simp only [Array.getElem?_toList]
  rw [if_neg no, pick]
  first
    | exact wpAny_bind (m := Builtin.Tuple.tupleExact _) (wpAny_newObj_type (wpAny_pure ⟨_, rfl, wpAny_pure h⟩) ok)
    | exact wpAny_bind (m := Builtin.Tuple.tupleExact _) (wpAny_newObj_type (wpAny_bind (wpAny_pure (wpAny_pure ⟨_, rfl, wpAny_pure h⟩))) ok)
    | exact wpAny_bind (wpAny_bind (m := Builtin.Tuple.tupleExact _) (wpAny_newObj_type (wpAny_pure (wpAny_pure ⟨_, rfl, wpAny_pure h⟩)) ok))
    | exact wpAny_bind (wpAny_bind (m := Builtin.Tuple.tupleExact _) (wpAny_newObj_type (wpAny_pure ⟨_, rfl, wpAny_pure h⟩) ok))
end
def tRevA (K : PySem.W.Frag) (te : TE) : TE := fun σ H Q => te σ H fun x H1 => ∃ a xs, x = .ref a ∧ ((SqT K H1 a xs ∧ ∀ p, H1 p = none → Q (.ref p) (upd H1 p (.tup xs.reverse))) ∨ (SqL K H1 a xs ∧ ∀ p, H1 p = none → Q (.ref p) (upd H1 p (.lst xs.reverse))))
theorem pe_rev {X : Cx} {e : Expr} {te : TE} {k : Nat} {p1 p2 p3 pos : Pos} (he : PE X e te) : PE X (.Subscript e (.Slice none none (some (.UnaryOp .USub (.Constant (.int 1) k p1) p2)) p3) pos) (tRevA X.K te) := by
  refine ⟨fun pins s σ H Q I h => ?_⟩
  refine Subscript_ (thn (he.run pins s σ H _ I h) fun v0 sa ⟨x0, Ha, Ia, ra, qa⟩ => ?_)
  obtain ⟨a0, xs0, ex0, qa⟩ := qa
  subst ex0
  cases ra
  have part : PO X (some (.UnaryOp .USub (.Constant (.int 1) k p1) p2)) (tPart (tUn (rU fun i => .int (-i)) (tC (.int 1)))) := po_some (pe_un un_neg pe_int)
  refine wpAny_Slice (thn (po_none.run pins sa σ Ha (fun o H2 => o = none ∧ H2 = Ha) Ia ⟨rfl, rfl⟩) fun vl sb ⟨l, Hb, Ib, pl, el, eb⟩ => ?_)
  subst el eb
  refine thn (po_none.run pins sb σ Hb (fun o H3 => o = none ∧ H3 = Hb) Ib ⟨rfl, rfl⟩) fun vu sc ⟨u, Hc, Ic, pu, eu, ec⟩ => ?_
  subst eu ec
  refine thn (part.run pins sc σ Hc (fun o H4 => o = some (-1) ∧ H4 = Hc) Ic ⟨1, rfl, -1, rfl, rfl, rfl⟩) fun vs sd ⟨o, Hd, Id, ps, eo, ed⟩ => ?_
  subst eo ed
  have Ie : Inv X pins σ Hd { sd with heap := sd.heap.push { cls := .type "slice", data := .fields #[vl, vu, vs] } } := Id.kept (t' := sd.toks) fun b ob q => Heap.get?_push_of_some _ q
  show wpAny (model X.prog X.w) X.A (subscriptTail e (.Slice none none (some (.UnaryOp .USub (.Constant (.int 1) k p1) p2)) p3) (.ref a0) (.ref sd.heap.objs.size)) (EP X pins σ Q) X.xe { sd with heap := sd.heap.push { cls := .type "slice", data := .fields #[vl, vu, vs] } }
  rcases qa with ⟨hx, q⟩ | ⟨hx, q⟩
  · obtain ⟨its, r, ht, hz⟩ := Ie.tuple hx
    have hlen := r.length
    refine tail_any (ops := [.ref a0, .ref sd.heap.objs.size]) ht.typeIs (PyProof.Rows.slot_tuple_getitem.lookup) ?_ (by with_unfolding_all rfl)
    refine tup_down ht (Heap.IsSliceOf.new _ vl vu vs) pl pu ps ?_ (by rw [List.size_toArray]; omega)
    refine ⟨.ref _, _, Ie.laid (t' := sd.toks) (o := .tup xs0.reverse) (fun b ob q => Heap.get?_push_of_some _ q) (Nat.le_refl _) ?_, rfl, q _ (Ie.hok.fresh (Nat.le_refl _))⟩
    exact ⟨by rw [List.length_reverse]; exact hz, _, r.reverse, IsTup.new _ _⟩
  · obtain ⟨its, r, ht, hz⟩ := Ie.list hx
    have hlen := r.length
    refine tail_any (ops := [.ref a0, .ref sd.heap.objs.size]) ht.isList.typeIs (PySem.slot_list_getitem.lookup) ?_ (by with_unfolding_all rfl)
    refine wpAny_getItem_list_slice ht.isList (Heap.IsSliceOf.new _ vl vu vs) pl pu ps (by decide) ?_ (by rw [List.size_toArray]; omega)
    rw [PySem.W.krv_pick]
    refine ⟨.ref _, _, Ie.laid (t' := sd.toks) (o := .lst xs0.reverse) (fun b ob q => Heap.get?_push_of_some _ q) (Nat.le_refl _) ?_, rfl, q _ (Ie.hok.fresh (Nat.le_refl _))⟩
    exact ⟨by rw [List.length_reverse]; exact hz, _, 0, r.reverse, Heap.get?_push_size _ rfl⟩
/-- one of two readings -/
theorem PE.or {X : Cx} {e : Expr} {t u : TE} (h : PE X e t) (g : PE X e u) : PE X e (fun σ H Q => t σ H Q ∨ u σ H Q) := ⟨fun pins s σ H Q I q => q.elim (h.run pins s σ H Q I) (g.run pins s σ H Q I)⟩
theorem PE.imp {X : Cx} {e : Expr} {t u : TE} (h : PE X e t) (g : ∀ σ H Q, u σ H Q → t σ H Q) : PE X e u := ⟨fun pins s σ H Q I q => h.run pins s σ H Q I (g _ _ _ q)⟩
section
variable {K : PySem.W.Frag} {w : Wd} {H : Hp} {μ : Store} {P : DQ} {Q : VK} {own : Bool} {x y : D} {vx vy : V}
/-! ### isinstance -/
def tyS : Ty → String
  | .int => "int" | .bool => "bool" | .tuple => "tuple" | .list => "list" | .str => "str"
theorem tyx_of {u : Ty} (S : RS K w H μ) (r : RV K w H x vx) (e : tyOf μ x = some u) : TyX K H vx (.type (tyS u)) := by
  cases x with
  | bl b => cases e; rw [rv_bl.mp r]; exact .base (.bl b)
  | int b => cases e; rw [rv_int.mp r]; exact .base (.int b)
  | str b => cases e; rw [rv_str.mp r]; exact .base (.str b)
  | tup l =>
    cases e
    unfold RV at r
    obtain ⟨a, vs, rfl, q, _⟩ := r
    rcases q with (q | ⟨o, q⟩) | ⟨o, its, n, q, c, _⟩
    · exact .base (.tup q)
    · exact .fTuple q
    · exact .kTuple q c
  | lst l =>
    cases e
    unfold RV at r
    obtain ⟨a, vs, rfl, _, q, _⟩ := r
    exact .base (.lst q)
  | scr l =>
    cases e
    unfold RV at r
    obtain ⟨a, rfl, q⟩ := r
    rcases q with ⟨_, q | ⟨o, q⟩⟩ | ⟨o, its, n, q, c, _⟩
    · exact .base (.lst q)
    · exact .base (.frz q)
    · exact .kList q c
  | ref n =>
    have e : (match μ[n]? with | some (.lst l) => some Ty.list | _ => none) = some u := e
    unfold RV at r
    obtain ⟨a, rfl, hi⟩ := r
    cases hm : μ[n]? with
    | none => rw [hm] at e; cases e
    | some ob =>
      rw [hm] at e
      cases ob with
      | lst l =>
        cases e
        obtain ⟨vs, h1, _⟩ := S.get hi hm
        exact .base (.lst h1)
      | ins _ _ => cases e
      | dead => cases e
  | non => cases e
  | fn _ => cases e
theorem kit_all : ∀ u t : Ty, kitB (tyS u) (tyS t) = some (decide (u = t) || (decide (t = .int) && decide (u = .bool))) := by
  intro u t
  cases u <;> cases t <;> decide +kernel
theorem kit_non : ∀ t : Ty, kitB "NoneType" (tyS t) = some false := by
  intro t
  cases t <;> decide +kernel
theorem isi_ok {t : Ty} (S : RS K w H μ) (r : RV K w H x vx) (h : isiS t x μ P) (F : Fin K w H P Q) : rIsi K [vx, .ty (tyS t)] H Q := by
  unfold isiS at h
  split at h
  · rw [rv_non.mp r]
    exact ⟨_, _, _, _, _, rfl, .ty _, .base .non, kit_ty (kit_non t), F.bl S h⟩
  · obtain ⟨u, e, h⟩ := h
    exact ⟨_, _, _, _, _, rfl, .ty _, tyx_of S r e, kit_ty (kit_all u t), F.bl S h⟩
/-! ### items, slices -/
theorem idx_ok (S : RS K w H μ) (rx : RV K w H x vx) (ry : RV K w H y vy) (h : idxS x y μ P) (F : Fin K w H P Q) : rIx K vx vy H Q := by
  obtain ⟨l, i, d, e1, rfl, e2, h⟩ := h
  rw [rv_int.mp ry]
  obtain ⟨a, vs, rfl, t, q | ⟨_, _, q⟩⟩ := seqA_ok S rx e1
  · obtain ⟨v, e3, r3⟩ := t.atI e2
    exact .inr (.inl ⟨a, vs, i, v, rfl, rfl, q.2, e3, F.here S h r3⟩)
  · obtain ⟨v, e3, r3⟩ := t.atI e2
    exact .inl ⟨a, vs, i, v, rfl, rfl, q, e3, F.here S h r3⟩
def rSl (K : PySem.W.Frag) : V → Option Int → Option Int → Hp → VK → Prop := fun x lo hi H Q => rSlA K x lo hi H Q ∨ rSlL K x lo hi H Q
theorem cut_all {α : Type} {l : List α} {lo hi : Option Int} (h1 : HT.sIx l.length 0 lo = 0) (h2 : HT.sIx l.length l.length hi = l.length) : cut l lo hi = l := by
  unfold cut; rw [h1, h2]; simp
theorem slc_ok {lo hi : Option Int} (S : RS K w H μ) (rx : RV K w H x vx) (h : slcS own x lo hi μ P) (F : Fin K w H P Q) : rSl K vx lo hi H Q := by
  unfold slcS at h
  split at h
  · rename_i l
    have rx' := rx
    unfold RV at rx
    obtain ⟨a, vs, rfl, q, t⟩ := rx
    refine .inl ⟨a, vs, rfl, q, fun ⟨z1, z2⟩ => ?_, fun _ => newT_ok S (t.cut lo hi) h F⟩
    rw [← t.length] at z1 z2
    rw [cut_all z1 z2] at h
    exact F.here S h rx'
  · obtain ⟨l, e, h⟩ := h
    obtain ⟨a, vs, rfl, q, t, _⟩ := seqL_ok S rx e
    exact .inr ⟨a, vs, rfl, q, (newL_ok S (t.cut lo hi) h F).2⟩
theorem rev_ok (S : RS K w H μ) (rx : RV K w H x vx) (h : revS own x μ P) (F : Fin K w H P Q) :
    ∃ a xs, vx = .ref a ∧ ((SqT K H a xs ∧ ∀ p, H p = none → Q (.ref p) (upd H p (.tup xs.reverse))) ∨ (SqL K H a xs ∧ ∀ p, H p = none → Q (.ref p) (upd H p (.lst xs.reverse)))) := by
  unfold revS at h
  split at h
  · unfold RV at rx
    obtain ⟨a, vs, rfl, q, t⟩ := rx
    exact ⟨a, vs, rfl, .inl ⟨q, newT_ok S t.reverse h F⟩⟩
  · obtain ⟨l, e, h⟩ := h
    obtain ⟨a, vs, rfl, q, t, _⟩ := seqL_ok S rx e
    exact ⟨a, vs, rfl, .inr ⟨q, (newL_ok S t.reverse h F).2⟩⟩
/-! ### built-in functions -/
def bfV : Bf → Value
  | .len => .builtin "len" | .abs => .builtin "abs" | .max => .builtin "max" | .min => .builtin "min" | .all => .builtin "all"
  | .int => .type "int" | .list => .type "list" | .tuple => .type "tuple" | .str => .type "str"
def rBf (K : PySem.W.Frag) : Bf → List V → Hp → VK → Prop
  | .len => fun xs H Q => ∃ p ys, xs = [.ref p] ∧ (SqL K H p ys ∨ SqT K H p ys) ∧ Q (.int ys.length) H
  | .abs => fun xs H Q => ∃ i, xs = [.int i] ∧ Q (.int (if i < 0 then -i else i)) H
  | .max => fun xs H Q => ∃ i j, xs = [.int i, .int j] ∧ Q (.int (if j > i then j else i)) H
  | .min => fun xs H Q => ∃ i j, xs = [.int i, .int j] ∧ Q (.int (if j < i then j else i)) H
  | .int => fun xs H Q => (∃ i, xs = [.int i] ∧ Q (.int i) H) ∨ ∃ k, xs = [.bl k] ∧ Q (.int (if k then 1 else 0)) H
  | .list => fun xs H Q => ∃ p ys, xs = [.ref p] ∧ (SqL K H p ys ∨ SqT K H p ys) ∧ ∀ l, H l = none → Q (.ref l) (upd H l (.lst ys))
  | .tuple => fun xs H Q => ∃ p ys, xs = [.ref p] ∧ ((SqL K H p ys ∧ ∀ l, H l = none → Q (.ref l) (upd H l (.tup ys))) ∨ (SqT K H p ys ∧ Q (.ref p) H))
  | .all => rAll K
  | .str => fun _ _ _ => False
def coolB : Bf → Bool
  | .max => false
  | .min => false
  | .all => false
  | _ => true
theorem call_bf {X : Cx} : ∀ {f : Bf}, X.calm = true ∨ coolB f = true → CallR X (bfV f) (rBf X.K f)
  | .len, _ => call_len_seq
  | .abs, _ => call_abs
  | .max, h => call_max2 (h.elim id fun z => by cases z)
  | .min, h => call_min2 (h.elim id fun z => by cases z)
  | .int, _ => call_int1
  | .list, _ => call_list_of
  | .tuple, _ => call_tuple_of
  | .all, h => cr_all (h.elim id fun z => by cases z)
  | .str, _ => fun _ _ _ _ _ _ _ _ _ h => h.elim
theorem bools_ok : ∀ {l : List D} {bs : List Bool} {vs : List V}, bools l = some bs → RVs K w H l vs → vs = bs.map V.bl
  | [], bs, vs, e, r => by cases e; rw [r.nil]; rfl
  | .bl b :: l, bs, vs, e, r => by
    obtain ⟨v, us, rfl, p, t⟩ := r.uncons
    have e : (bools l).map (b :: ·) = some bs := e
    cases q : bools l with
    | none => rw [q] at e; cases e
    | some cs =>
      rw [q] at e; cases e
      rw [rv_bl.mp p, bools_ok q t]; rfl
  | .non :: l, bs, vs, e, r => by cases e
  | .int _ :: l, bs, vs, e, r => by cases e
  | .str _ :: l, bs, vs, e, r => by cases e
  | .tup _ :: l, bs, vs, e, r => by cases e
  | .lst _ :: l, bs, vs, e, r => by cases e
  | .scr _ :: l, bs, vs, e, r => by cases e
  | .ref _ :: l, bs, vs, e, r => by cases e
  | .fn _ :: l, bs, vs, e, r => by cases e
theorem rvs1 {a : D} {vs : List V} (r : RVs K w H [a] vs) : ∃ v, vs = [v] ∧ RV K w H a v := by
  obtain ⟨v, us, rfl, p, t⟩ := r.uncons
  rw [t.nil]; exact ⟨v, rfl, p⟩
theorem rvs2 {a b : D} {vs : List V} (r : RVs K w H [a, b] vs) : ∃ v u, vs = [v, u] ∧ RV K w H a v ∧ RV K w H b u := by
  obtain ⟨v, us, rfl, p, t⟩ := r.uncons
  obtain ⟨u, rfl, q⟩ := rvs1 t
  exact ⟨v, u, rfl, p, q⟩
theorem bf_ok {f : Bf} {xs : List D} {vs : List V} (S : RS K w H μ) (r : RVs K w H xs vs) (h : bfS own f xs μ P) (F : Fin K w H P Q) : rBf K f vs H Q := by
  unfold bfS at h
  split at h
  · obtain ⟨l, e, h⟩ := h
    obtain ⟨v, rfl, r0⟩ := rvs1 r
    obtain ⟨a, us, rfl, t, q | ⟨_, _, q⟩⟩ := seqA_ok S r0 e
    · exact ⟨a, us, rfl, .inr q.2, by rw [← t.length]; exact F.int S h⟩
    · exact ⟨a, us, rfl, .inl q, by rw [← t.length]; exact F.int S h⟩
  · obtain ⟨v, rfl, r0⟩ := rvs1 r
    rw [rv_int.mp r0]; exact ⟨_, rfl, F.int S h⟩
  · obtain ⟨v, u, rfl, r1, r2⟩ := rvs2 r
    rw [rv_int.mp r1, rv_int.mp r2]; exact ⟨_, _, rfl, F.int S h⟩
  · obtain ⟨v, u, rfl, r1, r2⟩ := rvs2 r
    rw [rv_int.mp r1, rv_int.mp r2]; exact ⟨_, _, rfl, F.int S h⟩
  · obtain ⟨v, rfl, r0⟩ := rvs1 r
    rw [rv_int.mp r0]; exact .inl ⟨_, rfl, F.int S h⟩
  · obtain ⟨v, rfl, r0⟩ := rvs1 r
    rw [rv_bl.mp r0]; exact .inr ⟨_, rfl, F.int S h⟩
  · obtain ⟨l, e, h⟩ := h
    obtain ⟨v, rfl, r0⟩ := rvs1 r
    obtain ⟨a, us, rfl, t, q | ⟨_, _, q⟩⟩ := seqA_ok S r0 e
    · exact ⟨a, us, rfl, .inr q.2, (newL_ok S t h F).2⟩
    · exact ⟨a, us, rfl, .inl q, (newL_ok S t h F).2⟩
  · obtain ⟨l, e, h⟩ := h
    obtain ⟨v, rfl, r0⟩ := rvs1 r
    have r' := r0
    obtain ⟨a, us, rfl, t, q | ⟨_, _, q⟩⟩ := seqA_ok S r0 e
    · obtain ⟨⟨m, rfl⟩, q⟩ := q
      cases e
      exact ⟨a, us, rfl, .inr ⟨q, F.here S h r'⟩⟩
    · exact ⟨a, us, rfl, .inl ⟨q, newT_ok S t h F⟩⟩
  · obtain ⟨l, bs, e, e2, h⟩ := h
    obtain ⟨v, rfl, r0⟩ := rvs1 r
    obtain ⟨a, us, rfl, q, t, _⟩ := seqL_ok S r0 e
    rw [bools_ok e2 t] at q
    exact ⟨a, bs, rfl, q, F.bl S h⟩
  · exact h.elim
end
end IL

/-! a check that an expression of the text is the one of the small language; what the check gives -/
namespace IL
open PySem PySem.Spec PyProof.Rows L2

/-- names of the text: its defs with the number of their parameters, its constants -/
structure GC where
  fns : List (Str × Nat)
  cst : List Str
  exs : List Str
  hot : Bool
/-- .. in an except suite: no calls -/
def GC.suite (G : GC) : GC := { G with fns := [], hot := true }
def bltN : List Str := ["len", "abs", "max", "min", "int", "list", "tuple", "all", "str", "range", "zip", "isinstance", "bool"]
def bfN : Bf → Str
  | .len => "len" | .abs => "abs" | .max => "max" | .min => "min" | .int => "int" | .list => "list" | .tuple => "tuple" | .all => "all" | .str => "str"
def tyN : Ty → Str
  | .int => "int" | .bool => "bool" | .tuple => "tuple" | .list => "list" | .str => "str"
def glB (sc : Scope) (x : Str) : Bool := match sc.names.lookup x with
  | some .globalImplicit => true
  | _ => false
def visB (sc : Scope) (x : Str) : Bool := match sc.names.lookup x with
  | some .local => true
  | some .cell => true
  | some .free => true
  | _ => false
def locB (sc : Scope) (x : Str) : Bool := match sc.names.lookup x with
  | some .local => true
  | some .cell => true
  | _ => false
def dbgB (x : Str) : Bool := !(x == ("__debug__" : Str)) && !(x == ("__classdict__" : Str))
def Es.len : Es → Nat
  | .nil => 0
  | .cons _ es => es.len + 1
def chkL (f : E → Expr → Bool) : Es → List Expr → Bool
  | .nil, [] => true
  | .cons x xs, e :: es => f x e && chkL f xs es
  | _, _ => false
def chkB (f : E → Expr → Bool) (op : BoolOp) : E → List Expr → Bool
  | _, [] => false
  | il, [e] => f il e
  | .and p q, e :: es => (match op with | .And => true | _ => false) && f p e && chkB f op q es
  | .or p q, e :: es => (match op with | .Or => true | _ => false) && f p e && chkB f op q es
  | _, _ :: _ :: _ => false
def chkP (f : E → Expr → Bool) : E → Option Expr → Bool
  | il, none => isNop il
  | il, some e => !isNop il && f il e
def noSl : Expr → Bool
  | .Slice .. => false
  | .Starred .. => false
  | _ => true
def isYes : E → Bool
  | .bl true => true
  | _ => false
/-- the target's names at their slots -/
def chkT (N : List Str) : Tg → Expr → Bool
  | .nm i, .Name x _ => decide (N[i]? = some x)
  | .tp is, .Tuple es _ _ => decide (is.length = es.length) && (is.zip es).all fun p => match p.2 with
    | .Name x _ => decide (N[p.1]? = some x)
    | _ => false
  | _, _ => false
def tgN : Expr → List Str
  | .Name x _ => [x]
  | .Tuple es _ _ => es.filterMap fun
    | .Name x _ => some x
    | _ => none
  | _ => []
def chkI (sc : Scope) (f : E → Expr → Bool) (k : ItK) (a b c : E) (tg : Tg) (e : Expr) : Bool := match k, e with
  | .seq, e => f a e && (match e with | .Set .. => false | _ => true)
  | .r1, .Call (.Name g _) [x] [] _ => decide (g = ("range" : Str)) && glB sc g && f a x
  | .r2, .Call (.Name g _) [x, y] [] _ => decide (g = ("range" : Str)) && glB sc g && f a x && f b y
  | .r3, .Call (.Name g _) [x, y, z] [] _ => decide (g = ("range" : Str)) && glB sc g && f a x && f b y && f c z
  | .zip, .Call (.Name g _) [x, y] [] _ => decide (g = ("zip" : Str)) && glB sc g && f a x && f b y && (match tg with | .tp _ => true | _ => false)
  | _, _ => false
/-- a comprehension's own name is stored in its block -/
def ownB (sc scope : Scope) (x : Str) : Bool := match (relS scope sc).names.lookup x with
  | some .local => true
  | some .cell => (match scope.names.lookup x with
    | some .cell => true
    | _ => false)
  | _ => false
section
variable (G : GC) (N : List Str)
def chkE : Nat → Scope → E → Expr → Bool
  | 0, _, _, _ => false
  | n + 1, sc, il, e => match il with
    | .nop => false
    | .frz a => (match e with
      | .Name x p => chkE n sc a (.Name x p)
      | _ => false)
    | .var i => (match e with
      | .Name x _ => decide (N[i]? = some x) && visB sc x && dbgB x
      | _ => false)
    | .glo y => (match e with
      | .Name x _ => decide (y = x) && glB sc x && dbgB x && decide (x ∈ G.cst)
      | _ => false)
    | .int k => (match e with
      | .Constant (.int i) _ _ => decide (i = k)
      | _ => false)
    | .bl k => (match e with
      | .Constant (.bool i) _ _ => decide (i = k)
      | _ => false)
    | .non => (match e with
      | .Constant .none _ _ => true
      | _ => false)
    | .str k => (match e with
      | .Constant (.str i) _ _ => decide (i = k)
      | _ => false)
    | .tup xs => (match e with
      | .Tuple es _ _ => chkL (chkE n sc) xs es
      | _ => false)
    | .lst _ xs => (match e with
      | .List es _ => chkL (chkE n sc) xs es
      | _ => false)
    | .bin _ o x y => (match e with
      | .BinOp a op b _ => decide (op = opB o) && chkE n sc x a && chkE n sc y b
      | _ => false)
    | .neg x => (match e with
      | .UnaryOp .USub a _ => chkE n sc x a
      | _ => false)
    | .not x => (match e with
      | .UnaryOp .Not a _ => chkE n sc x a
      | _ => false)
    | .cmp c x y => (match e with
      | .Compare a [op] [b] _ => decide (op = opC c) && !behindInMarks op b && chkE n sc x a && chkE n sc y b
      | _ => false)
    | .chn c d x y z => (match e with
      | .Compare a [op, op'] [b, b'] _ => decide (op = opC c) && decide (op' = opC d) && !lastMarks [op, op'] [b, b'] && chkE n sc x a && chkE n sc y b && chkE n sc z b'
      | _ => false)
    | .and p q => (match e with
      | .BoolOp op vs _ => chkB (chkE n sc) op (.and p q) vs
      | _ => false)
    | .or p q => (match e with
      | .BoolOp op vs _ => chkB (chkE n sc) op (.or p q) vs
      | _ => false)
    | .ite t x y => (match e with
      | .IfExp c a b _ => chkE n sc t c && chkE n sc x a && chkE n sc y b
      | _ => false)
    | .idx x y => (match e with
      | .Subscript a i _ => noSl i && chkE n sc x a && chkE n sc y i
      | _ => false)
    | .slc _ x lo hi => (match e with
      | .Subscript a (.Slice l h none _) _ => chkE n sc x a && chkP (chkE n sc) lo l && chkP (chkE n sc) hi h
      | _ => false)
    | .rev _ x => (match e with
      | .Subscript a (.Slice none none (some (.UnaryOp .USub (.Constant (.int k) _ _) _)) _) _ => decide (k = 1) && chkE n sc x a
      | _ => false)
    | .call h xs => (match e with
      | .Call (.Name g _) args [] _ => !G.hot && decide (h = g) && glB sc g && dbgB g && decide ((g, xs.len) ∈ G.fns) && chkL (chkE n sc) xs args
      | _ => false)
    | .bf _ b xs => (match e with
      | .Call (.Name g _) args [] _ => (!G.hot || coolB b) && decide (g = bfN b) && glB sc g && !args.isEmpty && chkL (chkE n sc) xs args
      | _ => false)
    | .isi t x => (match e with
      | .Call (.Name g _) [a, .Name u _] [] _ => decide (g = ("isinstance" : Str)) && glB sc g && decide (u = tyN t) && glB sc u && chkE n sc x a
      | _ => false)
    | .comp _ k a b c tg t y => (match e with
      | .ListComp elt [⟨tgt, it, ifs, asy⟩] scope _ => !G.hot && decide (asy = 0) && blkC N sc scope ((tgN tgt).zip tg.slots) && decide ((tgN tgt).length = tg.slots.length) && chkT N tg tgt && (tgN tgt).all (ownB sc scope)
          && chkI sc (chkE n sc) k a b c tg it && (match ifs with
          | [] => isYes t
          | [q] => chkE n (relS scope sc) t q
          | _ => false) && chkE n (relS scope sc) y elt
      | _ => false)
    | .pop x => (match e with
      | .Call (.Attribute (.Name g q) m ap) [] [] cp => decide (m = ("pop" : Str)) && decide (ap.endLine = cp.line) && chkE n sc x (.Name g q)
      | _ => false)
    | .app x y => (match e with
      | .Call (.Attribute (.Name g q) m ap) [a] [] cp => decide (m = ("append" : Str)) && decide (ap.endLine = cp.line) && chkE n sc x (.Name g q) && chkE n sc y a
      | _ => false)
end
/-! ### what is told -/
section
variable (K : PySem.W.Frag)
/-- an exception's way out -/
def FinX (w : Wd) (H : Hp) (W : WX) (σ : L2.St) (X : XQ) : Prop := ∀ (x : Str) (μ' : Store) (w' : Wd) (H' : Hp), X x μ' → Ext K w H w' H' → RS K w' H' μ' → ∀ dd, W (.ref (He.ga K x)) dd σ H'
def rdE (W : WX) (e : WE) : TE := fun σ H Q => ∃ (w : Wd) (ρ : Env) (μ : Store) (P : DQ) (X : XQ), RSt K w H σ ρ ∧ RS K w H μ ∧ e ρ μ P X ∧ Fin K w H P Q ∧ FinX K w H W σ X
def rdA (W : WX) (e : WEs) : TA := fun σ H Q => ∃ (w : Wd) (ρ : Env) (μ : Store) (P : List D → Store → Prop) (X : XQ), RSt K w H σ ρ ∧ RS K w H μ ∧ e ρ μ P X ∧
  (∀ (ds : List D) (μ' : Store) (w' : Wd) (H' : Hp) (vs : List V), P ds μ' → Ext K w H w' H' → RS K w' H' μ' → RVs K w' H' ds vs → Q vs H') ∧ FinX K w H W σ X
def rdT (W : WX) (e : WE) : TT := fun σ H Q => ∃ (w : Wd) (ρ : Env) (μ : Store) (P : DQ) (X : XQ), RSt K w H σ ρ ∧ RS K w H μ ∧ e ρ μ P X ∧
  (∀ (d : D) (μ' : Store) (w' : Wd) (H' : Hp), P d μ' → Ext K w H w' H' → RS K w' H' μ' → ∃ c, d = .bl c ∧ Q c H') ∧ FinX K w H W σ X
/-- a def's promise: what it wants of data, of values -/
def lift (s : Spec) : Sp := fun vs H Q E => ∃ (w : Wd) (ds : List D) (μ : Store) (P : DQ) (X : XQ), RVs K w H ds vs ∧ RS K w H μ ∧ s ds μ P X ∧ Fin K w H P Q ∧
  ∀ (x : Str) (μ' : Store) (w' : Wd) (H' : Hp), X x μ' → Ext K w H w' H' → RS K w' H' μ' → ∀ dd, E (.ref (He.ga K x)) dd H'
end
/-- where an expression stands -/
structure XOk (G : GC) (Φ : Str → Spec) (C : Str → Option D) (N : List Str) (sc : Scope) (k : Nat) (X : Cx) : Prop where
  N : X.N = N
  sc : X.env.scope = sc
  nd : X.N.Nodup
  calm : G.hot = false → X.calm = true
  room : G.hot = false → Room k X.A
  un : X.A.units + 65 < cLine
  fns : ∀ f n, (f, n) ∈ G.fns → ∃ fd ps, ps.length = n ∧ FnOk X.prog X.w X.K X.mg X.base (L2.CX X.prog X.w) k (He.ga X.K f) fd ps (lift X.K (Φ f)) ∧ X.mg f = some (.ref (He.ga X.K f)) ∧ PySem.W.keepIn X.K (.ref (He.ga X.K f)) = true ∧ Binds X.K fd ps []
  blt : ∀ x ∈ bltN, X.mg x = none
  cst : ∀ x ∈ G.cst, ∀ d, C x = some d → ∃ v u, X.mg x = some u ∧ RelV v u ∧ ∀ w H, RV X.K w H d v
  py : PyX X
/-- no star ahead of it, no loop over a set -/
def Plain (e : Expr) : Prop := ∀ es env, starEach (e :: es) env = (false, eval e env) :: starEach es env
section
variable {G : GC} {Φ : Str → Spec} {C : Str → Option D} {N : List Str} {sc : Scope} {k : Nat} {X : Cx} {W : WX}
variable {a b e : Expr} {wa wb wc : WE} {pos : Pos}
theorem Ext.finX {K : PySem.W.Frag} {w w' : Wd} {H H' : Hp} {σ : L2.St} {X : XQ} {W : WX} (x : Ext K w H w' H') (F : FinX K w H W σ X) : FinX K w' H' W σ X := fun y μ' w2 H2 h x2 S dd => F y μ' w2 H2 h (x.trans x2) S dd
theorem Ext.fin {K : PySem.W.Frag} {w w' : Wd} {H H' : Hp} {P : DQ} {Q : VK} (x : Ext K w H w' H') (F : Fin K w H P Q) : Fin K w' H' P Q := fun d μ' w2 H2 v h x2 S r => F d μ' w2 H2 v h (x.trans x2) S r
/-- two in a row, then a step on values -/
theorem rd_two {K : PySem.W.Frag} {s : D → D → Store → DQ → Prop} {r : R2} {σ : L2.St} {H : Hp} {Q : VK}
    (ok : ∀ {w : Wd} {H : Hp} {μ : Store} {P : DQ} {Q : VK} {x y : D} {vx vy : V}, RS K w H μ → RV K w H x vx → RV K w H y vy → s x y μ P → Fin K w H P Q → r vx vy H Q)
    (h : rdE K W (fun ρ μ Q X => wa ρ μ (fun x μ1 => wb ρ μ1 (fun y μ2 => s x y μ2 Q) X) X) σ H Q) : tOp r (rdE K W wa) (rdE K W wb) σ H Q := by
  obtain ⟨w, ρ, μ, P, XX, st, S, h, F, FX⟩ := h
  refine ⟨w, ρ, μ, _, XX, st, S, h, fun x μ1 w1 H1 vx h1 x1 S1 rx => ?_, FX⟩
  refine ⟨w1, ρ, μ1, _, XX, st.ext x1.toExt0, S1, h1, fun y μ2 w2 H2 vy h2 x2 S2 ry => ?_, x1.finX FX⟩
  exact ok S2 (rx.ext x2.toExt0) ry h2 ((x1.trans x2).fin F)
theorem rd_one {K : PySem.W.Frag} {s : D → Store → DQ → Prop} {r : V → Hp → VK → Prop} {σ : L2.St} {H : Hp} {Q : VK}
    (ok : ∀ {w : Wd} {H : Hp} {μ : Store} {P : DQ} {Q : VK} {x : D} {vx : V}, RS K w H μ → RV K w H x vx → s x μ P → Fin K w H P Q → r vx H Q)
    (h : rdE K W (fun ρ μ Q X => wa ρ μ (fun x μ1 => s x μ1 Q) X) σ H Q) : rdE K W wa σ H (fun x H1 => r x H1 Q) := by
  obtain ⟨w, ρ, μ, P, XX, st, S, h, F, FX⟩ := h
  exact ⟨w, ρ, μ, _, XX, st, S, h, fun x μ1 w1 H1 vx h1 x1 S1 rx => ok S1 rx h1 (x1.fin F), FX⟩
/-- a test by its value -/
theorem rdT_rdE {K : PySem.W.Frag} {σ : L2.St} {H : Hp} {Q : Bool → Hp → Prop} (h : rdT K W wa σ H Q) : rdE K W wa σ H (fun x H1 => ∃ c, x = .bl c ∧ Q c H1) := by
  obtain ⟨w, ρ, μ, P, XX, st, S, h, F, FX⟩ := h
  refine ⟨w, ρ, μ, P, XX, st, S, h, fun d μ' w' H' v h' x' S' r' => ?_, FX⟩
  obtain ⟨c, rfl, q⟩ := F d μ' w' H' h' x' S'
  exact ⟨c, rv_bl.mp r', q⟩
theorem PT.imp {t u : TT} (h : PT X e t) (g : ∀ σ H Q, u σ H Q → t σ H Q) : PT X e u := ⟨fun pins s σ H Q I q => h.run pins s σ H Q I (g _ _ _ q)⟩
theorem PW.imp {t u : TT} (h : PW X e t) (g : ∀ σ H Q, u σ H Q → t σ H Q) : PW X e u := ⟨fun wh pins s σ H Q I q => h.run wh pins s σ H Q I (g _ _ _ q)⟩
theorem PA.imp {es : List Expr} {t u : TA} (h : PA X es t) (g : ∀ σ H Q, u σ H Q → t σ H Q) : PA X es u := ⟨fun p pins s σ H Q I q => h.run p pins s σ H Q I (g _ _ _ q)⟩
/-- a plain expression as a test -/
theorem pt_of (h : PE X e (rdE X.K W wa)) (he : ∀ whole, isTrue e X.env whole = (do let v ← whole; standAt e.pos; holding [v] (truthy v))) : PT X e (rdT X.K W wa) :=
  PT.imp (pt_val h he) fun _ _ _ q => rdT_rdE q
end
end IL

/-! what the check gives: single expressions -/
namespace IL
open PySem PySem.Spec PyProof.Rows L2
section
variable {G : GC} {Φ : Str → Spec} {C : Str → Option D} {N : List Str} {sc : Scope} {k : Nat} {X : Cx} {W : WX}
variable {a b e : Expr} {wa wb wc : WE} {pos p : Pos} {x : Str} {es : List Expr} {ws : WEs}
/-- what an induction gives of an expression -/
structure Gd (Φ : Str → Spec) (C : Str → Option D) (X : Cx) (W : WX) (il : E) (e : Expr) : Prop where
  pe : PE X e (rdE X.K W (wE Φ C il))
  pt : PT X e (rdT X.K W (wE Φ C il))
  pl : Plain e
theorem vis_of {sc : Scope} {x : Str} (h : visB sc x = true) : Vis sc x := by
  unfold visB at h
  split at h
  · exact .inl (by assumption)
  · exact .inr (.inl (by assumption))
  · exact .inr (.inr (by assumption))
  · cases h
theorem loc_of {sc : Scope} {x : Str} (h : locB sc x = true) : Loc sc x := by
  unfold locB at h
  split at h
  · exact .inl (by assumption)
  · exact .inr (by assumption)
  · cases h
theorem gl_of {x : Str} (hs : X.env.scope = sc) (h : glB sc x = true) : Gl X x := by
  unfold glB at h
  split at h
  · rename_i q
    show X.env.scope.names.lookup x = _
    rw [hs]; exact q
  · cases h
theorem dbg_of {x : Str} (h : dbgB x = true) : (x == ("__debug__" : Str)) = false ∧ (x == ("__classdict__" : Str)) = false := by
  unfold dbgB at h
  simpa using h
/-! one expression after another -/
theorem ce_var {i : Nat} (hN : X.N[i]? = some x) (hv : Vis X.env.scope x) (hd : (x == ("__debug__" : Str)) = false) (hc : (x == ("__classdict__" : Str)) = false) : PE X (.Name x pos) (rdE X.K W (wE Φ C (.var i))) :=
  PE.imp (pe_var hN hv hd hc) fun σ H Q ⟨w, ρ, μ, P, XX, st, S, h, F, FX⟩ => by
    unfold wE at h
    obtain ⟨d, e1, h⟩ := h
    obtain ⟨v, e2, r⟩ := st.at_ i d e1
    exact ⟨v, e2, F.here S h r⟩
theorem ce_glo (ok : XOk G Φ C N sc k X) (hg : Gl X x) (hc : x ∈ G.cst) (hd : (x == ("__debug__" : Str)) = false) : PE X (.Name x pos) (rdE X.K W (wE Φ C (.glo x))) := by
  refine ⟨fun pins s σ H Q I ⟨w, ρ, μ, P, XX, st, S, h, F, FX⟩ => ?_⟩
  unfold wE at h
  obtain ⟨d, e1, h⟩ := h
  obtain ⟨v, u, h1, h2, h3⟩ := ok.cst x hc d e1
  exact (pe_glob hg h1 h2 hd).run pins s σ H Q I (F.here S h (h3 w H))
theorem ce_const {v : V} {d : D} (h : PE X e (tC v)) (hd : ∀ K w H, RV K w H d v) : PE X e (rdE X.K W (fun _ μ Q _ => Q d μ)) :=
  PE.imp h fun σ H Q ⟨w, ρ, μ, P, XX, st, S, h, F, FX⟩ => F.here S h (hd _ _ _)
theorem ce_tup {kk : Nat} (h : PA X es (rdA X.K W ws)) : PE X (.Tuple es kk pos) (rdE X.K W (fun ρ μ Q XX => ws ρ μ (fun ds μ1 => ds.length ≤ sizeLine ∧ Q (.tup ds) μ1) XX)) :=
  PE.imp (pe_tup h) fun σ H Q ⟨w, ρ, μ, P, XX, st, S, h, F, FX⟩ =>
    ⟨w, ρ, μ, _, XX, st, S, h, fun ds μ1 w1 H1 vs h1 x1 S1 r => ⟨by rw [← r.length]; exact h1.1, newT_ok S1 r h1.2 (x1.fin F)⟩, FX⟩
theorem ce_lst {own : Bool} (h : PA X es (rdA X.K W ws)) : PE X (.List es pos) (rdE X.K W (fun ρ μ Q XX => ws ρ μ (fun ds μ1 => newL own ds μ1 Q) XX)) :=
  PE.imp (pe_lst h) fun σ H Q ⟨w, ρ, μ, P, XX, st, S, h, F, FX⟩ => ⟨w, ρ, μ, _, XX, st, S, h, fun ds μ1 w1 H1 vs h1 x1 S1 r => newL_ok S1 r h1 (x1.fin F), FX⟩
theorem ce_bin {own : Bool} {o : Bop} (py : PyX X) (ha : PE X a (rdE X.K W wa)) (hb : PE X b (rdE X.K W wb)) : PE X (.BinOp a (opB o) b pos) (rdE X.K W (fun ρ μ Q XX => wa ρ μ (fun x μ1 => wb ρ μ1 (fun y μ2 => bopS own o x y μ2 Q) XX) XX)) :=
  PE.imp (pe_op (op_bin py o) ha hb) fun σ H Q h => rd_two (fun S rx ry h F => bin_ok S rx ry h F) h
theorem ce_neg (ha : PE X a (rdE X.K W wa)) : PE X (.UnaryOp .USub a pos) (rdE X.K W (fun ρ μ Q XX => wa ρ μ (fun x μ1 => ∃ i, x = .int i ∧ Q (.int (-i)) μ1) XX)) :=
  PE.imp (pe_un un_neg ha) fun σ H Q h => rd_one (s := fun x μ1 Q => ∃ i, x = .int i ∧ Q (.int (-i)) μ1) (r := rU fun i => .int (-i)) (fun S rx ⟨i, e, h⟩ F => by
    subst e; exact ⟨i, rv_int.mp rx, F.int S h⟩) h
theorem ce_cmp {c : Cop} (hu : X.A.units + 65 < cLine) (ha : PE X a (rdE X.K W wa)) (hb : PE X b (rdE X.K W wb)) (hm : behindInMarks (opC c) b = false) :
    PE X (.Compare a [opC c] [b] pos) (rdE X.K W (fun ρ μ Q XX => wa ρ μ (fun x μ1 => wb ρ μ1 (fun y μ2 => copS c x y μ2 Q) XX) XX)) :=
  PE.imp (pe_cmpR (op_cmp hu c) ha hb hm) fun σ H Q h => rd_two (fun S rx ry h F => cmp_ok S rx ry h F) h
theorem ct_cmp {c : Cop} (hu : X.A.units + 65 < cLine) (ha : PE X a (rdE X.K W wa)) (hb : PE X b (rdE X.K W wb)) (hm : behindInMarks (opC c) b = false) :
    PT X (.Compare a [opC c] [b] pos) (rdT X.K W (fun ρ μ Q XX => wa ρ μ (fun x μ1 => wb ρ μ1 (fun y μ2 => copS c x y μ2 Q) XX) XX)) :=
  PT.imp (pt_cmpR (op_cmp hu c) ha hb hm) fun σ H Q h => rd_two (fun S rx ry h F => cmp_ok S rx ry h F) (rdT_rdE h)
theorem rd_chain {K : PySem.W.Frag} {c d : Cop} {σ : L2.St} {H : Hp} {Q : VK}
    (h : rdE K W (fun ρ μ Q XX => wa ρ μ (fun x μ1 => wb ρ μ1 (fun y μ2 => copS c x y μ2 fun z μ3 => ∃ k, z = .bl k ∧ if k = true then wc ρ μ3 (fun w μ4 => copS d y w μ4 Q) XX else Q (.bl false) μ3) XX) XX) σ H Q) :
    tChain (rCmp K c) (rCmp K d) (rdE K W wa) (rdE K W wb) (rdE K W wc) σ H Q := by
  obtain ⟨w, ρ, μ, P, XX, st, S, h, F, FX⟩ := h
  refine ⟨w, ρ, μ, _, XX, st, S, h, fun x μ1 w1 H1 vx h1 x1 S1 rx => ?_, FX⟩
  refine ⟨w1, ρ, μ1, _, XX, st.ext x1.toExt0, S1, h1, fun y μ2 w2 H2 vy h2 x2 S2 ry => ?_, x1.finX FX⟩
  refine cmp_ok S2 (rx.ext x2.toExt0) ry h2 fun z μ3 w3 H3 vz h3 x3 S3 rz => ?_
  obtain ⟨k, ek, h3⟩ := h3
  subst ek
  refine ⟨k, rv_bl.mp rz, ?_⟩
  cases k with
  | true => exact ⟨w3, ρ, μ3, _, XX, st.ext ((x1.trans x2).trans x3).toExt0, S3, h3, fun u μ4 w4 H4 vu h4 x4 S4 ru => cmp_ok S4 ((ry.ext x3.toExt0).ext x4.toExt0) ru h4 ((((x1.trans x2).trans x3).trans x4).fin F), ((x1.trans x2).trans x3).finX FX⟩
  | false => exact (((x1.trans x2).trans x3).fin F).bl S3 h3
theorem ce_chn {b' : Expr} {c d : Cop} (hu : X.A.units + 65 < cLine) (ha : PE X a (rdE X.K W wa)) (hb : PE X b (rdE X.K W wb)) (hc : PE X b' (rdE X.K W wc)) (hm : lastMarks [opC c, opC d] [b, b'] = false) :
    PE X (.Compare a [opC c, opC d] [b, b'] pos) (rdE X.K W (fun ρ μ Q XX => wa ρ μ (fun x μ1 => wb ρ μ1 (fun y μ2 => copS c x y μ2 fun z μ3 => ∃ k, z = .bl k ∧ if k = true then wc ρ μ3 (fun w μ4 => copS d y w μ4 Q) XX else Q (.bl false) μ3) XX) XX)) :=
  PE.imp (pe_chain (op_cmp hu c) (op_cmp hu d) ha hb hc hm) fun σ H Q h => rd_chain h
theorem ct_chn {b' : Expr} {c d : Cop} (hu : X.A.units + 65 < cLine) (ha : PE X a (rdE X.K W wa)) (hb : PE X b (rdE X.K W wb)) (hc : PE X b' (rdE X.K W wc)) (hm : lastMarks [opC c, opC d] [b, b'] = false) :
    PT X (.Compare a [opC c, opC d] [b, b'] pos) (rdT X.K W (fun ρ μ Q XX => wa ρ μ (fun x μ1 => wb ρ μ1 (fun y μ2 => copS c x y μ2 fun z μ3 => ∃ k, z = .bl k ∧ if k = true then wc ρ μ3 (fun w μ4 => copS d y w μ4 Q) XX else Q (.bl false) μ3) XX) XX)) :=
  PT.imp (pt_chain (op_cmp hu c) (op_cmp hu d) ha hb hc hm) fun σ H Q h => rd_chain (rdT_rdE h)
theorem ce_not (ha : PT X a (rdT X.K W wa)) (ha' : PE X a (rdE X.K W wa)) : PE X (.UnaryOp .Not a pos) (rdE X.K W (fun ρ μ Q XX => wa ρ μ (fun x μ1 => ∃ c, x = .bl c ∧ Q (.bl (!c)) μ1) XX)) :=
  PE.imp (pe_not ha') fun σ H Q h => rd_one (s := fun x μ1 Q => ∃ c, x = .bl c ∧ Q (.bl (!c)) μ1) (r := fun x H1 Q => ∃ c, x = .bl c ∧ Q (.bl (!c)) H1) (fun S rx ⟨i, e, h⟩ F => by
    subst e; exact ⟨i, rv_bl.mp rx, F.bl S h⟩) h
theorem ct_not (ha : PT X a (rdT X.K W wa)) : PT X (.UnaryOp .Not a pos) (rdT X.K W (fun ρ μ Q XX => wa ρ μ (fun x μ1 => ∃ c, x = .bl c ∧ Q (.bl (!c)) μ1) XX)) :=
  PT.imp (pt_not ha) fun σ H Q ⟨w, ρ, μ, P, XX, st, S, h, F, FX⟩ => by
    refine ⟨w, ρ, μ, _, XX, st, S, h, fun d μ1 w1 H1 h1 x1 S1 => ?_, FX⟩
    obtain ⟨c, rfl, h1⟩ := h1
    obtain ⟨c', e', q⟩ := F _ μ1 w1 H1 h1 x1 S1
    cases e'
    exact ⟨c, rfl, q⟩
theorem ce_ite {t : Expr} {wt : WE} (ht : PT X t (rdT X.K W wt)) (ha : PE X a (rdE X.K W wa)) (hb : PE X b (rdE X.K W wb)) :
    PE X (.IfExp t a b pos) (rdE X.K W (fun ρ μ Q XX => wt ρ μ (fun x μ1 => ∃ c, x = .bl c ∧ if c = true then wa ρ μ1 Q XX else wb ρ μ1 Q XX) XX)) :=
  PE.imp (pe_ifExp ht ha hb) fun σ H Q ⟨w, ρ, μ, P, XX, st, S, h, F, FX⟩ => by
    refine ⟨w, ρ, μ, _, XX, st, S, h, fun d μ1 w1 H1 h1 x1 S1 => ?_, FX⟩
    obtain ⟨c, rfl, h1⟩ := h1
    refine ⟨c, rfl, ?_⟩
    cases c with
    | true => exact ⟨w1, ρ, μ1, _, XX, st.ext x1.toExt0, S1, h1, x1.fin F, x1.finX FX⟩
    | false => exact ⟨w1, ρ, μ1, _, XX, st.ext x1.toExt0, S1, h1, x1.fin F, x1.finX FX⟩
theorem pt_ite {t : Expr} {tt ta tb : TT} (ht : PT X t tt) (ha : PT X a ta) (hb : PT X b tb) : PT X (.IfExp t a b pos) (fun σ H Q => tt σ H fun c H1 => if c = true then ta σ H1 Q else tb σ H1 Q) := by
  refine ⟨fun pins s σ H Q I h => ?_⟩
  show wpAny (model X.prog X.w) X.A (do if ← isTrue t X.env (eval t X.env) then isTrue a X.env (eval a X.env) else isTrue b X.env (eval b X.env)) _ _ _
  refine wpAny_bind (thn (ht.run pins s σ H _ I h) fun c s1 ⟨H1, I1, q1⟩ => ?_)
  cases c with
  | true => exact ha.run pins s1 σ H1 Q I1 q1
  | false => exact hb.run pins s1 σ H1 Q I1 q1
theorem ct_ite {t : Expr} {wt : WE} (ht : PT X t (rdT X.K W wt)) (ha : PT X a (rdT X.K W wa)) (hb : PT X b (rdT X.K W wb)) :
    PT X (.IfExp t a b pos) (rdT X.K W (fun ρ μ Q XX => wt ρ μ (fun x μ1 => ∃ c, x = .bl c ∧ if c = true then wa ρ μ1 Q XX else wb ρ μ1 Q XX) XX)) :=
  PT.imp (pt_ite ht ha hb) fun σ H Q ⟨w, ρ, μ, P, XX, st, S, h, F, FX⟩ => by
    refine ⟨w, ρ, μ, _, XX, st, S, h, fun d μ1 w1 H1 h1 x1 S1 => ?_, FX⟩
    obtain ⟨c, rfl, h1⟩ := h1
    refine ⟨c, rfl, ?_⟩
    cases c with
    | true => exact ⟨w1, ρ, μ1, _, XX, st.ext x1.toExt0, S1, h1, fun d μ2 w2 H2 h2 x2 S2 => F d μ2 w2 H2 h2 (x1.trans x2) S2, x1.finX FX⟩
    | false => exact ⟨w1, ρ, μ1, _, XX, st.ext x1.toExt0, S1, h1, fun d μ2 w2 H2 h2 x2 S2 => F d μ2 w2 H2 h2 (x1.trans x2) S2, x1.finX FX⟩
theorem ce_idx (ha : PE X a (rdE X.K W wa)) (hb : PE X b (rdE X.K W wb)) (hs : PlainIx b) : PE X (.Subscript a b pos) (rdE X.K W (fun ρ μ Q XX => wa ρ μ (fun x μ1 => wb ρ μ1 (fun y μ2 => idxS x y μ2 Q) XX) XX)) :=
  PE.imp (pe_ix ix_seq ha hb hs) fun σ H Q h => rd_two (fun S rx ry h F => idx_ok S rx ry h F) h
/-- a part of a slice -/
def rdP (K : PySem.W.Frag) (W : WX) (n : Bool) (e : WE) : TO := fun σ H Q => if n = true then Q none H else rdE K W e σ H fun x H1 => ∃ i, x = .int i ∧ Q (some i) H1
theorem ce_slc {own n m : Bool} {lo hi : Option Expr} {p2 : Pos} (ha : PE X a (rdE X.K W wa)) (hl : PO X lo (rdP X.K W n wb)) (hh : PO X hi (rdP X.K W m wc)) :
    PE X (.Subscript a (.Slice lo hi none p2) pos) (rdE X.K W (fun ρ μ Q XX => wa ρ μ (fun x μ1 => pW n wb ρ μ1 (fun l μ2 => pW m wc ρ μ2 (fun h μ3 => slcS own x l h μ3 Q) XX) XX) XX)) :=
  PE.imp (pe_slice (SlR.or sl_tupA sl_list) ha hl hh) fun σ H Q ⟨w, ρ, μ, P, XX, st, S, h, F, FX⟩ => by
    refine ⟨w, ρ, μ, _, XX, st, S, h, fun x μ1 w1 H1 vx h1 x1 S1 rx => ?_, FX⟩
    have last : ∀ {μ2 : Store} {w2 : Wd} {H2 : Hp} (l : Option Int), Ext X.K w H w2 H2 → RS X.K w2 H2 μ2 → RV X.K w2 H2 x vx → pW m wc ρ μ2 (fun h μ3 => slcS own x l h μ3 P) XX →
        rdP X.K W m wc σ H2 (fun u H3 => rSl X.K vx l u H3 Q) := fun {μ2 w2 H2} l x2 S2 rx2 h2 => by
      unfold rdP
      unfold pW at h2
      cases m with
      | true => exact slc_ok S2 rx2 h2 (x2.fin F)
      | false =>
        refine ⟨w2, ρ, μ2, _, XX, st.ext x2.toExt0, S2, h2, fun y μ3 w3 H3 vy h3 x3 S3 ry => ?_, x2.finX FX⟩
        obtain ⟨i, rfl, h3⟩ := h3
        exact ⟨i, rv_int.mp ry, slc_ok S3 (rx2.ext x3.toExt0) h3 ((x2.trans x3).fin F)⟩
    unfold rdP
    unfold pW at h1
    cases n with
    | true => exact last none x1 S1 rx h1
    | false =>
      refine ⟨w1, ρ, μ1, _, XX, st.ext x1.toExt0, S1, h1, fun y μ2 w2 H2 vy h2 x2 S2 ry => ?_, x1.finX FX⟩
      obtain ⟨i, rfl, h2⟩ := h2
      exact ⟨i, rv_int.mp ry, last (some i) (x1.trans x2) S2 (rx.ext x2.toExt0) h2⟩
end
end IL

/-! what the check gives: calls, what is walked, comprehensions -/
namespace IL
open PySem PySem.Spec PyProof.Rows L2
section
variable {G : GC} {Φ : Str → Spec} {C : Str → Option D} {N : List Str} {sc : Scope} {k : Nat} {X : Cx} {W : WX}
variable {a b e : Expr} {wa wb wc : WE} {pos p : Pos} {x : Str} {es : List Expr} {ws : WEs}
theorem ce_rev {own : Bool} {k : Nat} {p1 p2 p3 : Pos} (ha : PE X a (rdE X.K W wa)) : PE X (.Subscript a (.Slice none none (some (.UnaryOp .USub (.Constant (.int 1) k p1) p2)) p3) pos) (rdE X.K W (fun ρ μ Q XX => wa ρ μ (fun x μ1 => revS own x μ1 Q) XX)) :=
  PE.imp (pe_rev ha) fun σ H Q h => rd_one (s := fun x μ1 Q => revS own x μ1 Q) (fun S rx h F => rev_ok S rx h F) h
theorem pe_callS0 {CX : CXT} {f : Addr} {fd : FuncData} {ps : List Str} {sp : Sp} {E : L2.St → XK} (F : FnOk X.prog X.w X.K X.mg X.base CX k f fd ps sp) (hr : Room k X.A) (hg : Gl X x) (hm : X.mg x = some (.ref f)) (hk : PySem.W.keepIn X.K (.ref f) = true)
    (hb : Binds X.K fd ps []) (hx : ∀ σ, PassesAt CX X σ (E σ)) (hdb : (x == ("__debug__" : Str)) = false) : PE X (.Call (.Name x p) [] [] pos) (tCallS sp E tNil) :=
  ⟨fun pins s σ H Q I h => wpAny_Call_Name_kw (ld_glob I hg hm (PySem.W.callWith_K0 I.kIn hk (run_fnS (us := []) F hr hb (hx σ) I .nil h)) hdb)⟩
theorem rd_call {K : PySem.W.Frag} {s : Spec} {σ : L2.St} {H : Hp} {Q : VK} (h : rdE K W (fun ρ μ Q XX => ws ρ μ (fun ds μ1 => s ds μ1 Q XX) XX) σ H Q) : tCallS (lift K s) (L2.WE W) (rdA K W ws) σ H Q := by
  obtain ⟨w, ρ, μ, P, XX, st, S, h, F, FX⟩ := h
  exact ⟨w, ρ, μ, _, XX, st, S, h, fun ds μ1 w1 H1 vs h1 x1 S1 r => ⟨w1, ds, μ1, P, XX, r, S1, h1, x1.fin F, fun y μ2 w2 H2 h2 x2 S2 dd => FX y μ2 w2 H2 h2 (x1.trans x2) S2 dd⟩, FX⟩
theorem ce_call {n : Nat} (ok : XOk G Φ C N sc k X) (cool : G.hot = false) (tk : Takes X W) (hf : (x, n) ∈ G.fns) (hg : Gl X x) (hd : (x == ("__debug__" : Str)) = false) (hs : es = [] → ∃ q, q = es) (ha : PA X es (rdA X.K W ws))
    (hp : ∀ e r, es = e :: r → starEach (e :: r) X.env = (false, eval e X.env) :: starEach r X.env ∧ (backTo pos (starEach r X.env)).any (·.1) = false)
    (h0 : es = [] → ∀ σ H Q, rdA X.K W ws σ H Q → tNil σ H Q) :
    PE X (.Call (.Name x p) es [] pos) (rdE X.K W (fun ρ μ Q XX => ws ρ μ (fun ds μ1 => Φ x ds μ1 Q XX) XX)) := by
  obtain ⟨fd, ps, hl, F, hm, hk, hb⟩ := ok.fns x n hf
  cases es with
  | nil =>
    refine PE.imp (pe_callS0 F (ok.room cool) hg hm hk hb (fun σ => passAt tk σ) hd) fun σ H Q h => ?_
    exact h0 rfl σ H _ (rd_call h)
  | cons e r =>
    obtain ⟨h1, h2⟩ := hp e r rfl
    exact PE.imp (pe_callS F (ok.room cool) hg hm hk hb (fun σ => passAt tk σ) ha hd h1 h2) fun σ H Q h => rd_call h
theorem boot_bf : ∀ f : Bf, bootBuiltins (bfN f) = some (bfV f) := by
  intro f
  cases f <;> decide +kernel
theorem boot_ty : ∀ t : Ty, bootBuiltins (tyN t) = some (.type (tyS t)) := by
  intro t
  cases t <;> decide +kernel
theorem bf_free (ok : XOk G Φ C N sc k X) : ∀ f : Bf, X.mg (bfN f) = none := by
  intro f
  cases f <;> exact ok.blt _ (by decide +kernel)
theorem ty_free (ok : XOk G Φ C N sc k X) : ∀ f : Ty, X.mg (tyN f) = none := by
  intro f
  cases f <;> exact ok.blt _ (by decide +kernel)
theorem ce_bf {own : Bool} {f : Bf} (ok : XOk G Φ C N sc k X) (cool : X.calm = true ∨ coolB f = true) (hg : Gl X (bfN f)) (ha : PA X (e :: es) (rdA X.K W ws)) (h1 : starEach (e :: es) X.env = (false, eval e X.env) :: starEach es X.env)
    (h2 : (backTo pos (starEach es X.env)).any (·.1) = false) : PE X (.Call (.Name (bfN f) p) (e :: es) [] pos) (rdE X.K W (fun ρ μ Q XX => ws ρ μ (fun ds μ1 => bfS own f ds μ1 Q) XX)) := by
  have main : PE X (.Call (.Name (bfN f) p) (e :: es) [] pos) (tCB (rBf X.K f) (rdA X.K W ws)) := by
    have hm := bf_free ok f
    have hv := boot_bf f
    have hc := call_bf cool
    cases f
    all_goals first
      | exact pe_callB hc hg hm hv ha (by decide) (by decide) h1 h2
      | exact pe_callTy hc hg hm hv ha (by decide) (by decide) h1 h2
  exact PE.imp main fun σ H Q ⟨w, ρ, μ, P, XX, st, S, h, F, FX⟩ => ⟨w, ρ, μ, _, XX, st, S, h, fun ds μ1 w1 H1 vs h1 x1 S1 r => bf_ok S1 r h1 (x1.fin F), FX⟩
theorem ce_isi {t : Ty} {q : Pos} (ok : XOk G Φ C N sc k X) (hg : Gl X ("isinstance" : Str)) (hg2 : Gl X (tyN t)) (ha : PE X a (rdE X.K W wa)) (hp : Plain a) :
    PE X (.Call (.Name ("isinstance" : Str) p) [a, .Name (tyN t) q] [] pos) (rdE X.K W (fun ρ μ Q XX => wa ρ μ (fun x μ1 => isiS t x μ1 Q) XX)) := by
  have hT : PE X (.Name (tyN t) q) (tC (.ty (tyS t))) := by
    have hm := ty_free ok t
    have hv := boot_ty t
    cases t <;> exact pe_bltn hg2 hm hv rfl (by decide) (by decide)
  have h := pe_callB (pos := pos) (p := p) call_isi hg (ok.blt _ (by decide +kernel)) (by decide +kernel) (pa_cons ha (pa_cons hT pa_nil) (hp _ _)) (by decide) (by decide) (hp _ _) rfl
  exact PE.imp h fun σ H Q h => rd_one (s := fun x μ1 Q => isiS t x μ1 Q) (fun S rx h F => isi_ok S rx h F) h
/-! ### methods -/
theorem ce_app {q ap : Pos} {g : Str} (ha : PE X (.Name g q) (rdE X.K W wa)) (hb : PE X b (rdE X.K W wb)) (hp : Plain b) (hl : (ap.endLine == pos.line) = true) :
    PE X (.Call (.Attribute (.Name g q) "append" ap) [b] [] pos) (rdE X.K W (fun ρ μ Q XX => wa ρ μ (fun x μ1 => (∃ n l, x = .ref n ∧ μ1[n]? = some (.lst l)) ∧ wb ρ μ1 (fun y μ2 => ∃ n l, x = .ref n ∧ μ2[n]? = some (.lst l) ∧ l.length < sizeLine ∧ Q .non (μ2.set n (.lst (l ++ [y])))) XX) XX)) := by
  have h := pe_bm (cpos := pos) (apos := ap) PySem.F.plainAttrs_list PySem.F.slot_list_append PySem.F.type_list_append mt_append ha (pa_cons hb pa_nil (hp _ _)) rfl (by rw [hp]; rfl) hl (hp _ _) rfl
  refine PE.imp h fun σ H Q ⟨w, ρ, μ, P, XX, st, S, h, F, FX⟩ => ?_
  refine ⟨w, ρ, μ, _, XX, st, S, h, fun x μ1 w1 H1 vx h1 x1 S1 rx => ⟨?_, w1, ρ, μ1, _, XX, st.ext x1.toExt0, S1, h1.2, fun y μ2 w2 H2 vy h2 x2 S2 ry => ?_, x1.finX FX⟩, FX⟩
  · obtain ⟨⟨n, l, rfl, hm⟩, _⟩ := h1
    unfold RV at rx
    obtain ⟨ad, rfl, hi⟩ := rx
    obtain ⟨vs, ho, t⟩ := S1.get hi hm
    exact .inl ⟨rfl, vs, .of ho⟩
  · obtain ⟨n, l, rfl, hm, hz, h2⟩ := h2
    unfold RV at rx
    obtain ⟨ad, rfl, hi⟩ := rx
    have hi2 := prefix_at x2.ι hi
    obtain ⟨vs, ho, t⟩ := S2.get hi2 hm
    obtain ⟨S3, x3⟩ := S2.write (o := .lst (vs ++ [vy])) (ob := .lst (l ++ [y])) hi2 hm (by simp) ho (fun xs => ⟨by simp, by simp⟩) fun w' x' => ⟨_, upd_same, (t.append (.cons ry .mk_nil)).ext x'.toExt0⟩
    exact ⟨ad, vs, vy, rfl, rfl, ho, by rw [← t.length]; exact hz, F _ _ w2 _ _ h2 ((x1.trans x2).trans x3) S3 (rv_non.mpr rfl)⟩
theorem ce_pop {q ap : Pos} {g : Str} (ha : PE X (.Name g q) (rdE X.K W wa)) (hl : (ap.endLine == pos.line) = true) :
    PE X (.Call (.Attribute (.Name g q) "pop" ap) [] [] pos) (rdE X.K W (fun ρ μ Q XX => wa ρ μ (fun x μ1 => ∃ n l d, x = .ref n ∧ μ1[n]? = some (.lst l) ∧ l[l.length - 1]? = some d ∧ Q d (μ1.set n (.lst l.dropLast))) XX)) := by
  have h := pe_bm0 (cpos := pos) (apos := ap) PySem.F.plainAttrs_list PySem.F.slot_list_pop PySem.F.type_list_pop mt_pop ha rfl hl
  refine PE.imp h fun σ H Q ⟨w, ρ, μ, P, XX, st, S, h, F, FX⟩ => ⟨w, ρ, μ, _, XX, st, S, h, fun x μ1 w1 H1 vx h1 x1 S1 rx => ?_, FX⟩
  obtain ⟨n, l, d, rfl, hm, hd, h1⟩ := h1
  unfold RV at rx
  obtain ⟨ad, rfl, hi⟩ := rx
  obtain ⟨vs, ho, t⟩ := S1.get hi hm
  obtain ⟨v, ev, rv⟩ := t.get hd
  obtain ⟨S3, x3⟩ := S1.write (o := .lst vs.dropLast) (ob := .lst l.dropLast) hi hm (by simp) ho (fun xs => ⟨by simp, by simp⟩) fun w' x' => ⟨_, upd_same, t.dropLast.ext x'.toExt0⟩
  exact ⟨.inl ⟨rfl, vs, .of ho⟩, ad, vs, v, rfl, rfl, ho, by rw [← t.length]; exact ev, F _ _ w1 _ _ h1 (x1.trans x3) S3 (rv.ext x3.toExt0)⟩
theorem ce_frz (ha : PE X e (rdE X.K W wa)) : PE X e (rdE X.K W (fun ρ μ Q XX => wa ρ μ (fun x μ1 => ∃ n l, x = .ref n ∧ μ1[n]? = some (.lst l) ∧ Q (.lst l) (μ1.set n .dead)) XX)) :=
  PE.imp ha fun σ H Q ⟨w, ρ, μ, P, XX, st, S, h, F, FX⟩ => ⟨w, ρ, μ, _, XX, st, S, h, fun x μ1 w1 H1 vx h1 x1 S1 rx => by
    obtain ⟨n, l, rfl, hm, h1⟩ := h1
    unfold RV at rx
    obtain ⟨ad, rfl, hi⟩ := rx
    obtain ⟨vs, ho, t⟩ := S1.get hi hm
    obtain ⟨S3, x3⟩ := S1.freeze hi ho
    refine F _ _ ⟨w1.ι, fun b => w1.φ b ∨ b = ad⟩ _ _ h1 (x1.trans x3) S3 ?_
    unfold RV
    exact ⟨ad, vs, rfl, .inr rfl, ho, t.ext x3.toExt0⟩, FX⟩
theorem ct_frz {q : Pos} {g : Str} (ha : PE X (.Name g q) (rdE X.K W wa)) : PT X (.Name g q) (rdT X.K W (fun ρ μ Q XX => wa ρ μ (fun x μ1 => ∃ n l, x = .ref n ∧ μ1[n]? = some (.lst l) ∧ Q (.lst l) (μ1.set n .dead)) XX)) :=
  pt_of (ce_frz ha) fun _ => rfl
end
end IL

/-! what is walked; comprehensions -/
namespace IL
open PySem PySem.Spec PyProof.Rows L2
section
variable (K : PySem.W.Frag)
/-- J walks the data l while the store keeps g -/
def Walk (w : Wd) (H : Hp) (J : It) (l : List D) (g : Store → Prop) : Prop := ∀ (i : Nat) (w' : Wd) (H' : Hp) (μ' : Store), Ext0 K w H w' H' → RS K w' H' μ' → g μ' →
  (l.length ≤ i → J.stop i H') ∧ ∀ d, l[i]? = some d → J.go i H' ∧ ∀ x H'', J.yld i H' x H'' → ∃ w'', Ext K w' H' w'' H'' ∧ RS K w'' H'' μ' ∧ RV K w'' H'' d x
def rdI (W : WX) (k : ItK) (wa wb wc : WE) : TI := fun σ H R => ∃ (w : Wd) (ρ : Env) (μ : Store) (P : D → D → D → Store → Prop) (X : XQ), RSt K w H σ ρ ∧ RS K w H μ ∧ itW k wa wb wc ρ μ P X ∧ FinX K w H W σ X ∧
  ∀ (x y z : D) (μ' : Store) (w' : Wd) (H' : Hp), P x y z μ' → Ext K w H w' H' → RS K w' H' μ' → ∃ P2 : List D → (Store → Prop) → Prop, itS k x y z μ' P2 ∧ ∀ l g J, P2 l g → Walk K w' H' J l g → R J H'
end
section
variable {K : PySem.W.Frag} {w : Wd} {H : Hp} {μ : Store} {x y : D} {vx vy : V} {l m : List D} {a b : Addr}
theorem walk_l {vs : List V} (g : Store → Prop) (t : RVs K w H l vs) (q : ∀ w' H', Ext0 K w H w' H' → SqL K H' a vs) : Walk K w H (Itl K a) l g := fun i w' H' μ' x S _ => by
  have q' := q w' H' x
  refine ⟨fun hi => ⟨vs, q', by rw [← t.length]; exact hi⟩, fun d hd => ?_⟩
  obtain ⟨v, e, r⟩ := (t.ext x).get hd
  refine ⟨⟨vs, v, q', e⟩, fun u H'' ⟨e1, e2⟩ => ?_⟩
  subst e1
  have e3 := e2 vs q'
  rw [e] at e3; cases e3
  exact ⟨w', .refl, S, r⟩
theorem walk_t {vs : List V} (g : Store → Prop) (t : RVs K w H l vs) (q : SqT K H a vs) : Walk K w H (Itt K a) l g := fun i w' H' μ' x S _ => by
  have q' := x.t a vs q
  refine ⟨fun hi => ⟨vs, q', by rw [← t.length]; exact hi⟩, fun d hd => ?_⟩
  obtain ⟨v, e, r⟩ := (t.ext x).get hd
  refine ⟨⟨vs, v, q', e⟩, fun u H'' ⟨e1, e2⟩ => ?_⟩
  subst e1
  have e3 := e2 vs q'
  rw [e] at e3; cases e3
  exact ⟨w', .refl, S, r⟩
theorem walk_seq (S : RS K w H μ) (r : RV K w H x vx) (e : seqA μ x = some l) :
    ∃ a, vx = .ref a ∧ (((∃ xs, SqL K H a xs) ∧ Walk K w H (Itl K a) l (guard x l)) ∨ ((∃ xs, SqT K H a xs) ∧ Walk K w H (Itt K a) l (guard x l))) := by
  cases x with
  | tup k =>
    cases e
    unfold RV at r
    obtain ⟨a, vs, rfl, q, t⟩ := r
    exact ⟨a, rfl, .inr ⟨⟨vs, q⟩, walk_t _ t q⟩⟩
  | lst k =>
    cases e
    unfold RV at r
    obtain ⟨a, vs, rfl, p, q, t⟩ := r
    exact ⟨a, rfl, .inl ⟨⟨vs, .of q⟩, walk_l _ t fun w' H' x => .of (x.f a _ p q)⟩⟩
  | scr k =>
    cases e
    unfold RV at r
    obtain ⟨a, rfl, q⟩ := r
    exact ⟨a, rfl, .inl ⟨⟨_, q.sq⟩, walk_l _ (RVs.ints k) fun w' H' x => (q.ext x).sq⟩⟩
  | ref n =>
    have e : (match μ[n]? with | some (.lst l) => some l | _ => none) = some l := e
    unfold RV at r
    obtain ⟨a, rfl, hi⟩ := r
    cases hm : μ[n]? with
    | none => rw [hm] at e; cases e
    | some ob =>
      rw [hm] at e
      cases ob with
      | ins _ _ => cases e
      | dead => cases e
      | lst k =>
        cases e
        obtain ⟨vs, h1, h2⟩ := S.get hi hm
        refine ⟨a, rfl, .inl ⟨⟨vs, .of h1⟩, fun i w' H' μ' x S' hg => ?_⟩⟩
        obtain ⟨us, h3, h4⟩ := S'.get (prefix_at x.ι hi) hg
        refine ⟨fun hi => ⟨us, .of h3, by rw [← h4.length]; exact hi⟩, fun d hd => ?_⟩
        obtain ⟨v, e, r⟩ := h4.get hd
        refine ⟨⟨us, v, .of h3, e⟩, fun u H'' ⟨e1, e2⟩ => ?_⟩
        subst e1
        have e3 := e2 us (.of h3)
        rw [e] at e3; cases e3
        exact ⟨w', .refl, S', r⟩
  | non => cases e
  | bl _ => cases e
  | int _ => cases e
  | str _ => cases e
  | fn _ => cases e
theorem walk_r (lo : Int) (n : Nat) (g : Store → Prop) : Walk K w H (Itr lo n) (rngD lo n) g := fun i w' H' μ' x S _ => by
  refine ⟨fun hi => ?_, fun d hd => ?_⟩
  · have h : n ≤ i := by simpa [rngD] using hi
    exact h
  · unfold rngD at hd
    rw [List.getElem?_map] at hd
    cases q : (List.range n)[i]? with
    | none => rw [q] at hd; cases hd
    | some j =>
      rw [q] at hd
      obtain ⟨hj, ej⟩ := List.getElem?_eq_some_iff.mp q
      rw [List.getElem_range] at ej
      subst ej
      cases hd
      refine ⟨(show i < n by simpa using hj), fun u H'' ⟨e1, e2⟩ => ?_⟩
      subst e1
      exact ⟨w', .refl, S, rv_int.mpr e2⟩
theorem walk_c (lo c : Int) (n : Nat) (g : Store → Prop) : Walk K w H (Itc lo c n) (rngS lo c n) g := fun i w' H' μ' x S _ => by
  refine ⟨fun hi => ?_, fun d hd => ?_⟩
  · have h : n ≤ i := by simpa [rngS] using hi
    exact h
  · unfold rngS at hd
    rw [List.getElem?_map] at hd
    cases q : (List.range n)[i]? with
    | none => rw [q] at hd; cases hd
    | some j =>
      rw [q] at hd
      obtain ⟨hj, ej⟩ := List.getElem?_eq_some_iff.mp q
      rw [List.getElem_range] at ej
      subst ej
      cases hd
      refine ⟨(show i < n by simpa using hj), fun u H'' ⟨e1, e2⟩ => ?_⟩
      subst e1
      exact ⟨w', .refl, S, rv_int.mpr e2⟩
theorem zipD_len : ∀ l m : List D, (zipD l m).length = min l.length m.length
  | [], m => by simp [zipD]
  | _ :: _, [] => by simp [zipD]
  | a :: l, b :: m => by simp only [zipD, List.length_cons, zipD_len l m]; omega
theorem zipD_get : ∀ (l m : List D) (i : Nat) (d : D), (zipD l m)[i]? = some d → ∃ a b, l[i]? = some a ∧ m[i]? = some b ∧ d = .tup [a, b]
  | [], m, i, d, h => by simp [zipD] at h
  | _ :: _, [], i, d, h => by simp [zipD] at h
  | a :: l, b :: m, 0, d, h => by simp [zipD] at h; exact ⟨a, b, rfl, rfl, h.symm⟩
  | a :: l, b :: m, i + 1, d, h => by
    have h' : (zipD l m)[i]? = some d := by simpa [zipD] using h
    simpa using zipD_get l m i d h'
theorem pair_new {w' : Wd} {H' H'' : Hp} {μ' : Store} {T : Addr} {d e : D} {v u : V} (S : RS K w' H' μ') (hT : H' T = none) (eH : H'' = upd H' T (.tup [v, u])) (r : RV K w' H' d v) (q : RV K w' H' e u) : ∃ w'', Ext K w' H' w'' H'' ∧ RS K w'' H'' μ' ∧ RV K w'' H'' (.tup [d, e]) (.ref T) := by
  subst eH
  have x : Ext K w' H' w' (upd H' T (.tup [v, u])) := Ext.new hT List.prefix_rfl fun _ h => h
  refine ⟨w', x, S.keep hT, ?_⟩
  unfold RV
  exact ⟨T, _, rfl, .of upd_same, .cons (r.ext x.toExt0) (.cons (q.ext x.toExt0) .mk_nil)⟩
theorem walk_zl {vs us : List V} (g : Store → Prop) (t1 : RVs K w H l vs) (t2 : RVs K w H m us) (q1 : ∀ w' H', Ext0 K w H w' H' → SqL K H' a vs) (q2 : ∀ w' H', Ext0 K w H w' H' → SqL K H' b us) : Walk K w H (Itz K a b) (zipD l m) g := fun i w' H' μ' x S _ => by
  have p1 := q1 w' H' x
  have p2 := q2 w' H' x
  refine ⟨fun hi => ⟨vs, us, p1, p2, ?_⟩, fun d hd => ?_⟩
  · rw [zipD_len, t1.length, t2.length] at hi; omega
  · obtain ⟨d1, d2, h1, h2, rfl⟩ := zipD_get l m i d hd
    obtain ⟨v, e1, r1⟩ := (t1.ext x).get h1
    obtain ⟨u, e2, r2⟩ := (t2.ext x).get h2
    refine ⟨⟨vs, us, v, u, p1, p2, e1, e2⟩, fun z H'' ⟨T, v', u', ez, hT, eH, k1, k2⟩ => ?_⟩
    have z1 := k1 vs p1
    have z2 := k2 us p2
    rw [e1] at z1; rw [e2] at z2
    cases z1; cases z2
    subst ez
    exact pair_new S hT eH r1 r2
theorem walk_zt {vs us : List V} (g : Store → Prop) (t1 : RVs K w H l vs) (t2 : RVs K w H m us) (q1 : SqT K H a vs) (q2 : SqT K H b us) : Walk K w H (RZ.ItzT K a b) (zipD l m) g := fun i w' H' μ' x S _ => by
  have p1 := x.t a vs q1
  have p2 := x.t b us q2
  refine ⟨fun hi => ⟨vs, us, p1, p2, ?_⟩, fun d hd => ?_⟩
  · rw [zipD_len, t1.length, t2.length] at hi; omega
  · obtain ⟨d1, d2, h1, h2, rfl⟩ := zipD_get l m i d hd
    obtain ⟨v, e1, r1⟩ := (t1.ext x).get h1
    obtain ⟨u, e2, r2⟩ := (t2.ext x).get h2
    refine ⟨⟨vs, us, v, u, p1, p2, e1, e2⟩, fun z H'' ⟨T, v', u', ez, hT, eH, k1, k2⟩ => ?_⟩
    have z1 := k1 vs p1
    have z2 := k2 us p2
    rw [e1] at z1; rw [e2] at z2
    cases z1; cases z2
    subst ez
    exact pair_new S hT eH r1 r2
end
section
variable {G : GC} {Φ : Str → Spec} {C : Str → Option D} {N : List Str} {sc : Scope} {k : Nat} {X : Cx} {W : WX}
variable {a b c e tg : Expr} {wa wb wc : WE} {pos p : Pos}
/-- a list or a tuple is walked -/
theorem pi_seq {te : TE} (h : PE X e te) : PI X tg e (fun σ H R => te σ H fun v H1 => ∃ a, v = .ref a ∧ (((∃ xs, SqL X.K H1 a xs) ∧ R (Itl X.K a) H1) ∨ ((∃ xs, SqT X.K H1 a xs) ∧ R (Itt X.K a) H1))) := by
  refine ⟨fun pins s σ H R I hh => thn (h.run pins s σ H _ I hh) fun v sa ⟨x0, Ha, Ia, ra, qa⟩ => ?_⟩
  obtain ⟨a0, ex0, qa⟩ := qa
  subst ex0
  cases ra
  have new : ∀ bb ∈ [sa.heap.objs.size], FpOk X pins Ha bb := fun bb hb => by
    have eb : bb = sa.heap.objs.size := by simpa using hb
    rw [eb]
    exact Ia.fpOk (Nat.le_refl _) (Ia.hok.fresh (Nat.le_refl _))
  rcases qa with ⟨⟨xs, hq⟩, q⟩ | ⟨⟨xs, hq⟩, q⟩
  · obtain ⟨its, rv, pl, hz⟩ := Ia.list hq
    refine wpAny_pyIter_list pl.isList ?_
    exact ⟨sa.heap.objs.size, [sa.heap.objs.size], _, _, Ha, rfl, Ia.kept (t' := sa.toks) fun bb oo ee => Heap.get?_push_of_some _ ee, turn_list a0 _, ⟨_, Heap.get?_push_size _ rfl, rfl, rfl⟩, new, q⟩
  · obtain ⟨its, rv, pl, hz⟩ := Ia.tuple hq
    refine wpAny_pyIter_tuple (show sa.heap.IsTuple a0 its.toArray from pl) ?_
    exact ⟨sa.heap.objs.size, [sa.heap.objs.size], _, _, Ha, rfl, Ia.kept (t' := sa.toks) fun bb oo ee => Heap.get?_push_of_some _ ee, turn_tuple a0 _, ⟨_, Heap.get?_push_size _ rfl, rfl, rfl⟩, new, q⟩
theorem PI.imp {t u : TI} (h : PI X tg e t) (g : ∀ σ H R, u σ H R → t σ H R) : PI X tg e u := ⟨fun pins s σ H R I q => h.run pins s σ H R I (g _ _ _ q)⟩
theorem ci_seq (h : PE X e (rdE X.K W wa)) : PI X tg e (rdI X.K W .seq wa wb wc) :=
  PI.imp (pi_seq h) fun σ H R ⟨w, ρ, μ, P, XX, st, S, h, FX, q⟩ => ⟨w, ρ, μ, _, XX, st, S, h, fun d μ1 w1 H1 v h1 x1 S1 r => by
    obtain ⟨P2, ⟨l, e, h2⟩, q2⟩ := q d .non .non μ1 w1 H1 h1 x1 S1
    obtain ⟨a, rfl, ⟨g1, g2⟩ | ⟨g1, g2⟩⟩ := walk_seq S1 r e
    · exact ⟨a, rfl, .inl ⟨g1, q2 _ _ _ h2 g2⟩⟩
    · exact ⟨a, rfl, .inr ⟨g1, q2 _ _ _ h2 g2⟩⟩, FX⟩
theorem ci_r1 (ok : XOk G Φ C N sc k X) (hg : Gl X ("range" : Str)) (h : PE X a (rdE X.K W wa)) (hp : Plain a) : PI X tg (.Call (.Name ("range" : Str) p) [a] [] pos) (rdI X.K W .r1 wa wb wc) :=
  PI.imp (pi_range1 hg (ok.blt _ (by decide +kernel)) (pa_cons h pa_nil (hp _ _)) (hp _ _)) fun σ H R ⟨w, ρ, μ, P, XX, st, S, h, FX, q⟩ => ⟨w, ρ, μ, _, XX, st, S, h, fun d μ1 w1 H1 v h1 x1 S1 r => by
    obtain ⟨P2, ⟨j, e, e1, e2, h2⟩, q2⟩ := q d .non .non μ1 w1 H1 h1 x1 S1
    subst e
    rw [rv_int.mp r]
    exact ⟨j, rfl, e1, e2, q2 _ _ _ h2 (walk_r 0 j.toNat _)⟩, FX⟩
theorem ci_r2 (ok : XOk G Φ C N sc k X) (hg : Gl X ("range" : Str)) (h : PE X a (rdE X.K W wa)) (h' : PE X b (rdE X.K W wb)) (hp : Plain a) (hp' : Plain b) : PI X tg (.Call (.Name ("range" : Str) p) [a, b] [] pos) (rdI X.K W .r2 wa wb wc) :=
  PI.imp (pi_range2 hg (ok.blt _ (by decide +kernel)) (pa_cons h (pa_cons h' pa_nil (hp' _ _)) (hp _ _)) (by rw [hp, hp']; rfl) (hp' _ _)) fun σ H R ⟨w, ρ, μ, P, XX, st, S, h, FX, q⟩ => ⟨w, ρ, μ, _, XX, st, S, h, fun d μ1 w1 H1 v h1 x1 S1 r =>
    ⟨w1, ρ, μ1, _, XX, st.ext x1.toExt0, S1, h1, fun d2 μ2 w2 H2 u h2 x2 S2 r2 => by
      obtain ⟨P2, ⟨i, j, e, e', e1, hh⟩, q2⟩ := q d d2 .non μ2 w2 H2 h2 (x1.trans x2) S2
      subst e e'
      rw [rv_int.mp r, rv_int.mp r2]
      exact ⟨i, j, rfl, e1, q2 _ _ _ hh (walk_r i (j - i).toNat _)⟩, x1.finX FX⟩, FX⟩
theorem ci_r3 (ok : XOk G Φ C N sc k X) (hg : Gl X ("range" : Str)) (h : PE X a (rdE X.K W wa)) (h' : PE X b (rdE X.K W wb)) (h'' : PE X c (rdE X.K W wc)) (hp : Plain a) (hp' : Plain b) (hp'' : Plain c) :
    PI X tg (.Call (.Name ("range" : Str) p) [a, b, c] [] pos) (rdI X.K W .r3 wa wb wc) :=
  PI.imp (pi_range3 hg (ok.blt _ (by decide +kernel)) (pa_cons h (pa_cons h' (pa_cons h'' pa_nil (hp'' _ _)) (hp' _ _)) (hp _ _)) (hp _ _) (by rw [hp', hp'']; rfl)) fun σ H R ⟨w, ρ, μ, P, XX, st, S, h, FX, q⟩ => ⟨w, ρ, μ, _, XX, st, S, h, fun d μ1 w1 H1 v h1 x1 S1 r =>
    ⟨w1, ρ, μ1, _, XX, st.ext x1.toExt0, S1, h1, fun d2 μ2 w2 H2 u h2 x2 S2 r2 =>
      ⟨w2, ρ, μ2, _, XX, st.ext (x1.trans x2).toExt0, S2, h2, fun d3 μ3 w3 H3 z h3 x3 S3 r3 => by
        obtain ⟨P2, ⟨i, j, e, e', e'', ⟨b1, b2, b3, b4⟩, hh⟩, q2⟩ := q d d2 d3 μ3 w3 H3 h3 ((x1.trans x2).trans x3) S3
        subst e e' e''
        rw [rv_int.mp r, rv_int.mp r2, rv_int.mp r3]
        exact ⟨i, j, -1, (i - j).toNat, rfl, RgC.neg b1 b2 b3 b4, q2 _ _ _ hh (walk_c i (-1) (i - j).toNat _)⟩, (x1.trans x2).finX FX⟩, x1.finX FX⟩, FX⟩
theorem ci_zip {elts : List Expr} {kk : Nat} {tpos : Pos} (ok : XOk G Φ C N sc k X) (hg : Gl X ("zip" : Str)) (h : PE X a (rdE X.K W wa)) (h' : PE X b (rdE X.K W wb)) (hp : Plain a) (hp' : Plain b) :
    PI X (.Tuple elts kk tpos) (.Call (.Name ("zip" : Str) p) [a, b] [] pos) (rdI X.K W .zip wa wb wc) :=
  PI.imp (RZ.pi_zipA hg (ok.blt _ (by decide +kernel)) (pa_cons h (pa_cons h' pa_nil (hp' _ _)) (hp _ _)) (hp _ _) (by rw [hp']; rfl)) fun σ H R ⟨w, ρ, μ, P, XX, st, S, h, FX, q⟩ => ⟨w, ρ, μ, _, XX, st, S, h, fun d μ1 w1 H1 v h1 x1 S1 r =>
    ⟨w1, ρ, μ1, _, XX, st.ext x1.toExt0, S1, h1, fun d2 μ2 w2 H2 u h2 x2 S2 r2 => by
      obtain ⟨P2, ⟨l, m, e, hh⟩, q2⟩ := q d d2 .non μ2 w2 H2 h2 (x1.trans x2) S2
      have r1 := r.ext x2.toExt0
      rcases e with ⟨rfl, rfl⟩ | ⟨rfl, rfl⟩
      · unfold RV at r1 r2
        obtain ⟨a, vs, rfl, p1, q1, t1⟩ := r1
        obtain ⟨b, us, rfl, p3, q3, t3⟩ := r2
        exact ⟨a, b, vs, us, rfl, .inl ⟨.of q1, .of q3, q2 _ _ _ hh (walk_zl _ t1 t3 (fun w' H' x => .of (x.f a _ p1 q1)) fun w' H' x => .of (x.f b _ p3 q3))⟩⟩
      · unfold RV at r1 r2
        obtain ⟨a, vs, rfl, q1, t1⟩ := r1
        obtain ⟨b, us, rfl, q3, t3⟩ := r2
        exact ⟨a, b, vs, us, rfl, .inr ⟨q1, q3, q2 _ _ _ hh (walk_zt _ t1 t3 q1 q3)⟩⟩, x1.finX FX⟩, FX⟩
end
end IL

/-! comprehensions; the check of an expression gives its reading -/
namespace IL
open PySem PySem.Spec PyProof.Rows L2
def gNames : List Nat → TGs
  | [] => gNil
  | i :: is => gCons (gName i) (gNames is)
def gT (K : PySem.W.Frag) : Tg → TG
  | .nm i => gName i
  | .tp is => gTup K is.length (gNames is)
def setV (σ : L2.St) : List Nat → List V → L2.St
  | i :: is, v :: vs => setV (σ.set i (some v)) is vs
  | _, _ => σ
section
variable {K : PySem.W.Frag} {w : Wd} {H : Hp} {σ : L2.St} {ρ : Env}
theorem gNames_ok : ∀ {is : List Nat} {l : List D} {vs : List V} {σ : L2.St} {ρ : Env} {R : L2.St → Hp → Prop}, l.length = is.length → RVs K w H l vs → RSt K w H σ ρ → (∀ σ', RSt K w H σ' (setMany ρ is l) → R σ' H) → gNames is vs σ H R
  | [], [], vs, σ, ρ, R, _, r, st, h => ⟨r.nil, h σ st⟩
  | [], _ :: _, vs, σ, ρ, R, e, r, st, h => by cases e
  | i :: is, [], vs, σ, ρ, R, e, r, st, h => by cases e
  | i :: is, d :: l, vs, σ, ρ, R, e, r, st, h => by
    obtain ⟨v, us, rfl, p, t⟩ := r.uncons
    exact ⟨v, us, rfl, gNames_ok (by simpa using e) t (st.set p) fun σ' st' => h σ' st'⟩
theorem gNames_own : ∀ {is : List Nat} {vs : List V} {σ : L2.St} {R : L2.St → Hp → Prop}, gNames is vs σ H R → gNames is vs σ H (fun σ' H' => σ' = setV σ is vs ∧ R σ' H')
  | [], vs, σ, R, h => ⟨h.1, by rw [h.1]; rfl, h.2⟩
  | i :: is, vs, σ, R, h => by
    obtain ⟨v, us, rfl, h⟩ := h
    exact ⟨v, us, rfl, gNames_own h⟩
theorem wipe_set {x : Option V} {i : Nat} : ∀ {σ : L2.St} {ns : List Nat}, i ∈ ns → L2.wipe (σ.set i x) ns = L2.wipe σ ns := fun {σ ns} h => by
  have le : ∀ (σ : L2.St) (ns : List Nat), (L2.wipe σ ns).length = σ.length := L2.wipe_length
  have at_ : ∀ (ns : List Nat) (σ : L2.St) (j : Nat), (L2.wipe σ ns)[j]? = if j ∈ ns ∧ j < σ.length then some none else σ[j]? := by
    intro ns
    induction ns with
    | nil => intro σ j; simp [L2.wipe]
    | cons v vs ih =>
      intro σ j
      show ((L2.wipe σ vs).set v none)[j]? = _
      by_cases hv : v = j
      · subst hv
        by_cases hl : v < σ.length
        · rw [List.getElem?_set_self (by rw [le]; exact hl), if_pos ⟨List.mem_cons_self, hl⟩]
        · rw [List.getElem?_eq_none (by simp [le]; omega), if_neg (fun z => hl z.2), List.getElem?_eq_none (by omega)]
      · rw [List.getElem?_set_ne hv, ih]
        by_cases hm : j ∈ vs
        · simp [hm]
        · simp [hm, Ne.symm hv]
  apply List.ext_getElem?
  intro j
  rw [at_, at_, List.length_set]
  by_cases hj : j ∈ ns ∧ j < σ.length
  · rw [if_pos hj, if_pos hj]
  · rw [if_neg hj, if_neg hj]
    by_cases e : i = j
    · subst e
      have hl : ¬ i < σ.length := fun z => hj ⟨h, z⟩
      rw [List.getElem?_eq_none (by simp; omega), List.getElem?_eq_none (by omega)]
    · rw [List.getElem?_set_ne e]
theorem wipe_setV {ns : List Nat} : ∀ {is : List Nat} {vs : List V} {σ : L2.St}, (∀ i ∈ is, i ∈ ns) → L2.wipe (setV σ is vs) ns = L2.wipe σ ns
  | [], vs, σ, _ => rfl
  | i :: is, [], σ, _ => rfl
  | i :: is, v :: vs, σ, h => by
    show L2.wipe (setV (σ.set i (some v)) is vs) ns = _
    rw [wipe_setV fun j hj => h j (List.mem_cons_of_mem _ hj), wipe_set (h i List.mem_cons_self)]
/-- a datum goes to a target, in the frame -/
theorem tg_ok {tg : Tg} {d : D} {v : V} {P : Env → Prop} {R : L2.St → Hp → Prop} (h : tgS tg d ρ P) (r : RV K w H d v) (st : RSt K w H σ ρ) (k : ∀ σ' ρ', RSt K w H σ' ρ' → P ρ' → R σ' H) : gT K tg v σ H R := by
  cases tg with
  | nm i => exact k _ _ (st.set r) h
  | tp is =>
    obtain ⟨l, rfl, e, h⟩ := h
    unfold RV at r
    obtain ⟨a, vs, rfl, q, t⟩ := r
    exact ⟨a, vs, rfl, q, by rw [← t.length]; exact e, gNames_ok e t st fun σ' st' => k σ' _ st' h⟩
/-- .. in a comprehension's block -/
theorem tg_own {tg : Tg} {d : D} {v : V} {P : Env → Prop} {R : L2.St → Hp → Prop} (h : tgS tg d ρ P) (r : RV K w H d v) (st : RSt K w H σ ρ) (k : ∀ σ' ρ', L2.wipe σ' tg.slots = L2.wipe σ tg.slots → RSt K w H σ' ρ' → P ρ' → R σ' H) : gT K tg v σ H R := by
  cases tg with
  | nm i => exact k _ _ (wipe_set (by simp [Tg.slots])) (st.set r) h
  | tp is =>
    obtain ⟨l, rfl, e, h⟩ := h
    unfold RV at r
    obtain ⟨a, vs, rfl, q, t⟩ := r
    have base : gNames is vs σ H (fun σ' _ => RSt K w H σ' (setMany ρ is l)) := gNames_ok e t st fun σ' st' => st'
    have own := gNames_own base
    refine ⟨a, vs, rfl, q, by rw [← t.length]; exact e, ?_⟩
    have lift : ∀ {is : List Nat} {vs : List V} {σ : L2.St} {R R' : L2.St → Hp → Prop}, (∀ σ' H', R σ' H' → H' = H → R' σ' H') → gNames is vs σ H R → gNames is vs σ H R' := by
      intro is
      induction is with
      | nil => intro vs σ R R' f g; exact ⟨g.1, f _ _ g.2 rfl⟩
      | cons i is ih =>
        intro vs σ R R' f g
        obtain ⟨v, us, rfl, g⟩ := g
        exact ⟨v, us, rfl, ih f g⟩
    exact lift (fun σ' H' ⟨e1, s1⟩ eH => by
      subst eH
      exact k σ' _ (by rw [e1]; exact wipe_setV fun i hi => hi) s1 h) own
end
theorem wipe_wipe (σ : L2.St) (ns : List Nat) : L2.wipe (L2.wipe σ ns) ns = L2.wipe σ ns := by
  have h : ∀ (vs : List Nat) (τ : L2.St), (∀ v ∈ vs, v ∈ ns) → L2.wipe (L2.wipe τ vs) ns = L2.wipe τ ns := by
    intro vs
    induction vs with
    | nil => intro τ _; rfl
    | cons v vs ih =>
      intro τ hv
      show L2.wipe ((L2.wipe τ vs).set v none) ns = _
      rw [wipe_set (hv v List.mem_cons_self), ih τ fun u hu => hv u (List.mem_cons_of_mem _ hu)]
  exact h ns σ fun v hv => hv
section
variable {G : GC} {Φ : Str → Spec} {C : Str → Option D} {N : List Str} {sc : Scope} {k : Nat} {X : Cx} {W : WX}
variable {a b c e : Expr} {wa wb wc : WE} {pos p : Pos}
abbrev W0 : WX := fun _ _ _ _ => False
theorem rd_comp {own : Bool} {kk : ItK} {tg : Tg} {ol : List (Str × Nat)} {wt we : WE} {K : PySem.W.Frag} {σ : L2.St} {H : Hp} {Q : VK} (hol : ol.map (·.2) = tg.slots)
    (h : rdE K W (fun ρ μ Q XX => itW kk wa wb wc ρ μ (fun x y z μ1 => itS kk x y z μ1 fun l g => compW tg (tW wt) we g (wipeD ρ tg.slots) l [] μ1 fun acc μ2 => newL own acc μ2 Q) XX) σ H Q) :
    tLc (rdI K W kk wa wb wc) (gT K tg) (rdT K W0 wt) (rdE K W0 we) (ol.map (·.2)) σ H Q := by
  obtain ⟨w, ρ, μ, P, XX, st, S, hw, F, FX⟩ := h
  refine ⟨w, ρ, μ, _, XX, st, S, hw, FX, fun x y z μ1 w1 H1 h1 x1 S1 => ⟨_, h1, fun l g J h2 wk Dd hD => ?_⟩⟩
  rw [hol]
  have nφ : ¬ w1.φ Dd := fun z => by
    obtain ⟨u, e⟩ := S1.tr Dd z
    rw [hD] at e; cases e
  have nι : Dd ∉ w1.ι := fun z => by
    obtain ⟨u, e, _⟩ := S1.ti Dd z
    rw [hD] at e; cases e
  refine ⟨fun i m Hc => m = l.length - i ∧ i ≤ l.length ∧ ∃ (w2 : Wd) (μ2 : Store) (acc : List D) (vacc : List V), Ext K w1 H1 w2 Hc ∧ RS K w2 Hc μ2 ∧ Hc Dd = some (.lst vacc) ∧ RVs K w2 Hc acc vacc ∧ ¬ w2.φ Dd ∧ Dd ∉ w2.ι ∧
    compW tg (tW wt) we g (wipeD ρ tg.slots) (l.drop i) acc μ2 (fun acc μ2 => newL own acc μ2 P), ⟨l.length, by simp, Nat.zero_le _, w1, μ1, [], [], Ext.new hD List.prefix_rfl fun _ h => h, S1.keep hD, upd_same, .mk_nil, nφ, nι, by simpa using h2⟩, ?_⟩
  rintro i m Hc ⟨rfl, hi, w2, μ2, acc, vacc, x2, S2, hDc, rA, nφ2, nι2, hc⟩
  by_cases hlt : i < l.length
  · obtain ⟨d, hd⟩ : ∃ d, l[i]? = some d := ⟨l[i], by simp [hlt]⟩
    have ed : l.drop i = d :: l.drop (i + 1) := by
      obtain ⟨hh, e⟩ := List.getElem?_eq_some_iff.mp hd
      rw [List.drop_eq_getElem_cons hh, e]
    rw [ed] at hc
    obtain ⟨hgd, htg⟩ := hc
    obtain ⟨_, wk2⟩ := wk i w2 Hc μ2 x2.toExt0 S2 hgd
    obtain ⟨go, yl⟩ := wk2 d hd
    refine .inr ⟨go, fun Hn => ∃ (w2 : Wd) (μ2 : Store) (acc : List D) (vacc : List V), Ext K w1 H1 w2 Hn ∧ RS K w2 Hn μ2 ∧ Hn Dd = some (.lst vacc) ∧ RVs K w2 Hn acc vacc ∧ ¬ w2.φ Dd ∧ Dd ∉ w2.ι ∧
      compW tg (tW wt) we g (wipeD ρ tg.slots) (l.drop (i + 1)) acc μ2 (fun acc μ2 => newL own acc μ2 P), fun Hn hn => ⟨l.length - (i + 1), by omega, rfl, hlt, hn⟩, fun v Hy hy => ?_⟩
    obtain ⟨w3, x3, S3, r3⟩ := yl v Hy hy
    have o3 := x3.o Dd _ nι2 hDc
    refine tg_own htg r3 ((st.ext ((x1.trans x2).trans x3).toExt0).wipe tg.slots) fun σ4 ρ4 ew st4 hP => ⟨ew.trans (by rw [wipe_wipe]), ?_⟩
    refine ⟨w3, ρ4, μ2, _, _, st4, S3, hP, fun dd μ5 w5 H5 h5 x5 S5 => ?_, fun _ _ _ _ z => z.elim⟩
    obtain ⟨bb, rfl, h5⟩ := h5
    have o5 := x5.o Dd _ o3.2.1 o3.1
    refine ⟨bb, rfl, ?_⟩
    cases bb with
    | false => exact ⟨w5, μ5, acc, vacc, (x2.trans x3).trans x5, S5, o5.1, (rA.ext x3.toExt0).ext x5.toExt0, fun z => nφ2 (o3.2.2 (o5.2.2 z)), o5.2.1, h5⟩
    | true =>
      refine ⟨w5, ρ4, μ5, _, _, st4.ext x5.toExt0, S5, h5, fun y6 μ6 w6 H6 v6 h6 x6 S6 r6 => ?_, fun _ _ _ _ z => z.elim⟩
      have o6 := x6.o Dd _ o5.2.1 o5.1
      have nf6 : ¬ w6.φ Dd := fun z => nφ2 (o3.2.2 (o5.2.2 (o6.2.2 z)))
      have y0 := out_ext0 (K := K) (w := w6) (o := .lst (vacc ++ [v6])) o6.1 nf6
      have rA6 := ((rA.ext x3.toExt0).ext x5.toExt0).ext x6.toExt0
      exact ⟨vacc, o6.1, by rw [← rA.length]; exact h6.1, w6, μ6, acc ++ [y6], vacc ++ [v6], (((x2.trans x3).trans x5).trans x6).out hD o6.1 nf6 (by simp), S6.out o6.1 nf6 o6.2.1, upd_same, (rA6.append (.cons r6 .mk_nil)).ext y0, nf6, o6.2.1, h6.2⟩
  · have e : i = l.length := by omega
    subst e
    rw [List.drop_length] at hc
    obtain ⟨hgd, hn⟩ := hc
    refine .inl ⟨(wk l.length w2 Hc μ2 x2.toExt0 S2 hgd).1 (Nat.le_refl _), ?_⟩
    unfold newL at hn
    have hn2 := hn.2
    cases own with
    | true =>
      refine F _ _ ⟨w2.ι ++ [Dd], w2.φ⟩ _ _ hn2 (x1.trans (x2.take hD)) (S2.take hDc nφ2 nι2 rA) ?_
      unfold RV
      exact ⟨Dd, rfl, by rw [List.getElem?_append_right (by rw [S2.len]; exact Nat.le_refl _), S2.len, Nat.sub_self]; rfl⟩
    | false =>
      have xf : Ext0 K w2 Hc ⟨w2.ι, fun a => w2.φ a ∨ a = Dd⟩ Hc := ⟨List.prefix_rfl, fun _ h => .inl h, fun _ _ h => h, fun _ _ _ h => h⟩
      refine F _ _ ⟨w2.ι, fun a => w2.φ a ∨ a = Dd⟩ _ _ hn2 (x1.trans (x2.takeF hD)) (S2.takeF hDc nι2) ?_
      unfold RV
      exact ⟨Dd, vacc, rfl, .inr rfl, hDc, rA.ext xf⟩
theorem ce_comp {own : Bool} {kk : ItK} {tg : Tg} {tgt it elt : Expr} {ifs : List Expr} {scope : Scope} {ol : List (Str × Nat)} {wt we : WE} (ok : XOk G Φ C N sc k X) (cool : G.hot = false) (hi : PI X tgt it (rdI X.K W kk wa wb wc)) (blk : BlkOk X.N X.env.scope scope ol) (hol : ol.map (·.2) = tg.slots)
    (hg : ∀ (s : Shared) (H : Hp) (C : Addr) (cl : List (Str × Addr)) (fp : List Addr), PG (X.blk s H scope (compEnvC scope cl C X.env) fp) tgt (gT X.K tg))
    (ht : ∀ (s : Shared) (H : Hp) (C : Addr) (cl : List (Str × Addr)) (fp : List Addr), PTs (X.blk s H scope (compEnvC scope cl C X.env) fp) ifs (rdT X.K W0 wt))
    (he : ∀ (s : Shared) (H : Hp) (C : Addr) (cl : List (Str × Addr)) (fp : List Addr), PE (X.blk s H scope (compEnvC scope cl C X.env) fp) elt (rdE X.K W0 we))
    (hs : ∀ x, foldedSetIterable it X.env x = pure x) :
    PE X (.ListComp elt [⟨tgt, it, ifs, 0⟩] scope pos) (rdE X.K W (fun ρ μ Q XX => itW kk wa wb wc ρ μ (fun x y z μ1 => itS kk x y z μ1 fun l g => compW tg (tW wt) we g (wipeD ρ tg.slots) l [] μ1 fun acc μ2 => newL own acc μ2 Q) XX)) :=
  PE.imp (pe_lc (ok.calm cool) ok.nd hi blk hg ht he hs) fun σ H Q h => rd_comp hol h
end
end IL

/-! the check of an expression gives its reading -/
namespace IL
open PySem PySem.Spec PyProof.Rows L2
section
variable {G : GC} {Φ : Str → Spec} {C : Str → Option D} {N : List Str} {sc : Scope} {k : Nat} {X : Cx} {W : WX}
theorem chkL_ok {f : E → Expr → Bool} (IH : ∀ il e, f il e = true → Gd Φ C X W il e) : ∀ (xs : Es) (es : List Expr), chkL f xs es = true →
    PA X es (rdA X.K W (wEs Φ C xs)) ∧ (∀ pos, (backTo pos (starEach es X.env)).any (·.1) = false) ∧ xs.len = es.length
  | .nil, [], _ => by
    refine ⟨PA.imp pa_nil fun σ H Q ⟨w, ρ, μ, P, XX, st, S, h, F, FX⟩ => ?_, fun _ => rfl, rfl⟩
    simp only [wEs] at h
    exact F [] μ w H [] h .refl S .mk_nil
  | .nil, _ :: _, h => by simp [chkL] at h
  | .cons _ _, [], h => by simp [chkL] at h
  | .cons x xs, e :: es, h => by
    simp only [chkL, Bool.and_eq_true] at h
    have g := IH x e h.1
    obtain ⟨r1, r2, r3⟩ := chkL_ok IH xs es h.2
    refine ⟨PA.imp (pa_cons g.pe r1 (g.pl _ _)) fun σ H Q ⟨w, ρ, μ, P, XX, st, S, h, F, FX⟩ => ?_, fun pos => ?_, by simp [Es.len, r3]⟩
    · simp only [wEs] at h
      exact ⟨w, ρ, μ, _, XX, st, S, h, fun d μ1 w1 H1 v h1 x1 S1 r => ⟨w1, ρ, μ1, _, XX, st.ext x1.toExt0, S1, h1, fun ds μ2 w2 H2 vs h2 x2 S2 rs => F _ _ w2 H2 _ h2 (x1.trans x2) S2 (.cons (r.ext x2.toExt0) rs), x1.finX FX⟩, FX⟩
    · rw [g.pl]
      exact r2 pos
theorem chkB_ok {f : E → Expr → Bool} (IH : ∀ il e, f il e = true → Gd Φ C X W il e) (op : BoolOp) (pos : Pos) : ∀ (vs : List Expr) (il : E), chkB f op il vs = true →
    PE X (.BoolOp op vs pos) (rdE X.K W (wE Φ C il)) ∧ PW X (.BoolOp op vs pos) (rdT X.K W (wE Φ C il))
  | [], il, h => by cases il <;> simp [chkB] at h
  | [e], il, h => by
    have g : Gd Φ C X W il e := IH il e (by cases il <;> simpa [chkB] using h)
    refine ⟨pe_one g.pe, ?_⟩
    cases op with
    | And => exact pw_and1 g.pt
    | Or => exact pw_or1 g.pt
  | e :: e2 :: es, il, h => by
    cases il with
    | and p q =>
      cases op with
      | Or => simp [chkB] at h
      | And =>
        simp only [chkB, Bool.and_eq_true] at h
        have g := IH p e h.1.2
        obtain ⟨r1, r2⟩ := chkB_ok IH .And pos (e2 :: es) q h.2
        refine ⟨PE.imp (pe_and g.pe r1) fun σ H Q ⟨w, ρ, μ, P, XX, st, S, h, F, FX⟩ => ?_, PW.imp (pw_and g.pt r2) fun σ H Q ⟨w, ρ, μ, P, XX, st, S, h, F, FX⟩ => ?_⟩
        · simp only [wE] at h
          refine ⟨w, ρ, μ, _, XX, st, S, h, fun d μ1 w1 H1 v h1 x1 S1 r => ?_, FX⟩
          obtain ⟨c, rfl, h1⟩ := h1
          refine ⟨c, rv_bl.mp r, ?_⟩
          cases c with
          | true => exact ⟨w1, ρ, μ1, _, XX, st.ext x1.toExt0, S1, h1, x1.fin F, x1.finX FX⟩
          | false => exact (x1.fin F).bl S1 h1
        · simp only [wE] at h
          refine ⟨w, ρ, μ, _, XX, st, S, h, fun d μ1 w1 H1 h1 x1 S1 => ?_, FX⟩
          obtain ⟨c, rfl, h1⟩ := h1
          refine ⟨c, rfl, ?_⟩
          cases c with
          | true => exact ⟨w1, ρ, μ1, _, XX, st.ext x1.toExt0, S1, h1, fun d μ2 w2 H2 h2 x2 S2 => F d μ2 w2 H2 h2 (x1.trans x2) S2, x1.finX FX⟩
          | false =>
            obtain ⟨c', e', q⟩ := F _ μ1 w1 H1 h1 x1 S1
            cases e'
            exact q
    | or p q =>
      cases op with
      | And => simp [chkB] at h
      | Or =>
        simp only [chkB, Bool.and_eq_true] at h
        have g := IH p e h.1.2
        obtain ⟨r1, r2⟩ := chkB_ok IH .Or pos (e2 :: es) q h.2
        refine ⟨PE.imp (pe_or g.pe r1) fun σ H Q ⟨w, ρ, μ, P, XX, st, S, h, F, FX⟩ => ?_, PW.imp (pw_or g.pt r2) fun σ H Q ⟨w, ρ, μ, P, XX, st, S, h, F, FX⟩ => ?_⟩
        · simp only [wE] at h
          refine ⟨w, ρ, μ, _, XX, st, S, h, fun d μ1 w1 H1 v h1 x1 S1 r => ?_, FX⟩
          obtain ⟨c, rfl, h1⟩ := h1
          refine ⟨c, rv_bl.mp r, ?_⟩
          cases c with
          | false => exact ⟨w1, ρ, μ1, _, XX, st.ext x1.toExt0, S1, h1, x1.fin F, x1.finX FX⟩
          | true => exact (x1.fin F).bl S1 h1
        · simp only [wE] at h
          refine ⟨w, ρ, μ, _, XX, st, S, h, fun d μ1 w1 H1 h1 x1 S1 => ?_, FX⟩
          obtain ⟨c, rfl, h1⟩ := h1
          refine ⟨c, rfl, ?_⟩
          cases c with
          | false => exact ⟨w1, ρ, μ1, _, XX, st.ext x1.toExt0, S1, h1, fun d μ2 w2 H2 h2 x2 S2 => F d μ2 w2 H2 h2 (x1.trans x2) S2, x1.finX FX⟩
          | true =>
            obtain ⟨c', e', q⟩ := F _ μ1 w1 H1 h1 x1 S1
            cases e'
            exact q
    | _ => simp [chkB] at h
theorem chkP_ok {f : E → Expr → Bool} (IH : ∀ il e, f il e = true → Gd Φ C X W il e) {il : E} {e : Option Expr} (h : chkP f il e = true) : PO X e (rdP X.K W (isNop il) (wE Φ C il)) := by
  cases e with
  | none =>
    have h' : isNop il = true := h
    refine ⟨fun pins s σ H Q I q => ?_⟩
    unfold rdP at q
    rw [if_pos h'] at q
    exact po_none.run pins s σ H Q I q
  | some e =>
    have h' : (!isNop il && f il e) = true := h
    rw [Bool.and_eq_true] at h'
    have hn : isNop il = false := by simpa using h'.1
    refine ⟨fun pins s σ H Q I q => ?_⟩
    unfold rdP at q
    rw [hn, if_neg Bool.false_ne_true] at q
    exact (po_some (IH il e h'.2).pe).run pins s σ H Q I q
/-- names as targets -/
structure NmOk (X : Cx) (i : Nat) (e : Expr) : Prop where
  ok : ∃ x q, e = .Name x q ∧ X.N[i]? = some x ∧ Loc X.env.scope x ∧ (X.fn x = true ∨ X.env.scope.names.lookup x = some .local)
theorem pg_nm {i : Nat} {e : Expr} (hN : X.N.Nodup) (h : NmOk X i e) : PG X e (gName i) := by
  obtain ⟨x, q, rfl, h1, h2, h3⟩ := h.ok
  exact pg_name hN h1 h2 h3
theorem pgs_nm (hN : X.N.Nodup) : ∀ (is : List Nat) (es : List Expr), is.length = es.length → (∀ p ∈ is.zip es, NmOk X p.1 p.2) → PGs X es (gNames is) ∧ (assignEach es X.env).length = is.length ∧ (assignEach es X.env).findIdx? (·.1) = none
  | [], [], _, _ => ⟨pgs_nil, rfl, rfl⟩
  | [], _ :: _, h, _ => by cases h
  | _ :: _, [], h, _ => by cases h
  | i :: is, e :: es, hl, h => by
    have h0 := h (i, e) (by simp)
    obtain ⟨x, q, e0, _⟩ := h0.ok
    obtain ⟨r1, r2, r3⟩ := pgs_nm hN is es (by simpa using hl) fun p hp => h p (by simp [hp])
    have e0 : e = .Name x q := e0
    subst e0
    refine ⟨pgs_cons (pg_nm hN h0) r1 rfl, ?_, ?_⟩
    · show ((false, assign (.Name x q) X.env) :: assignEach es X.env).length = _
      simp [r2]
    · show ((false, assign (.Name x q) X.env) :: assignEach es X.env).findIdx? (·.1) = none
      rw [List.findIdx?_cons, r3]
      rfl
theorem pg_tg {tg : Tg} {e : Expr} (hN : X.N.Nodup) (hc : X.calm = true) (h : chkT X.N tg e = true) (hv : ∀ x ∈ tgN e, Loc X.env.scope x ∧ (X.fn x = true ∨ X.env.scope.names.lookup x = some .local)) : PG X e (gT X.K tg) := by
  cases tg with
  | nm i =>
    cases e with
    | Name x q =>
      have h' : decide (X.N[i]? = some x) = true := h
      obtain ⟨v1, v2⟩ := hv x (by simp [tgN])
      exact pg_nm hN ⟨x, q, rfl, of_decide_eq_true h', v1, v2⟩
    | _ => simp [chkT] at h
  | tp is =>
    cases e with
    | Tuple es kk pos =>
      simp only [chkT, Bool.and_eq_true, decide_eq_true_eq, List.all_eq_true] at h
      obtain ⟨h1, h2⟩ := h
      obtain ⟨r1, r2, r3⟩ := pgs_nm hN is es h1 fun p hp => by
        have q := h2 p hp
        have me : p.2 ∈ es := (List.of_mem_zip (a := p.1) (b := p.2) hp).2
        split at q
        · rename_i x qq ex
          obtain ⟨v1, v2⟩ := hv x (by
            unfold tgN
            exact List.mem_filterMap.mpr ⟨p.2, me, by rw [ex]⟩)
          exact ⟨x, qq, ex, of_decide_eq_true q, v1, v2⟩
        · cases q
      exact pg_tup hc r1 r2 r3
    | _ => simp [chkT] at h
theorem noSl_plain {e : Expr} (h : noSl e = true) : PlainIx e := by
  cases e <;> first | (simp [noSl] at h; done) | exact fun _ _ => rfl
theorem PTs.imp {ifs : List Expr} {t u : TT} (h : PTs X ifs t) (g : ∀ σ H Q, u σ H Q → t σ H Q) : PTs X ifs u := ⟨fun pins s σ H Q I q => h.run pins s σ H Q I (g _ _ _ q)⟩
/-- a comprehension's block is a place for expressions -/
theorem XOk.blk (ok : XOk G Φ C N sc k X) (s : Shared) (H : Hp) (scope : Scope) (A : Addr) (cl : List (Str × Addr)) (fp : List Addr) : XOk G Φ C N (relS scope sc) k (X.blk s H scope (compEnvC scope cl A X.env) fp) :=
  ⟨ok.N, by rw [← ok.sc]; rfl, ok.nd, ok.calm, ok.room, ok.un, ok.fns, ok.blt, ok.cst, ⟨ok.py.tree, ok.py.dep, ok.py.seer, ok.py.frs⟩⟩
theorem takes0' : Takes X W0 := fun u s' ⟨_, _, _, _, _, _, _, _, _, _, _, _, _, _, _, _, w⟩ => w.elim
theorem bf_gl {f : Bf} {g : Str} (h : g = bfN f) (hg : Gl X g) : Gl X (bfN f) := h ▸ hg
theorem chkI_ok (ok : XOk G Φ C N sc k X) {f : E → Expr → Bool} (IH : ∀ il e, f il e = true → Gd Φ C X W il e) {kk : ItK} {a b c : E} {tg : Tg} {it tgt : Expr} (h : chkI sc f kk a b c tg it = true) (hT : chkT N tg tgt = true) :
    PI X tgt it (rdI X.K W kk (wE Φ C a) (wE Φ C b) (wE Φ C c)) ∧ ∀ x, foldedSetIterable it X.env x = pure x := by
  unfold chkI at h
  split at h
  · rw [Bool.and_eq_true] at h
    refine ⟨ci_seq (IH _ _ h.1).pe, ?_⟩
    have h2 := h.2
    cases it <;> first | (simp at h2; done) | exact fun _ => rfl
  · simp only [Bool.and_eq_true, decide_eq_true_eq] at h
    obtain ⟨⟨rfl, h1⟩, h2⟩ := h
    exact ⟨ci_r1 ok (gl_of ok.sc h1) (IH _ _ h2).pe (IH _ _ h2).pl, fun _ => rfl⟩
  · simp only [Bool.and_eq_true, decide_eq_true_eq] at h
    obtain ⟨⟨⟨rfl, h1⟩, h2⟩, h3⟩ := h
    exact ⟨ci_r2 ok (gl_of ok.sc h1) (IH _ _ h2).pe (IH _ _ h3).pe (IH _ _ h2).pl (IH _ _ h3).pl, fun _ => rfl⟩
  · simp only [Bool.and_eq_true, decide_eq_true_eq] at h
    obtain ⟨⟨⟨⟨rfl, h1⟩, h2⟩, h3⟩, h4⟩ := h
    exact ⟨ci_r3 ok (gl_of ok.sc h1) (IH _ _ h2).pe (IH _ _ h3).pe (IH _ _ h4).pe (IH _ _ h2).pl (IH _ _ h3).pl (IH _ _ h4).pl, fun _ => rfl⟩
  · simp only [Bool.and_eq_true, decide_eq_true_eq] at h
    obtain ⟨⟨⟨⟨rfl, h1⟩, h2⟩, h3⟩, h4⟩ := h
    cases tg with
    | nm i => cases h4
    | tp is =>
      cases tgt with
      | Tuple es q pp => exact ⟨ci_zip ok (gl_of ok.sc h1) (IH _ _ h2).pe (IH _ _ h3).pe (IH _ _ h2).pl (IH _ _ h3).pl, fun _ => rfl⟩
      | _ => simp [chkT] at hT
  · cases h
end
end IL

/-! the check of an expression gives its reading: all forms -/
namespace IL
open PySem PySem.Spec PyProof.Rows L2
section
variable {G : GC} {Φ : Str → Spec} {C : Str → Option D} {N : List Str} {k : Nat}
theorem own_of {sc scope : Scope} {x : Str} (h : ownB sc scope x = true) : Loc (relS scope sc) x ∧ ((scope.names.lookup x == some .cell) = true ∨ (relS scope sc).names.lookup x = some .local) := by
  unfold ownB at h
  split at h
  · rename_i q; exact ⟨.inl q, .inr q⟩
  · rename_i q
    split at h
    · rename_i q2; exact ⟨.inr q, .inl (by rw [q2]; rfl)⟩
    · cases h
  · cases h
theorem gd_plain {X : Cx} {W : WX} {il : E} {e : Expr} (p : PE X e (rdE X.K W (wE Φ C il))) (t : ∀ whole, isTrue e X.env whole = (do let v ← whole; standAt e.pos; holding [v] (truthy v))) (q : Plain e) : Gd Φ C X W il e := ⟨p, pt_of p t, q⟩
theorem yes_ok {X : Cx} {W : WX} {K : PySem.W.Frag} {t : E} (h : isYes t = true) : PTs X [] (rdT K W (wE Φ C t)) := by
  have e : t = .bl true := by
    cases t with
    | bl b => cases b with
      | true => rfl
      | false => cases h
    | _ => cases h
  subst e
  refine PTs.imp pts_nil (fun σ H Q q => ?_)
  obtain ⟨w, ρ, μ, P, XX, st, S, hh, F, FX⟩ := q
  simp only [wE] at hh
  obtain ⟨c, ec, q⟩ := F _ μ w H hh .refl S
  cases ec
  exact q
theorem chkE_ok : ∀ (n : Nat) (il : E) (e : Expr) (sc : Scope) (X : Cx) (W : WX), XOk G Φ C N sc k X → Takes X W → chkE G N n sc il e = true → Gd Φ C X W il e := by
  intro n
  induction n with
  | zero => intro il e sc X W ok tk h; simp [chkE] at h
  | succ n ih =>
    intro il e sc X W ok tk h
    have IH : ∀ il e, chkE G N n sc il e = true → Gd Φ C X W il e := fun il e h => ih il e sc X W ok tk h
    have hu := ok.un
    have plain : ∀ {e : Expr} {w : WE}, PE X e (rdE X.K W w) → (∀ whole, isTrue e X.env whole = (do let v ← whole; standAt e.pos; holding [v] (truthy v))) → PT X e (rdT X.K W w) := fun p t => pt_of p t
    cases il with
    | nop => simp [chkE] at h
    | frz a =>
      simp only [chkE] at h
      split at h
      · have g := IH _ _ h
        refine ⟨?_, ?_, fun _ _ => rfl⟩
        · simp only [wE]; exact ce_frz g.pe
        · simp only [wE]; exact ct_frz g.pe
      · cases h
    | var i =>
      simp only [chkE] at h
      split at h
      · simp only [Bool.and_eq_true, decide_eq_true_eq] at h
        obtain ⟨d1, d2⟩ := dbg_of h.2
        exact gd_plain (ce_var (by rw [ok.N]; exact h.1.1) (by rw [ok.sc]; exact vis_of h.1.2) d1 d2) (fun _ => rfl) fun _ _ => rfl
      · cases h
    | glo y =>
      simp only [chkE] at h
      split at h
      · simp only [Bool.and_eq_true, decide_eq_true_eq] at h
        obtain ⟨⟨⟨rfl, h1⟩, h2⟩, h3⟩ := h
        exact gd_plain (ce_glo ok (gl_of ok.sc h1) h3 (dbg_of h2).1) (fun _ => rfl) fun _ _ => rfl
      · cases h
    | int i =>
      simp only [chkE] at h
      split at h
      · have h := of_decide_eq_true h
        subst h
        refine gd_plain ?_ (fun _ => rfl) (fun _ _ => rfl)
        simp only [wE]; exact ce_const pe_int fun _ _ _ => rv_int.mpr rfl
      · cases h
    | bl i =>
      simp only [chkE] at h
      split at h
      · have h := of_decide_eq_true h
        subst h
        refine gd_plain ?_ (fun _ => rfl) (fun _ _ => rfl)
        simp only [wE]; exact ce_const pe_bl fun _ _ _ => rv_bl.mpr rfl
      · cases h
    | non =>
      simp only [chkE] at h
      split at h
      · refine gd_plain ?_ (fun _ => rfl) (fun _ _ => rfl)
        simp only [wE]; exact ce_const pe_non fun _ _ _ => rv_non.mpr rfl
      · cases h
    | str i =>
      simp only [chkE] at h
      split at h
      · have h := of_decide_eq_true h
        subst h
        refine gd_plain ?_ (fun _ => rfl) (fun _ _ => rfl)
        simp only [wE]; exact ce_const pe_str fun _ _ _ => rv_str.mpr rfl
      · cases h
    | tup xs =>
      simp only [chkE] at h
      split at h
      · refine gd_plain ?_ (fun _ => rfl) (fun _ _ => rfl)
        simp only [wE]; exact ce_tup (chkL_ok IH _ _ h).1
      · cases h
    | lst own xs =>
      simp only [chkE] at h
      split at h
      · refine gd_plain ?_ (fun _ => rfl) (fun _ _ => rfl)
        simp only [wE]; exact ce_lst (chkL_ok IH _ _ h).1
      · cases h
    | bin own o a b =>
      simp only [chkE] at h
      split at h
      · simp only [Bool.and_eq_true, decide_eq_true_eq] at h
        obtain ⟨⟨rfl, h1⟩, h2⟩ := h
        refine gd_plain ?_ (fun _ => rfl) (fun _ _ => rfl)
        simp only [wE]; exact ce_bin ok.py (IH _ _ h1).pe (IH _ _ h2).pe
      · cases h
    | neg a =>
      simp only [chkE] at h
      split at h
      · refine gd_plain ?_ (fun _ => rfl) (fun _ _ => rfl)
        simp only [wE]; exact ce_neg (IH _ _ h).pe
      · cases h
    | not a =>
      simp only [chkE] at h
      split at h
      · refine ⟨?_, ?_, fun _ _ => rfl⟩
        · simp only [wE]; exact ce_not (IH _ _ h).pt (IH _ _ h).pe
        · simp only [wE]; exact ct_not (IH _ _ h).pt
      · cases h
    | cmp c a b =>
      simp only [chkE] at h
      split at h
      · simp only [Bool.and_eq_true, decide_eq_true_eq, Bool.not_eq_true'] at h
        obtain ⟨⟨⟨rfl, h1⟩, h2⟩, h3⟩ := h
        refine ⟨?_, ?_, fun _ _ => rfl⟩
        · simp only [wE]; exact ce_cmp hu (IH _ _ h2).pe (IH _ _ h3).pe h1
        · simp only [wE]; exact ct_cmp hu (IH _ _ h2).pe (IH _ _ h3).pe h1
      · cases h
    | chn c d a b x =>
      simp only [chkE] at h
      split at h
      · simp only [Bool.and_eq_true, decide_eq_true_eq, Bool.not_eq_true'] at h
        obtain ⟨⟨⟨⟨⟨rfl, rfl⟩, h1⟩, h2⟩, h3⟩, h4⟩ := h
        refine ⟨?_, ?_, fun _ _ => rfl⟩
        · simp only [wE]; exact ce_chn hu (IH _ _ h2).pe (IH _ _ h3).pe (IH _ _ h4).pe h1
        · simp only [wE]; exact ct_chn hu (IH _ _ h2).pe (IH _ _ h3).pe (IH _ _ h4).pe h1
      · cases h
    | and p q =>
      simp only [chkE] at h
      split at h
      · obtain ⟨r1, r2⟩ := chkB_ok IH _ _ _ _ h
        exact ⟨r1, r2.pt, fun _ _ => rfl⟩
      · cases h
    | or p q =>
      simp only [chkE] at h
      split at h
      · obtain ⟨r1, r2⟩ := chkB_ok IH _ _ _ _ h
        exact ⟨r1, r2.pt, fun _ _ => rfl⟩
      · cases h
    | ite t a b =>
      simp only [chkE] at h
      split at h
      · simp only [Bool.and_eq_true] at h
        obtain ⟨⟨h1, h2⟩, h3⟩ := h
        refine ⟨?_, ?_, fun _ _ => rfl⟩
        · simp only [wE]; exact ce_ite (IH _ _ h1).pt (IH _ _ h2).pe (IH _ _ h3).pe
        · simp only [wE]; exact ct_ite (IH _ _ h1).pt (IH _ _ h2).pt (IH _ _ h3).pt
      · cases h
    | idx a i =>
      simp only [chkE] at h
      split at h
      · simp only [Bool.and_eq_true] at h
        obtain ⟨⟨h1, h2⟩, h3⟩ := h
        refine gd_plain ?_ (fun _ => rfl) (fun _ _ => rfl)
        simp only [wE]; exact ce_idx (IH _ _ h2).pe (IH _ _ h3).pe (noSl_plain h1)
      · cases h
    | slc own a lo hi =>
      simp only [chkE] at h
      split at h
      · simp only [Bool.and_eq_true] at h
        obtain ⟨⟨h1, h2⟩, h3⟩ := h
        refine gd_plain ?_ (fun _ => rfl) (fun _ _ => rfl)
        simp only [wE]; exact ce_slc (IH _ _ h1).pe (chkP_ok IH h2) (chkP_ok IH h3)
      · cases h
    | rev own a =>
      simp only [chkE] at h
      split at h
      · simp only [Bool.and_eq_true, decide_eq_true_eq] at h
        obtain ⟨rfl, h2⟩ := h
        refine gd_plain ?_ (fun _ => rfl) (fun _ _ => rfl)
        simp only [wE]; exact ce_rev (IH _ _ h2).pe
      · cases h
    | call f xs =>
      simp only [chkE] at h
      split at h
      · rename_i g _ args pos
        simp only [Bool.and_eq_true, decide_eq_true_eq] at h
        obtain ⟨⟨⟨⟨⟨h0, rfl⟩, h1⟩, h2⟩, h3⟩, h4⟩ := h
        have cool : G.hot = false := by simpa using h0
        obtain ⟨r1, r2, r3⟩ := chkL_ok IH _ _ h4
        refine gd_plain (by
          simp only [wE]
          refine ce_call ok cool tk h3 (gl_of ok.sc h1) (dbg_of h2).1 (fun _ => ⟨_, rfl⟩) r1 (fun e r he => ?_) (fun he σ H Q q => ?_)
          · subst he
            cases xs with
            | nil => simp [chkL] at h4
            | cons x xs =>
              simp only [chkL, Bool.and_eq_true] at h4
              exact ⟨(IH _ _ h4.1).pl _ _, (chkL_ok IH _ _ h4.2).2.1 _⟩
          · subst he
            cases xs with
            | cons x xs => simp [chkL] at h4
            | nil =>
              obtain ⟨w, ρ, μ, P, XX, st, S, hh, F, FX⟩ := q
              simp only [wEs] at hh
              exact F [] μ w H [] hh .refl S .mk_nil) (fun _ => rfl) (fun _ _ => rfl)
      · cases h
    | bf own b xs =>
      simp only [chkE] at h
      split at h
      · rename_i g _ args pos
        simp only [Bool.and_eq_true, Bool.or_eq_true, decide_eq_true_eq, Bool.not_eq_true'] at h
        obtain ⟨⟨⟨⟨h0, rfl⟩, h1⟩, h2⟩, h4⟩ := h
        have cool : X.calm = true ∨ coolB b = true := h0.imp ok.calm id
        cases args with
        | nil => simp at h2
        | cons a args =>
          obtain ⟨r1, r2, r3⟩ := chkL_ok IH _ _ h4
          refine gd_plain (by
            simp only [wE]
            cases xs with
            | nil => simp [chkL] at h4
            | cons x xs =>
              simp only [chkL, Bool.and_eq_true] at h4
              exact ce_bf ok cool (gl_of ok.sc h1) r1 ((IH _ _ h4.1).pl _ _) ((chkL_ok IH _ _ h4.2).2.1 _)) (fun _ => rfl) (fun _ _ => rfl)
      · cases h
    | isi t a =>
      simp only [chkE] at h
      split at h
      · simp only [Bool.and_eq_true, decide_eq_true_eq] at h
        obtain ⟨⟨⟨⟨rfl, h1⟩, rfl⟩, h3⟩, h4⟩ := h
        refine gd_plain ?_ (fun _ => rfl) (fun _ _ => rfl)
        simp only [wE]; exact ce_isi ok (gl_of ok.sc h1) (gl_of ok.sc h3) (IH _ _ h4).pe (IH _ _ h4).pl
      · cases h
    | comp own kk a b c tg t y =>
      simp only [chkE] at h
      split at h
      · rename_i elt tgt it ifs asy scope pos
        simp only [Bool.and_eq_true, decide_eq_true_eq, List.all_eq_true] at h
        obtain ⟨⟨⟨⟨⟨⟨⟨⟨h0, rfl⟩, h1⟩, h2⟩, h3⟩, h4⟩, h5⟩, h6⟩, h7⟩ := h
        have cool : G.hot = false := by simpa using h0
        obtain ⟨r1, r2⟩ := chkI_ok ok IH h5 h3
        refine gd_plain (by
          simp only [wE]
          refine ce_comp (ol := (tgN tgt).zip tg.slots) ok cool r1 (blkOk_by (by rw [ok.N, ok.sc]; exact h1)) ?_ (fun s H A cl fp => ?_) (fun s H A cl fp => ?_) (fun s H A cl fp => ?_) r2
          · rw [List.map_snd_zip]
            omega
          · refine pg_tg ok.nd (ok.calm cool) (by show chkT X.N tg tgt = true; rw [ok.N]; exact h3) fun x hx => ?_
            have q := own_of (h4 x hx)
            refine ⟨?_, q.2.imp id fun z => ?_⟩
            · rw [← ok.sc] at q; exact q.1
            · rw [← ok.sc] at z; exact z
          · have okb := ok.blk s H scope A cl fp
            split at h6
            · exact yes_ok h6
            · exact pts_one (ih _ _ _ _ _ okb takes0' h6).pt
            · cases h6
          · exact (ih _ _ _ _ _ (ok.blk s H scope A cl fp) takes0' h7).pe) (fun _ => rfl) (fun _ _ => rfl)
      · cases h
    | pop a =>
      simp only [chkE] at h
      split at h
      · simp only [Bool.and_eq_true, decide_eq_true_eq] at h
        obtain ⟨⟨rfl, h1⟩, h2⟩ := h
        refine gd_plain ?_ (fun _ => rfl) (fun _ _ => rfl)
        simp only [wE]; exact ce_pop (IH _ _ h2).pe (by rw [h1]; exact beq_self_eq_true _)
      · cases h
    | app a b =>
      simp only [chkE] at h
      split at h
      · simp only [Bool.and_eq_true, decide_eq_true_eq] at h
        obtain ⟨⟨⟨rfl, h1⟩, h2⟩, h3⟩ := h
        refine gd_plain ?_ (fun _ => rfl) (fun _ _ => rfl)
        simp only [wE]; exact ce_app (IH _ _ h2).pe (IH _ _ h3).pe (IH _ _ h3).pl (by rw [h1]; exact beq_self_eq_true _)
      · cases h
end
end IL

/-! a check of statements; what it gives -/
namespace IL
open PySem PySem.Spec PyProof.Rows L2
def notLC : Expr → Bool
  | .ListComp .. => false
  | .SetComp .. => false
  | .DictComp .. => false
  | _ => true
def notTup : Expr → Bool
  | .Tuple .. => false
  | _ => true
/-- how a pair of targets is stored -/
def swpB (sc : Scope) (ts vs : List Expr) : Option (Option (List Str)) :=
  if (!(ts.length == 2 || ts.length == 3) || vs.length != ts.length) = true then some none
  else if (vs.any fun | .Starred .. => true | _ => false) = true then some none
  else
    let line := (ts.head?.map (·.pos.line)).getD 0
    let names := ts.filterMap fun
      | .Name id pos => if sc.names.lookup id == some .local && pos.line == line then some id else none
      | _ => none
    if (names.length != ts.length || names.eraseDups.length != names.length) = true then some none
    else if (vs.all (foldedForSure 8)) = true then some none
    else if (vs.all (constantsAlone 8)) = true then none
    else some (some names)
def isFunc (sc : Scope) : Bool := match sc.kind with
  | .function => true
  | _ => false
def lcSwap (sc scope : Scope) (x : Str) (l m : Nat) : Bool := sc.names.lookup x == some .local && l == m && !(scope.names.any fun (n, k) => n == x && (k == .local || k == .cell))
def chkSs (f : S → Stmt → Bool) : Ss → List Stmt → Bool
  | .nil, [] => true
  | .cons s ss, t :: ts => f s t && chkSs f ss ts
  | _, _ => false
def chkHs (G : GC) (sc : Scope) (f : Ss → List Stmt → Bool) : Hs → List ExceptHandler → Bool
  | .nil, [] => true
  | .cons x s hs, .ExceptHandler (some (.Name y _)) none (b :: body) _ :: r => decide (x = y) && decide (x ∈ G.exs) && glB sc x && dbgB x && f s (b :: body) && chkHs G sc f hs r
  | _, _ => false
section
variable (N : List Str) (sc : Scope)
def chkS : Nat → GC → S → Stmt → Bool
  | 0, _, _, _ => false
  | n + 1, G, s, t => match s with
    | .pass => (match t with | .Pass _ => true | _ => false)
    | .brk => (match t with | .Break _ => true | _ => false)
    | .cnt => (match t with | .Continue _ => true | _ => false)
    | .retn => (match t with | .Return none _ => true | _ => false)
    | .ret e => (match t with | .Return (some x) _ => chkE G N n sc e x | _ => false)
    | .exp e => (match t with | .Expr x _ => notLC x && chkE G N n sc e x | _ => false)
    | .set i e => (match t with
      | .Assign [.Name x q] v p => decide (N[i]? = some x) && locB sc x && (match v with
        | .ListComp elt gs scope pp => !G.hot && decide (q.line = pp.line) && chkE G N n sc e v
        | _ => notLC v && chkE G N n sc e v)
      | _ => false)
    | .aug i o e => (match t with
      | .AugAssign (.Name x _) op v _ => decide (N[i]? = some x) && locB sc x && decide (op = opB o) && (decide (o = .add) || decide (o = .sub)) && chkE G N n sc e v
      | _ => false)
    | .par is es => (match t with
      | .Assign [.Tuple ts kt pt] (.Tuple vs kv pv) _ => !G.hot && chkL (chkE G N n sc) es vs && chkT N (.tp is) (.Tuple ts kt pt) && (tgN (.Tuple ts kt pt)).all (locB sc) && decide (is.length ≤ 1000) && (match swpB sc ts vs with
        | some none => true
        | some (some ns) => (match is, ts, vs with
          | [i, j], [.Name x _, .Name y _], [_, _] => decide (ns = [x, y]) && decide (i ≠ j) && decide (sc.names.lookup x = some .local) && decide (sc.names.lookup y = some .local)
          | [i, j, l], [.Name x _, .Name y _, .Name z _], [_, _, _] => decide (ns = [x, y, z]) && decide (i ≠ j) && decide (i ≠ l) && decide (j ≠ l) && decide (sc.names.lookup x = some .local) && decide (sc.names.lookup y = some .local) && decide (sc.names.lookup z = some .local)
          | _, _, _ => false)
        | none => false)
      | _ => false)
    | .unp is e => (match t with
      | .Assign [.Tuple ts kt pt] v _ => !G.hot && notTup v && notLC v && chkE G N n sc e v && chkT N (.tp is) (.Tuple ts kt pt) && (tgN (.Tuple ts kt pt)).all (locB sc)
      | _ => false)
    | .seti o i e => (match t with
      | .Assign [.Subscript a b _] v _ => noSl b && chkE G N n sc e v && chkE G N n sc o a && chkE G N n sc i b
      | _ => false)
    | .swap o i p j a b => (match t with
      | .Assign [.Tuple [.Subscript o' i' q1, .Subscript p' j' q2] _ _] (.Tuple [a', b'] _ _) _ => !G.hot && (match swpB sc [.Subscript o' i' q1, .Subscript p' j' q2] [a', b'] with | some none => true | _ => false) && noSl i' && noSl j' && chkE G N n sc o o' && chkE G N n sc i i' && chkE G N n sc p p' && chkE G N n sc j j' && chkE G N n sc a a' && chkE G N n sc b b'
      | _ => false)
    | .ite c a b => (match t with | .If x A B _ => chkE G N n sc c x && chkSs (chkS n G) a A && chkSs (chkS n G) b B | _ => false)
    | .whl c a => (match t with | .While x A [] _ => !G.hot && chkE G N n sc c x && chkSs (chkS n G) a A | _ => false)
    | .loop k a b c tg s => (match t with
      | .For tgt it body [] _ => !G.hot && chkI sc (chkE G N n sc) k a b c tg it && chkT N tg tgt && (tgN tgt).all (locB sc) && chkSs (chkS n G) s body
      | _ => false)
    | .raise x => (match t with
      | .Raise (some (.Call (.Name y _) [.Constant (.str _) _ _] [] _)) none _ => !G.hot && decide (x = y) && decide (x ∈ G.exs) && glB sc x && dbgB x
      | _ => false)
    | .tr b x s hs => (match t with
      | .Try body hds [] [] _ => !G.hot && chkSs (chkS n G) b body && chkHs G sc (fun s b => chkSs (chkS n G.suite) s b) (.cons x s hs) hds
      | _ => false)
end
/-- where a statement stands: a def's frame -/
structure SOk (G : GC) (Φ : Str → Spec) (C : Str → Option D) (U : Str → Str → Option Bool) (N : List Str) (sc : Scope) (k : Nat) (X : Cx) : Prop extends XOk G Φ C N sc k X where
  kind : X.env.scope.kind = .function
  fn : ∀ x, X.fn x = true
  stk : X.stack = X.env :: X.outer
  frm : X.env.frame = some X.env.locals
  pass : PassesOwn (model X.prog X.w) X.A X.env X.xe
  exs : ∀ x ∈ G.exs, X.mg x = some (.ref (He.ga X.K x)) ∧ PySem.W.excIn X.K (He.ga X.K x) He.veBase "ValueError.__new__" = true ∧ PySem.W.keepIn X.K (.ref (He.ga X.K x)) = true ∧ Raises X (.ref (He.ga X.K x))
  exm : ∀ x y m, U x y = some m → PySem.W.exmOne X.K (.ref (He.ga X.K x)) (.ref (He.ga X.K y)) = some m
section
variable (K : PySem.W.Frag)
/-- the ends meet -/
structure EOk (w : Wd) (H : Hp) (W : WX) (T : Ends) (M : Ctl) : Prop where
  nx : ∀ ρ' μ' w' H' σ', M.nx ρ' μ' → Ext K w H w' H' → RSt K w' H' σ' ρ' → RS K w' H' μ' → T.nx σ' H'
  bk : ∀ ρ' μ' w' H' σ', M.bk ρ' μ' → Ext K w H w' H' → RSt K w' H' σ' ρ' → RS K w' H' μ' → T.bk σ' H'
  ct : ∀ ρ' μ' w' H' σ', M.ct ρ' μ' → Ext K w H w' H' → RSt K w' H' σ' ρ' → RS K w' H' μ' → T.ct σ' H'
  rt : Fin K w H M.rt T.rt
  ex : ∀ x ρ' μ' w' H' σ', M.ex x ρ' μ' → Ext K w H w' H' → RSt K w' H' σ' ρ' → RS K w' H' μ' → ∀ dd, W (.ref (He.ga K x)) dd σ' H'
def rdS (W : WX) (s : WS) : TS := fun T σ H => ∃ (w : Wd) (ρ : Env) (μ : Store) (M : Ctl), RSt K w H σ ρ ∧ RS K w H μ ∧ s ρ μ M ∧ EOk K w H W T M
end
section
variable {K : PySem.W.Frag} {w w' : Wd} {H H' : Hp} {W : WX} {T : Ends} {M : Ctl} {σ : L2.St} {ρ : Env} {μ : Store}
theorem EOk.ext (h : EOk K w H W T M) (x : Ext K w H w' H') : EOk K w' H' W T M :=
  ⟨fun r m w2 H2 s2 q y => h.nx r m w2 H2 s2 q (x.trans y), fun r m w2 H2 s2 q y => h.bk r m w2 H2 s2 q (x.trans y), fun r m w2 H2 s2 q y => h.ct r m w2 H2 s2 q (x.trans y), x.fin h.rt, fun y r m w2 H2 s2 q z => h.ex y r m w2 H2 s2 q (x.trans z)⟩
theorem EOk.finX (h : EOk K w H W T M) (st : RSt K w H σ ρ) : FinX K w H W σ (fun x μ1 => M.ex x ρ μ1) := fun x μ' w' H' q y S dd => h.ex x ρ μ' w' H' σ q y (st.ext y.toExt0) S dd
end
section
variable {X : Cx} {st : Stmt} {sts : List Stmt} {W : WX} {wa wb wc : WE} {e a b : Expr} {pos : Pos}
theorem PS.imp {t u : TS} (h : PS X st t) (g : ∀ T σ H, u T σ H → t T σ H) : PS X st u := ⟨fun pins s σ H T I q => h.run pins s σ H T I (g _ _ _ q)⟩
theorem PSs.imp {t u : TS} (h : PSs X sts t) (g : ∀ T σ H, u T σ H → t T σ H) : PSs X sts u := ⟨fun pins s σ H T I q => h.run pins s σ H T I (g _ _ _ q)⟩
theorem cs_ret (h : PE X e (rdE X.K W wa)) : PS X (.Return (some e) pos) (rdS X.K W fun ρ μ M => wa ρ μ M.rt fun x μ1 => M.ex x ρ μ1) :=
  PS.imp (ps_ret h) fun T σ H ⟨w, ρ, μ, M, st, S, h, E⟩ => ⟨w, ρ, μ, _, _, st, S, h, E.rt, E.finX st⟩
theorem cs_retn : PS X (.Return none pos) (rdS X.K W fun _ μ M => M.rt .non μ) :=
  PS.imp ps_retN fun T σ H ⟨w, ρ, μ, M, st, S, h, E⟩ => Fin.here E.rt S h (rv_non.mpr rfl)
theorem cs_pass : PS X (.Pass pos) (rdS X.K W fun ρ μ M => M.nx ρ μ) := PS.imp ps_pass fun T σ H ⟨w, ρ, μ, M, st, S, h, E⟩ => E.nx _ _ w H σ h .refl st S
theorem cs_brk : PS X (.Break pos) (rdS X.K W fun ρ μ M => M.bk ρ μ) := PS.imp ps_break fun T σ H ⟨w, ρ, μ, M, st, S, h, E⟩ => E.bk _ _ w H σ h .refl st S
theorem cs_cnt : PS X (.Continue pos) (rdS X.K W fun ρ μ M => M.ct ρ μ) := PS.imp ps_continue fun T σ H ⟨w, ρ, μ, M, st, S, h, E⟩ => E.ct _ _ w H σ h .refl st S
theorem swaps_no {e : Expr} {t : Option Expr} {l : Nat} {env : PySem.Env} (h : notLC e = true) : swapsWith e t l env = pure false := by
  cases e <;> first | (simp [notLC] at h; done) | rfl
theorem cs_exp (h : PE X e (rdE X.K W wa)) (hn : notLC e = true) : PS X (.Expr e pos) (rdS X.K W fun ρ μ M => wa ρ μ (fun _ μ1 => M.nx ρ μ1) fun x μ1 => M.ex x ρ μ1) :=
  PS.imp (ps_expr h (swaps_no hn)) fun T σ H ⟨w, ρ, μ, M, st, S, h, E⟩ => ⟨w, ρ, μ, _, _, st, S, h, fun d μ1 w1 H1 v h1 x1 S1 r => E.nx _ _ w1 H1 σ h1 x1 (st.ext x1.toExt0) S1, E.finX st⟩
theorem rd_set {K : PySem.W.Frag} {i : Nat} {T : Ends} {σ : L2.St} {H : Hp} (h : rdS K W (fun ρ μ M => wa ρ μ (fun d μ1 => M.nx (ρ.set i (some d)) μ1) fun x μ1 => M.ex x ρ μ1) T σ H) : tAsg (rdE K W wa) (gName i) T σ H := by
  obtain ⟨w, ρ, μ, M, st, S, h, E⟩ := h
  exact ⟨w, ρ, μ, _, _, st, S, h, fun d μ1 w1 H1 v h1 x1 S1 r => E.nx _ _ w1 H1 _ h1 x1 ((st.ext x1.toExt0).set r) S1, E.finX st⟩
theorem cs_set {i : Nat} {x : Str} {q : Pos} (hN : X.N.Nodup) (hi : X.N[i]? = some x) (hx : Loc X.env.scope x) (hf : X.fn x = true) (h : PE X e (rdE X.K W wa)) (hs : swapsWith e (some (.Name x q)) pos.line X.env = pure false) :
    PS X (.Assign [.Name x q] e pos) (rdS X.K W fun ρ μ M => wa ρ μ (fun d μ1 => M.nx (ρ.set i (some d)) μ1) fun x μ1 => M.ex x ρ μ1) :=
  PS.imp (ps_set hN hi hx h hs (.inl hf)) fun T σ H h => rd_set h
theorem cs_aug {i : Nat} {x : Str} {o : Bop} {q : Pos} (ho : o = .add ∨ o = .sub) (hN : X.N.Nodup) (hi : X.N[i]? = some x) (hx : Loc X.env.scope x) (hf : X.fn x = true) (h : PE X e (rdE X.K W wa)) :
    PS X (.AugAssign (.Name x q) (opB o) e pos) (rdS X.K W fun ρ μ M => ∃ x, ρ[i]? = some (some x) ∧ wa ρ μ (fun y μ1 => ∃ a b, x = .int a ∧ y = .int b ∧ (o = .add ∧ M.nx (ρ.set i (some (.int (a + b)))) μ1 ∨ o = .sub ∧ M.nx (ρ.set i (some (.int (a - b)))) μ1)) fun x μ1 => M.ex x ρ μ1) := by
  have go : ∀ (f : Int → Int → Int), PIp X (opB o) (ipI f) → (∀ a b, f a b = if o = .add then a + b else a - b) → PS X (.AugAssign (.Name x q) (opB o) e pos) (rdS X.K W fun ρ μ M => ∃ x, ρ[i]? = some (some x) ∧ wa ρ μ (fun y μ1 => ∃ a b, x = .int a ∧ y = .int b ∧ (o = .add ∧ M.nx (ρ.set i (some (.int (a + b)))) μ1 ∨ o = .sub ∧ M.nx (ρ.set i (some (.int (a - b)))) μ1)) fun x μ1 => M.ex x ρ μ1) := fun f hp hf2 =>
    PS.imp (ps_aug hN hi hx h hp (.inl hf)) fun T σ H ⟨w, ρ, μ, M, st, S, h, E⟩ => by
      obtain ⟨d, e1, h⟩ := h
      obtain ⟨v, e2, r⟩ := st.at_ i d e1
      refine ⟨v, e2, w, ρ, μ, _, _, st, S, h, fun y μ1 w1 H1 u h1 x1 S1 r1 => ?_, E.finX st⟩
      obtain ⟨a, b, rfl, rfl, h1⟩ := h1
      refine ⟨a, b, rv_int.mp r, rv_int.mp r1, ?_⟩
      rcases h1 with ⟨eo, h1⟩ | ⟨eo, h1⟩
      · rw [hf2, if_pos eo]
        exact E.nx _ _ w1 H1 _ h1 x1 ((st.ext x1.toExt0).set (rv_int.mpr rfl)) S1
      · rw [hf2, if_neg (by rw [eo]; exact fun z => nomatch z)]
        exact E.nx _ _ w1 H1 _ h1 x1 ((st.ext x1.toExt0).set (rv_int.mpr rfl)) S1
  rcases ho with rfl | rfl
  · exact go (fun i j => i + j) ip_add fun a b => by simp
  · exact go (fun i j => i - j) ip_sub fun a b => by simp
theorem setV_ok {K : PySem.W.Frag} {w : Wd} {H : Hp} : ∀ {is : List Nat} {l : List D} {vs : List V} {σ : L2.St} {ρ : Env}, RVs K w H l vs → RSt K w H σ ρ → RSt K w H (setV σ is vs) (setMany ρ is l)
  | [], l, vs, σ, ρ, r, st => st
  | i :: is, [], vs, σ, ρ, r, st => by rw [r.nil]; exact st
  | i :: is, d :: l, vs, σ, ρ, r, st => by
    obtain ⟨v, us, rfl, p, t⟩ := r.uncons
    exact setV_ok (is := is) t (st.set p)
theorem ifs_ok {c1 c2 c3 c4 c5 : Prop} [Decidable c1] [Decidable c2] [Decidable c3] [Decidable c4] [Decidable c5] {r : Option (List Str)} {n : List Str} {u : Sem (Option (List Str))}
    (h : (if c1 then some none else if c2 then some none else if c3 then some none else if c4 then some none else if c5 then none else some (some n)) = some r) :
    (if c1 then (pure none : Sem (Option (List Str))) else if c2 then pure none else if c3 then pure none else if c4 then pure none else if c5 then u else pure (some n)) = pure r := by
  by_cases h1 : c1
  · rw [if_pos h1] at h ⊢; cases h; rfl
  · rw [if_neg h1] at h ⊢
    by_cases h2 : c2
    · rw [if_pos h2] at h ⊢; cases h; rfl
    · rw [if_neg h2] at h ⊢
      by_cases h3 : c3
      · rw [if_pos h3] at h ⊢; cases h; rfl
      · rw [if_neg h3] at h ⊢
        by_cases h4 : c4
        · rw [if_pos h4] at h ⊢; cases h; rfl
        · rw [if_neg h4] at h ⊢
          by_cases h5 : c5
          · rw [if_pos h5] at h; cases h
          · rw [if_neg h5] at h ⊢; cases h; rfl
theorem swp_ok {sc : Scope} {ts vs : List Expr} {kt kv : Nat} {pt pv : Pos} {r : Option (List Str)} (hs : X.env.scope = sc) (hk : X.env.scope.kind = .function) (h : swpB sc ts vs = some r) : swappedStores [.Tuple ts kt pt] (.Tuple vs kv pv) X.env = pure r := by
  subst hs
  have bk : (X.env.blockKind != .function) = false := by
    unfold Env.blockKind
    rw [hk]; rfl
  unfold swappedStores
  simp only [bk, Bool.or_false]
  exact ifs_ok h
theorem cs_unp {is : List Nat} {ts : List Expr} {kt : Nat} {pt : Pos} (hc : X.calm = true) (hN : X.N.Nodup) (hl : is.length = ts.length) (hn : ∀ p ∈ is.zip ts, NmOk X p.1 p.2) (h : PE X e (rdE X.K W wa)) (h1 : notLC e = true) (h2 : notTup e = true) :
    PS X (.Assign [.Tuple ts kt pt] e pos) (rdS X.K W fun ρ μ M => wa ρ μ (fun d μ1 => ∃ l, seqA μ1 d = some l ∧ l.length = is.length ∧ M.nx (setMany ρ is l) μ1) fun x μ1 => M.ex x ρ μ1) := by
  obtain ⟨r1, r2, r3⟩ := pgs_nm hN is ts hl hn
  have g1 : PG X (.Tuple ts kt pt) (gTup X.K is.length (gNames is)) := pg_tup hc r1 r2 r3
  have g2 : PG X (.Tuple ts kt pt) (gLst X.K is.length (gNames is)) := pg_lst hc r1 r2 r3
  have g : PG X (.Tuple ts kt pt) (fun v σ H Q => gTup X.K is.length (gNames is) v σ H Q ∨ gLst X.K is.length (gNames is) v σ H Q) := ⟨fun pins s σ H v u Q I r q => q.elim (g1.run pins s σ H v u Q I r) (g2.run pins s σ H v u Q I r)⟩
  have hw : swappedStores [.Tuple ts kt pt] e X.env = pure none := by
    cases e <;> first | (simp [notTup] at h2; done) | rfl
  refine PS.imp (ps_asg h g (show swapsWith e (some (.Tuple ts kt pt)) pos.line X.env = pure false from swaps_no h1) hw rfl) fun T σ H ⟨w, ρ, μ, M, st, S, h, E⟩ => ⟨w, ρ, μ, _, _, st, S, h, fun d μ1 w1 H1 v h1 x1 S1 r => ?_, E.finX st⟩
  obtain ⟨l, e1, e2, h1⟩ := h1
  obtain ⟨a, vs, rfl, t, q | ⟨_, _, q⟩⟩ := seqA_ok S1 r e1
  · exact .inl ⟨a, vs, rfl, q.2, by rw [← t.length]; exact e2, gNames_ok e2 t (st.ext x1.toExt0) fun σ' st' => E.nx _ _ w1 H1 _ h1 x1 st' S1⟩
  · exact .inr ⟨a, vs, rfl, q, by rw [← t.length]; exact e2, gNames_ok e2 t (st.ext x1.toExt0) fun σ' st' => E.nx _ _ w1 H1 _ h1 x1 st' S1⟩
theorem cs_par {ws : WEs} {is : List Nat} {ts vs : List Expr} {kt kv : Nat} {pt pv : Pos} (hc : X.calm = true) (hN : X.N.Nodup) (hl : is.length = ts.length) (hn : ∀ p ∈ is.zip ts, NmOk X p.1 p.2) (h : PA X vs (rdA X.K W ws))
    (hw : swappedStores [.Tuple ts kt pt] (.Tuple vs kv pv) X.env = pure none) (hz : is.length ≤ sizeLine) :
    PS X (.Assign [.Tuple ts kt pt] (.Tuple vs kv pv) pos) (rdS X.K W fun ρ μ M => ws ρ μ (fun ds μ1 => ds.length = is.length ∧ M.nx (setMany ρ is ds) μ1) fun x μ1 => M.ex x ρ μ1) := by
  obtain ⟨r1, r2, r3⟩ := pgs_nm hN is ts hl hn
  have g1 : PG X (.Tuple ts kt pt) (gTup X.K is.length (gNames is)) := pg_tup hc r1 r2 r3
  refine PS.imp (ps_asg (pe_tup h) g1 rfl hw rfl) fun T σ H ⟨w, ρ, μ, M, st, S, h, E⟩ => ⟨w, ρ, μ, _, _, st, S, h, fun ds μ1 w1 H1 us h1 x1 S1 r => ⟨by rw [← r.length, h1.1]; exact hz, fun p hp => ?_⟩, E.finX st⟩
  have x2 : Ext X.K w1 H1 w1 (upd H1 p (.tup us)) := Ext.new hp List.prefix_rfl fun _ h => h
  exact ⟨p, us, rfl, .of upd_same, by rw [← r.length]; exact h1.1, gNames_ok h1.1 (r.ext x2.toExt0) ((st.ext x1.toExt0).ext x2.toExt0) fun σ' st' => E.nx _ _ w1 _ _ h1.2 (x1.trans x2) st' (S1.keep hp)⟩
theorem cs_par2 {ws : WEs} {i j : Nat} {x y : Str} {px py pt pv : Pos} {kt kv : Nat} (hc : X.calm = true) (hN : X.N.Nodup) (hi : X.N[i]? = some x) (hj : X.N[j]? = some y) (hij : i ≠ j) (hx : X.env.scope.names.lookup x = some .local) (hy : X.env.scope.names.lookup y = some .local) (h : PA X [a, b] (rdA X.K W ws))
    (hw : swappedStores [.Tuple [.Name x px, .Name y py] kt pt] (.Tuple [a, b] kv pv) X.env = pure (some [x, y])) :
    PS X (.Assign [.Tuple [.Name x px, .Name y py] kt pt] (.Tuple [a, b] kv pv) pos) (rdS X.K W fun ρ μ M => ws ρ μ (fun ds μ1 => ds.length = [i, j].length ∧ M.nx (setMany ρ [i, j] ds) μ1) fun x μ1 => M.ex x ρ μ1) :=
  PS.imp (ps_par hc hN hi hj hij hx hy h hw) fun T σ H ⟨w, ρ, μ, M, st, S, h, E⟩ => ⟨w, ρ, μ, _, _, st, S, h, fun ds μ1 w1 H1 us h1 x1 S1 r => by
    obtain ⟨hl, h1⟩ := h1
    match ds, hl, h1, r with
    | [d, e], _, h1, r =>
      obtain ⟨v, u, rfl, r1, r2⟩ := rvs2 r
      exact ⟨v, u, rfl, E.nx _ _ w1 H1 _ h1 x1 (setV_ok (is := [i, j]) r (st.ext x1.toExt0)) S1⟩, E.finX st⟩
theorem cs_par3 {ws : WEs} {c : Expr} {i j l : Nat} {x y z : Str} {px py pz pt pv : Pos} {kt kv : Nat} (hc : X.calm = true) (hN : X.N.Nodup) (hi : X.N[i]? = some x) (hj : X.N[j]? = some y) (hl : X.N[l]? = some z) (hij : i ≠ j) (hil : i ≠ l) (hjl : j ≠ l)
    (hx : X.env.scope.names.lookup x = some .local) (hy : X.env.scope.names.lookup y = some .local) (hz : X.env.scope.names.lookup z = some .local) (h : PA X [a, b, c] (rdA X.K W ws))
    (hw : swappedStores [.Tuple [.Name x px, .Name y py, .Name z pz] kt pt] (.Tuple [a, b, c] kv pv) X.env = pure (some [x, y, z])) :
    PS X (.Assign [.Tuple [.Name x px, .Name y py, .Name z pz] kt pt] (.Tuple [a, b, c] kv pv) pos) (rdS X.K W fun ρ μ M => ws ρ μ (fun ds μ1 => ds.length = [i, j, l].length ∧ M.nx (setMany ρ [i, j, l] ds) μ1) fun x μ1 => M.ex x ρ μ1) :=
  PS.imp (ps_par3 hc hN hi hj hl hij hil hjl hx hy hz h hw) fun T σ H ⟨w, ρ, μ, M, st, S, h, E⟩ => ⟨w, ρ, μ, _, _, st, S, h, fun ds μ1 w1 H1 us h1 x1 S1 r => by
    obtain ⟨hl, h1⟩ := h1
    match ds, hl, h1, r with
    | [d, e, f], _, h1, r =>
      obtain ⟨v, us, rfl, r1, t⟩ := r.uncons
      obtain ⟨u, s, rfl, r2, r3⟩ := rvs2 t
      exact ⟨v, u, s, rfl, E.nx _ _ w1 H1 _ h1 x1 (setV_ok (is := [i, j, l]) r (st.ext x1.toExt0)) S1⟩, E.finX st⟩
theorem sub_as {o i : Expr} {pos : Pos} {env : PySem.Env} (h : noSl i = true) : ∀ v, assign (.Subscript o i pos) env v = (do
      let ov ← holding [v] (eval o env)
      let iv ← holding [v, ov] (eval i env)
      standAt pos
      holding [v, ov, iv] (setItem ov iv v)
      release [v, ov, iv] []) := by
  intro v
  cases i <;> first | (simp [noSl] at h; done) | rfl
/-- an item of a list of the store is written -/
theorem put_ok {K : PySem.W.Frag} {w : Wd} {H : Hp} {x y d : D} {vx vy vd : V} {μ : Store} {n : Nat} {l : List D} {k : Int} {j : Nat} {R : Hp → Prop} (S : RS K w H μ) (rx : RV K w H x vx) (ry : RV K w H y vy) (rd : RV K w H d vd) (ex : x = .ref n) (ey : y = .int k) (hm : μ[n]? = some (.lst l)) (hj : ixN l.length k = some j)
    (q : ∀ H', Ext K w H w H' → RS K w H' (μ.set n (.lst (l.set j d))) → R H') : rSetL vx vy vd H R := by
  subst ex ey
  unfold RV at rx
  obtain ⟨a, rfl, hi⟩ := rx
  rw [rv_int.mp ry]
  obtain ⟨vs, h1, t⟩ := S.get hi hm
  obtain ⟨S3, x3⟩ := S.write (o := .lst (vs.set j vd)) (ob := .lst (l.set j d)) hi hm (by simp) h1 (fun xs => ⟨by simp, by simp⟩) fun w' x' => ⟨_, upd_same, (t.set j rd).ext x'.toExt0⟩
  exact ⟨a, vs, k, j, rfl, rfl, h1, by rw [← t.length]; exact hj, q _ x3 S3⟩
theorem cs_seti {o i : Expr} {q : Pos} (hs : noSl i = true) (he : PE X e (rdE X.K W wa)) (ho : PE X o (rdE X.K W wb)) (hi : PE X i (rdE X.K W wc)) :
    PS X (.Assign [.Subscript o i q] e pos) (rdS X.K W fun ρ μ M => wa ρ μ (fun v μ1 => wb ρ μ1 (fun x μ2 => wc ρ μ2 (fun y μ3 => ∃ n l k j, x = .ref n ∧ y = .int k ∧ μ3[n]? = some (.lst l) ∧ ixN l.length k = some j ∧
      M.nx ρ (μ3.set n (.lst (l.set j v)))) fun x μ1 => M.ex x ρ μ1) fun x μ1 => M.ex x ρ μ1) fun x μ1 => M.ex x ρ μ1) := by
  have hsw : swapsWithSole [.Subscript o i q] e pos.line X.env = pure false := by
    show swapsWith e (some (.Subscript o i q)) pos.line X.env = pure false
    cases e <;> rfl
  have hw : swappedStores [.Subscript o i q] e X.env = pure none := by
    cases e <;> rfl
  refine PS.imp (ps_asg he (pg_sub ho hi set_list (sub_as hs)) hsw hw rfl) fun T σ H ⟨w, ρ, μ, M, st, S, h, E⟩ => ⟨w, ρ, μ, _, _, st, S, h, fun d μ1 w1 H1 v h1 x1 S1 r => ?_, E.finX st⟩
  refine ⟨w1, ρ, μ1, _, _, st.ext x1.toExt0, S1, h1, fun x μ2 w2 H2 vx h2 x2 S2 rx => ?_, (E.ext x1).finX (st.ext x1.toExt0)⟩
  refine ⟨w2, ρ, μ2, _, _, (st.ext x1.toExt0).ext x2.toExt0, S2, h2, fun y μ3 w3 H3 vy h3 x3 S3 ry => ?_, ((E.ext x1).ext x2).finX ((st.ext x1.toExt0).ext x2.toExt0)⟩
  obtain ⟨n, l, k, j, ex, ey, hm, hj, h3⟩ := h3
  exact put_ok S3 (rx.ext x3.toExt0) ry ((r.ext x2.toExt0).ext x3.toExt0) ex ey hm hj fun H' x4 S4 => E.nx _ _ w3 H' σ h3 (((x1.trans x2).trans x3).trans x4) ((((st.ext x1.toExt0).ext x2.toExt0).ext x3.toExt0).ext x4.toExt0) S4
end
end IL

/-! the check of statements gives their reading -/
namespace IL
open PySem PySem.Spec PyProof.Rows L2
section
variable {X : Cx} {st : Stmt} {sts : List Stmt} {W : WX} {wa wb wc we wf wg : WE} {e a b : Expr} {pos : Pos} {sa sb : WS}
theorem PGs2 {e f : Expr} {t u : TG} (h1 : PG X e t) (h2 : PG X f u) (hs : (assignEach [e, f] X.env).map (·.2) = assign e X.env :: (assignEach [f] X.env).map (·.2)) (hs2 : (assignEach [f] X.env).map (·.2) = assign f X.env :: (assignEach [] X.env).map (·.2)) : PGs X [e, f] (gCons t (gCons u gNil)) := pgs_cons h1 (pgs_cons h2 pgs_nil hs2) hs
theorem cs_swap {o i p j : Expr} {q1 q2 pt pv : Pos} {kt kv : Nat} (hc : X.calm = true) (hs1 : noSl i = true) (hs2 : noSl j = true) (ha : PE X a (rdE X.K W wa)) (hb : PE X b (rdE X.K W wb)) (ho : PE X o (rdE X.K W wc)) (hi : PE X i (rdE X.K W we)) (hp : PE X p (rdE X.K W wf)) (hj : PE X j (rdE X.K W wg))
    (pa : Plain a) (pb : Plain b) (hw : swappedStores [.Tuple [.Subscript o i q1, .Subscript p j q2] kt pt] (.Tuple [a, b] kv pv) X.env = pure none) :
    PS X (.Assign [.Tuple [.Subscript o i q1, .Subscript p j q2] kt pt] (.Tuple [a, b] kv pv) pos) (rdS X.K W fun ρ μ M => wa ρ μ (fun v μ1 => wb ρ μ1 (fun u μ2 =>
      wc ρ μ2 (fun x μ3 => we ρ μ3 (fun y μ4 => ∃ n l k q, x = .ref n ∧ y = .int k ∧ μ4[n]? = some (.lst l) ∧ ixN l.length k = some q ∧
      wf ρ (μ4.set n (.lst (l.set q v))) (fun x μ5 => wg ρ μ5 (fun y μ6 => ∃ n l k q, x = .ref n ∧ y = .int k ∧ μ6[n]? = some (.lst l) ∧ ixN l.length k = some q ∧
      M.nx ρ (μ6.set n (.lst (l.set q u)))) fun x μ1 => M.ex x ρ μ1) fun x μ1 => M.ex x ρ μ1) fun x μ1 => M.ex x ρ μ1) fun x μ1 => M.ex x ρ μ1) fun x μ1 => M.ex x ρ μ1) fun x μ1 => M.ex x ρ μ1) := by
  have g1 : PG X (.Subscript o i q1) (gSub (rdE X.K W wc) (rdE X.K W we) rSetL) := pg_sub ho hi set_list (sub_as hs1)
  have g2 : PG X (.Subscript p j q2) (gSub (rdE X.K W wf) (rdE X.K W wg) rSetL) := pg_sub hp hj set_list (sub_as hs2)
  have g : PG X (.Tuple [.Subscript o i q1, .Subscript p j q2] kt pt) _ := pg_tup hc (PGs2 g1 g2 rfl rfl) (n := 2) rfl rfl
  have ht : PA X [a, b] _ := pa_cons ha (pa_cons hb pa_nil (pb _ _)) (pa _ _)
  refine PS.imp (ps_asg (pe_tup ht) g rfl hw rfl) fun T σ H ⟨w, ρ, μ, M, st, S, h, E⟩ => ⟨w, ρ, μ, _, _, st, S, h, fun d μ1 w1 H1 v h1 x1 S1 r1 => ?_, E.finX st⟩
  have E1 := E.ext x1
  have st1 := st.ext x1.toExt0
  refine ⟨w1, ρ, μ1, _, _, st1, S1, h1, fun e μ2 w2 H2 u h2 x2 S2 r2 => ?_, E1.finX st1⟩
  refine ⟨by show 2 ≤ sizeLine; rw [sizeLine_eq]; decide, fun tp htp => ?_⟩
  have x3 : Ext X.K w2 H2 w2 (upd H2 tp (.tup [v, u])) := Ext.new htp List.prefix_rfl fun _ h => h
  have S3 := S2.keep (o := .tup [v, u]) htp
  have E3 := (E1.ext x2).ext x3
  have st3 := (st1.ext x2.toExt0).ext x3.toExt0
  refine ⟨tp, [v, u], rfl, .of upd_same, rfl, v, [u], rfl, ?_⟩
  refine ⟨w2, ρ, μ2, _, _, st3, S3, h2, fun x μ4 w4 H4 vx h4 x4 S4 rx => ?_, E3.finX st3⟩
  have E4 := E3.ext x4
  have st4 := st3.ext x4.toExt0
  refine ⟨w4, ρ, μ4, _, _, st4, S4, h4, fun y μ5 w5 H5 vy h5 x5 S5 ry => ?_, E4.finX st4⟩
  obtain ⟨n, l, k, qq, ex, ey, hm, hj, h5⟩ := h5
  have up : Ext X.K w2 H2 w5 H5 := (x3.trans x4).trans x5
  refine put_ok S5 (rx.ext x5.toExt0) ry ((r1.ext x2.toExt0).ext up.toExt0) ex ey hm hj fun H6 x6 S6 => ?_
  have E6 := (E4.ext x5).ext x6
  have st6 := (st4.ext x5.toExt0).ext x6.toExt0
  refine ⟨u, [], rfl, ?_⟩
  refine ⟨w5, ρ, _, _, _, st6, S6, h5, fun x μ7 w7 H7 vx h7 x7 S7 rx => ?_, E6.finX st6⟩
  have E7 := E6.ext x7
  have st7 := st6.ext x7.toExt0
  refine ⟨w7, ρ, μ7, _, _, st7, S7, h7, fun y μ8 w8 H8 vy h8 x8 S8 ry => ?_, E7.finX st7⟩
  obtain ⟨n2, l2, k2, q2, ex2, ey2, hm2, hj2, h8⟩ := h8
  refine put_ok S8 (rx.ext x8.toExt0) ry (r2.ext (((up.trans x6).trans x7).trans x8).toExt0) ex2 ey2 hm2 hj2 fun H9 x9 S9 => ⟨rfl, ?_⟩
  exact (E7.ext x8).nx _ _ w8 H9 σ h8 x9 ((st7.ext x8.toExt0).ext x9.toExt0) S9
theorem cs_ite {A B : List Stmt} (hc : PT X e (rdT X.K W wa)) (h1 : PSs X A (rdS X.K W sa)) (h2 : PSs X B (rdS X.K W sb)) :
    PS X (.If e A B pos) (rdS X.K W fun ρ μ M => wa ρ μ (fun x μ1 => ∃ c, x = .bl c ∧ if c = true then sa ρ μ1 M else sb ρ μ1 M) fun x μ1 => M.ex x ρ μ1) :=
  PS.imp (ps_if hc h1 h2) fun T σ H ⟨w, ρ, μ, M, st, S, h, E⟩ => ⟨w, ρ, μ, _, _, st, S, h, fun d μ1 w1 H1 h1 x1 S1 => by
    obtain ⟨c, rfl, h1⟩ := h1
    refine ⟨c, rfl, ?_⟩
    cases c with
    | true => exact ⟨w1, ρ, μ1, M, st.ext x1.toExt0, S1, h1, E.ext x1⟩
    | false => exact ⟨w1, ρ, μ1, M, st.ext x1.toExt0, S1, h1, E.ext x1⟩, E.finX st⟩
theorem cs_nil : PSs X [] (rdS X.K W fun ρ μ M => M.nx ρ μ) := PSs.imp pss_nil fun T σ H ⟨w, ρ, μ, M, st, S, h, E⟩ => E.nx _ _ w H σ h .refl st S
theorem cs_cons (h1 : PS X st (rdS X.K W sa)) (h2 : PSs X sts (rdS X.K W sb)) : PSs X (st :: sts) (rdS X.K W fun ρ μ M => sa ρ μ { M with nx := fun ρ1 μ1 => sb ρ1 μ1 M }) :=
  PSs.imp (pss_cons h1 h2) fun T σ H ⟨w, ρ, μ, M, st, S, h, E⟩ => ⟨w, ρ, μ, _, st, S, h, ⟨fun r m w1 H1 s1 q x1 st1 S1 => ⟨w1, r, m, M, st1, S1, q, E.ext x1⟩, E.bk, E.ct, E.rt, E.ex⟩⟩
theorem cs_whl {A : List Stmt} (hp : PassesOwn (model X.prog X.w) X.A X.env X.xe) (hc : PT X e (rdT X.K W wa)) (h1 : PSs X A (rdS X.K W sa)) : PS X (.While e A [] pos) (rdS X.K W fun ρ μ M => ∃ n, whlW (tW wa) sa n ρ μ M) := by
  refine PS.imp (ps_while hp hc h1) fun T σ H ⟨w, ρ, μ, M, st, S, ⟨n, h⟩, E⟩ => ?_
  refine ⟨fun m σ' H' => ∃ w' ρ' μ', Ext X.K w H w' H' ∧ RSt X.K w' H' σ' ρ' ∧ RS X.K w' H' μ' ∧ whlW (tW wa) sa m ρ' μ' M, ⟨n, w, ρ, μ, .refl, st, S, h⟩, ?_⟩
  rintro m σ' H' ⟨w', ρ', μ', x', st', S', h'⟩
  cases m with
  | zero => exact h'.elim
  | succ m =>
    refine ⟨w', ρ', μ', _, _, st', S', h', fun d μ1 w1 H1 h1 x1 S1 => ?_, (E.ext x').finX st'⟩
    obtain ⟨c, rfl, h1⟩ := h1
    refine ⟨c, rfl, ?_⟩
    cases c with
    | false => exact E.nx _ _ w1 H1 σ' h1 (x'.trans x1) (st'.ext x1.toExt0) S1
    | true =>
      have nxt : ∀ {r : Env} {m2 : Store} {w2 : Wd} {H2 : Hp} {s2 : L2.St}, whlW (tW wa) sa m r m2 M → Ext X.K w1 H1 w2 H2 → RSt X.K w2 H2 s2 r → RS X.K w2 H2 m2 → ∃ w' ρ' μ', Ext X.K w H w' H2 ∧ RSt X.K w' H2 s2 ρ' ∧ RS X.K w' H2 μ' ∧ whlW (tW wa) sa m ρ' μ' M :=
        fun {r m2 w2 H2 s2} q x2 st2 S2 => ⟨w2, r, m2, (x'.trans x1).trans x2, st2, S2, q⟩
      refine ⟨fun s2 H2 => ∃ w' ρ' μ', Ext X.K w H w' H2 ∧ RSt X.K w' H2 s2 ρ' ∧ RS X.K w' H2 μ' ∧ whlW (tW wa) sa m ρ' μ' M, fun s2 H2 q => ⟨m, Nat.lt_succ_self m, q⟩, w1, ρ', μ1, _, st'.ext x1.toExt0, S1, h1, ?_⟩
      have E1 := E.ext (x'.trans x1)
      exact ⟨fun r m2 w2 H2 s2 q x2 st2 S2 => nxt q x2 st2 S2, E1.nx, fun r m2 w2 H2 s2 q x2 st2 S2 => nxt q x2 st2 S2, E1.rt, E1.ex⟩
theorem cs_loop {kk : ItK} {tg : Tg} {tgt it : Expr} {A : List Stmt} (hp : PassesOwn (model X.prog X.w) X.A X.env X.xe) (hc : X.calm = true) (hi : PI X tgt it (rdI X.K W kk wa wb wc)) (hg : PG X tgt (gT X.K tg)) (h1 : PSs X A (rdS X.K W sa)) (hs : ∀ x, foldedSetIterable it X.env x = pure x) :
    PS X (.For tgt it A [] pos) (rdS X.K W fun ρ μ M => itW kk wa wb wc ρ μ (fun x y z μ1 => itS kk x y z μ1 fun l g => loopW tg sa g l ρ μ1 M) fun x μ1 => M.ex x ρ μ1) := by
  refine PS.imp (ps_for hp hc hi hg h1 hs) fun T σ H ⟨w, ρ, μ, M, st, S, h, E⟩ => ?_
  refine ⟨w, ρ, μ, _, _, st, S, h, E.finX st, fun x y z μ1 w1 H1 h1 x1 S1 => ⟨_, h1, fun l g J h2 wk => ?_⟩⟩
  refine ⟨fun i m σ' H' => m = l.length - i ∧ i ≤ l.length ∧ ∃ w' ρ' μ', Ext X.K w1 H1 w' H' ∧ RSt X.K w' H' σ' ρ' ∧ RS X.K w' H' μ' ∧ loopW tg sa g (l.drop i) ρ' μ' M, ⟨l.length, by simp, Nat.zero_le _, w1, ρ, μ1, .refl, st.ext x1.toExt0, S1, by simpa using h2⟩, ?_⟩
  rintro i m σ' H' ⟨rfl, hi, w', ρ', μ', x', st', S', h'⟩
  by_cases hlt : i < l.length
  · obtain ⟨d, hd⟩ : ∃ d, l[i]? = some d := ⟨l[i], by simp [hlt]⟩
    have ed : l.drop i = d :: l.drop (i + 1) := by
      obtain ⟨hh, e⟩ := List.getElem?_eq_some_iff.mp hd
      rw [List.drop_eq_getElem_cons hh, e]
    rw [ed] at h'
    obtain ⟨hgd, htg⟩ := h'
    obtain ⟨_, wk2⟩ := wk i w' H' μ' x'.toExt0 S' hgd
    obtain ⟨go, yl⟩ := wk2 d hd
    refine .inr ⟨go, fun s2 H2 => ∃ w' ρ' μ', Ext X.K w1 H1 w' H2 ∧ RSt X.K w' H2 s2 ρ' ∧ RS X.K w' H2 μ' ∧ loopW tg sa g (l.drop (i + 1)) ρ' μ' M, fun s2 H2 q => ⟨l.length - (i + 1), by omega, rfl, hlt, q⟩, fun v Hy hy => ?_⟩
    obtain ⟨w3, x3, S3, r3⟩ := yl v Hy hy
    refine tg_ok htg r3 (st'.ext x3.toExt0) fun s4 r4 st4 hP => ⟨w3, r4, μ', _, st4, S3, hP, ?_⟩
    have E3 := E.ext ((x1.trans x').trans x3)
    exact ⟨fun r m2 w2 H2 s2 q x2 st2 S2 => ⟨w2, r, m2, (x'.trans x3).trans x2, st2, S2, q⟩, E3.nx, fun r m2 w2 H2 s2 q x2 st2 S2 => ⟨w2, r, m2, (x'.trans x3).trans x2, st2, S2, q⟩, E3.rt, E3.ex⟩
  · have e : i = l.length := by omega
    subst e
    rw [List.drop_length] at h'
    obtain ⟨hgd, hn⟩ := h'
    exact .inl ⟨(wk l.length w' H' μ' x'.toExt0 S' hgd).1 (Nat.le_refl _), E.nx _ _ w' H' σ' hn (x1.trans x') st' S'⟩
theorem cs_raise {x m : Str} {j : Nat} {p p2 p3 : Pos} (hc : X.calm = true) (tk : Takes X W) (gC : X.mg x = some (.ref (He.ga X.K x))) (q : PySem.W.excIn X.K (He.ga X.K x) He.veBase "ValueError.__new__" = true) (kC : PySem.W.keepIn X.K (.ref (He.ga X.K x)) = true)
    (r : Raises X (.ref (He.ga X.K x))) (hg : Gl X x) (hd : (x == ("__debug__" : Str)) = false) : PS X (.Raise (some (.Call (.Name x p) [.Constant (.str m) j p2] [] p3)) none pos) (rdS X.K W fun ρ μ M => M.ex x ρ μ) :=
  PS.imp (ps_raise hc tk (pmk_own PySem.F.excBase_ValueError q gC kC r hg hd)) fun T σ H ⟨w, ρ, μ, M, st, S, h, E⟩ => E.ex x ρ μ w H σ h .refl st S none
end
end IL

/-! the check of statements gives their reading: all forms -/
namespace IL
open PySem PySem.Spec PyProof.Rows L2
section
variable {G : GC} {Φ : Str → Spec} {C : Str → Option D} {U : Str → Str → Option Bool} {N : List Str} {sc : Scope} {k : Nat} {X : Cx} {W : WX}
/-- what a comprehension's check gives -/
structure Parts (Φ : Str → Spec) (C : Str → Option D) (X : Cx) (W : WX) (kk : ItK) (a b c : E) (tg : Tg) (t y : E) (elt tgt it : Expr) (ifs : List Expr) (scope : Scope) : Prop where
  hi : PI X tgt it (rdI X.K W kk (wE Φ C a) (wE Φ C b) (wE Φ C c))
  blk : BlkOk X.N X.env.scope scope ((tgN tgt).zip tg.slots)
  hol : ((tgN tgt).zip tg.slots).map (·.2) = tg.slots
  hg : ∀ (s : Shared) (H : Hp) (C : Addr) (cl : List (Str × Addr)) (fp : List Addr), PG (X.blk s H scope (compEnvC scope cl C X.env) fp) tgt (gT X.K tg)
  ht : ∀ (s : Shared) (H : Hp) (A : Addr) (cl : List (Str × Addr)) (fp : List Addr), PTs (X.blk s H scope (compEnvC scope cl A X.env) fp) ifs (rdT X.K W0 (wE Φ C t))
  he : ∀ (s : Shared) (H : Hp) (A : Addr) (cl : List (Str × Addr)) (fp : List Addr), PE (X.blk s H scope (compEnvC scope cl A X.env) fp) elt (rdE X.K W0 (wE Φ C y))
  hs : ∀ x, foldedSetIterable it X.env x = pure x
theorem comp_parts {n : Nat} {own : Bool} {kk : ItK} {a b c t y : E} {tg : Tg} {elt : Expr} {gs : List Comprehension} {scope : Scope} {pos : Pos} (ok : XOk G Φ C N sc k X) (tk : Takes X W) (h : chkE G N (n + 1) sc (.comp own kk a b c tg t y) (.ListComp elt gs scope pos) = true) :
    G.hot = false ∧ ∃ tgt it ifs, gs = [⟨tgt, it, ifs, 0⟩] ∧ Parts Φ C X W kk a b c tg t y elt tgt it ifs scope := by
  simp only [chkE] at h
  split at h
  · rename_i elt' tgt it ifs asy scope' pos' he
    cases he
    simp only [Bool.and_eq_true, decide_eq_true_eq, List.all_eq_true] at h
    obtain ⟨⟨⟨⟨⟨⟨⟨⟨h0, rfl⟩, h1⟩, h2⟩, h3⟩, h4⟩, h5⟩, h6⟩, h7⟩ := h
    have cool : G.hot = false := by simpa using h0
    obtain ⟨r1, r2⟩ := chkI_ok ok (fun il e h => chkE_ok n il e sc X W ok tk h) h5 h3
    refine ⟨cool, tgt, it, ifs, rfl, r1, blkOk_by (by rw [ok.N, ok.sc]; exact h1), ?_, fun s H A cl fp => ?_, fun s H A cl fp => ?_, fun s H A cl fp => ?_, r2⟩
    · rw [List.map_snd_zip]
      omega
    · refine pg_tg ok.nd (ok.calm cool) (by show chkT X.N tg tgt = true; rw [ok.N]; exact h3) fun x hx => ?_
      have q := own_of (h4 x hx)
      refine ⟨?_, q.2.imp id fun z => ?_⟩
      · rw [← ok.sc] at q; exact q.1
      · rw [← ok.sc] at z; exact z
    · have okb := ok.blk s H scope A cl fp
      split at h6
      · exact yes_ok h6
      · exact pts_one (chkE_ok _ _ _ _ _ _ okb takes0' h6).pt
      · cases h6
    · exact (chkE_ok _ _ _ _ _ _ (ok.blk s H scope A cl fp) takes0' h7).pe
  · cases h
theorem lc_swaps {elt : Expr} {gs : List Comprehension} {scope : Scope} {pos q : Pos} {x : Str} {l : Nat} {env : PySem.Env} (hk : env.scope.kind = .function) : swapsWith (.ListComp elt gs scope pos) (some (.Name x q)) l env = pure (lcSwap env.scope scope x q.line pos.line) := by
  have hb : (env.blockKind == .function) = true := by
    unfold Env.blockKind
    rw [hk]; rfl
  unfold swapsWith lcSwap
  simp only [hb, Bool.true_and]
  rfl
theorem cs_setLc {own : Bool} {kk : ItK} {a b c t y : E} {tg : Tg} {elt tgt it : Expr} {ifs : List Expr} {scope : Scope} {pos q sp : Pos} {i : Nat} {x : Str} (hc : X.calm = true) (hN : X.N.Nodup) (hi : X.N[i]? = some x) (hx : X.env.scope.names.lookup x = some .local) (P : Parts Φ C X W kk a b c tg t y elt tgt it ifs scope)
    (hw : swapsWith (.ListComp elt [⟨tgt, it, ifs, 0⟩] scope pos) (some (.Name x q)) sp.line X.env = pure true) :
    PS X (.Assign [.Name x q] (.ListComp elt [⟨tgt, it, ifs, 0⟩] scope pos) sp) (rdS X.K W fun ρ μ M => wE Φ C (.comp own kk a b c tg t y) ρ μ (fun d μ1 => M.nx (ρ.set i (some d)) μ1) fun x μ1 => M.ex x ρ μ1) := by
  refine PS.imp (ps_setLc hc hN hi hx hw P.hi P.blk P.hg P.ht P.he P.hs) fun T σ H h => ?_
  have h2 := rd_set h
  simp only [wE] at h2
  exact rd_comp P.hol h2
theorem XOk.tr (ok : SOk G Φ C U N sc k X) {pn : List (Addr × Obj)} {xe : Value → Shared → Prop} (hp : PassesOwn (model X.prog X.w) X.A X.env xe) : SOk G Φ C U N sc k (X.tr pn xe) :=
  ⟨⟨ok.N, ok.sc, ok.nd, ok.calm, ok.room, ok.un, ok.fns, ok.blt, ok.cst, ⟨ok.py.tree, ok.py.dep, ok.py.seer, ok.py.frs⟩⟩, ok.kind, ok.fn, ok.stk, ok.frm, hp, ok.exs, ok.exm⟩
theorem XOk.suite (ok : SOk G Φ C U N sc k X) (a : Addr) (pn : List (Addr × Obj)) : SOk G.suite Φ C U N sc k (X.suite a pn) :=
  ⟨⟨ok.N, ok.sc, ok.nd, fun h => (by cases h), fun h => (by cases h), ok.un, fun f n h => (by cases h), ok.blt, ok.cst, ⟨ok.py.tree, ok.py.dep, ok.py.seer, ok.py.frs⟩⟩, ok.kind, ok.fn, ok.stk, ok.frm, PassesOwn.never, ok.exs, ok.exm⟩
theorem nm_of (ok : SOk G Φ C U N sc k X) {is : List Nat} {ts : List Expr} {kt : Nat} {pt : Pos} (h : chkT N (.tp is) (.Tuple ts kt pt) = true) (hv : (tgN (.Tuple ts kt pt)).all (locB sc) = true) : is.length = ts.length ∧ ∀ p ∈ is.zip ts, NmOk X p.1 p.2 := by
  simp only [chkT, Bool.and_eq_true, decide_eq_true_eq, List.all_eq_true] at h
  obtain ⟨h1, h2⟩ := h
  refine ⟨h1, fun p hp => ?_⟩
  have q := h2 p hp
  have me : p.2 ∈ ts := (List.of_mem_zip (a := p.1) (b := p.2) hp).2
  split at q
  · rename_i x qq ex
    have hx : x ∈ tgN (.Tuple ts kt pt) := by
      unfold tgN
      exact List.mem_filterMap.mpr ⟨p.2, me, by rw [ex]⟩
    exact ⟨x, qq, ex, by rw [ok.N]; exact of_decide_eq_true q, by rw [ok.sc]; exact loc_of (List.all_eq_true.mp hv x hx), .inl (ok.fn x)⟩
  · cases q
theorem chkSs_ok {f : S → Stmt → Bool} (IH : ∀ s st, f s st = true → PS X st (rdS X.K W (wS Φ C U s))) : ∀ (ss : Ss) (sts : List Stmt), chkSs f ss sts = true → PSs X sts (rdS X.K W (wSs Φ C U ss))
  | .nil, [], _ => by simp only [wSs]; exact cs_nil
  | .nil, _ :: _, h => by cases h
  | .cons _ _, [], h => by cases h
  | .cons s ss, t :: ts, h => by
    simp only [chkSs, Bool.and_eq_true] at h
    simp only [wSs]
    exact cs_cons (IH s t h.1) (chkSs_ok IH ss ts h.2)
/-- the clauses as the layer takes them -/
def hdL (K : PySem.W.Frag) (Φ : Str → Spec) (C : Str → Option D) (U : Str → Str → Option Bool) : Hs → List (Value × (Addr → Value → Option Addr → TS))
  | .nil => []
  | .cons x s hs => (.ref (He.ga K x), fun _ _ _ => rdS K W0 (wSs Φ C U s)) :: hdL K Φ C U hs
theorem many_ok (hm : ∀ x y m, U x y = some m → PySem.W.exmOne X.K (.ref (He.ga X.K x)) (.ref (He.ga X.K y)) = some m) {w : Wd} {H : Hp} {T : Ends} {M : Ctl} {σ : L2.St} {ρ : Env} {μ : Store} {y : Str} {dd : Option Addr} (st : RSt X.K w H σ ρ) (S : RS X.K w H μ) (E : EOk X.K w H W T M) :
    ∀ hs : Hs, wHs Φ C U hs y ρ μ M → wMany X.K W T (hdL X.K Φ C U hs) (.ref (He.ga X.K y)) dd σ H
  | .nil, h => by
    simp only [wHs] at h
    exact E.ex y ρ μ w H σ h .refl st S dd
  | .cons x s hs, h => by
    simp only [wHs] at h
    obtain ⟨m, e, h⟩ := h
    refine ⟨m, hm y x m e, fun em a ha => ?_, fun em => ?_⟩
    · rw [em, if_pos rfl] at h
      exact ⟨w, ρ, μ, _, st, S, h, E.nx, E.bk, E.ct, E.rt, fun _ _ _ _ _ _ z => z.elim⟩
    · rw [em, if_neg Bool.false_ne_true] at h
      exact many_ok hm st S E hs h
theorem chkHs_ok (ok : SOk G Φ C U N sc k X) {f : Ss → List Stmt → Bool} (IH : ∀ (a : Addr) (pn : List (Addr × Obj)) s b, f s b = true → PSs (X.suite a pn) b (rdS X.K W0 (wSs Φ C U s))) : ∀ (hs : Hs) (hds : List ExceptHandler), chkHs G sc f hs hds = true → HdsOk X hds (hdL X.K Φ C U hs)
  | .nil, [], _ => .nil
  | .nil, _ :: _, h => by simp [chkHs] at h
  | .cons x s hs, [], h => by simp [chkHs] at h
  | .cons x s hs, hd :: r, h => by
    unfold chkHs at h
    split at h
    · rename_i e1 e2
      cases e1
    · rename_i x' s' hs' y p b body pp r' e1 e2
      cases e1; cases e2
      simp only [Bool.and_eq_true, decide_eq_true_eq] at h
      obtain ⟨⟨⟨⟨⟨rfl, h1⟩, h2⟩, h3⟩, h4⟩, h5⟩ := h
      exact .cons ⟨gl_of ok.sc h2, (dbg_of h3).1, .inl (ok.exs x h1).1⟩ (fun a oe cls d pn _ _ => IH a _ s (b :: body) h4) (chkHs_ok ok IH hs r h5)
    · cases h
theorem chkS_ok : ∀ (n : Nat) (s : S) (st : Stmt) (G : GC) (X : Cx) (W : WX), SOk G Φ C U N sc k X → Takes X W → chkS N sc n G s st = true → PS X st (rdS X.K W (wS Φ C U s)) := by
  intro n
  induction n with
  | zero => intro s st G X W ok tk h; simp [chkS] at h
  | succ n ih =>
    intro s st G X W ok tk h
    have XE : ∀ il e, chkE G N n sc il e = true → Gd Φ C X W il e := fun il e h => chkE_ok n il e sc X W ok.toXOk tk h
    have IH : ∀ ss sts, chkSs (chkS N sc n G) ss sts = true → PSs X sts (rdS X.K W (wSs Φ C U ss)) := fun ss sts h => chkSs_ok (fun s t h => ih s t G X W ok tk h) ss sts h
    cases s with
    | pass =>
      simp only [chkS] at h
      split at h
      · simp only [wS]; exact cs_pass
      · cases h
    | brk =>
      simp only [chkS] at h
      split at h
      · simp only [wS]; exact cs_brk
      · cases h
    | cnt =>
      simp only [chkS] at h
      split at h
      · simp only [wS]; exact cs_cnt
      · cases h
    | retn =>
      simp only [chkS] at h
      split at h
      · simp only [wS]; exact cs_retn
      · cases h
    | ret e =>
      simp only [chkS] at h
      split at h
      · simp only [wS]; exact cs_ret (XE _ _ h).pe
      · cases h
    | exp e =>
      simp only [chkS] at h
      split at h
      · rw [Bool.and_eq_true] at h
        simp only [wS]; exact cs_exp (XE _ _ h.2).pe h.1
      · cases h
    | set i e =>
      simp only [chkS] at h
      split at h
      · rename_i x q v p
        simp only [Bool.and_eq_true, decide_eq_true_eq] at h
        obtain ⟨⟨h1, h2⟩, h3⟩ := h
        have hi : X.N[i]? = some x := by rw [ok.N]; exact h1
        have hl : Loc X.env.scope x := by rw [ok.sc]; exact loc_of h2
        simp only [wS]
        split at h3
        · rename_i elt gs scope pp
          simp only [Bool.and_eq_true, decide_eq_true_eq] at h3
          obtain ⟨⟨h4, h5⟩, h6⟩ := h3
          by_cases hb : lcSwap X.env.scope scope x q.line pp.line = true
          · cases n with
            | zero => simp [chkE] at h6
            | succ n =>
              cases e with
              | comp own kk a b c tg t y =>
                obtain ⟨cool, tgt, it, ifs, rfl, P⟩ := comp_parts ok.toXOk tk h6
                have hx : X.env.scope.names.lookup x = some .local := by
                  unfold lcSwap at hb
                  simp only [Bool.and_eq_true] at hb
                  exact eq_of_beq hb.1.1
                exact cs_setLc (ok.calm cool) ok.nd hi hx P (by rw [lc_swaps ok.kind, hb])
              | _ => simp [chkE] at h6
          · exact cs_set ok.nd hi hl (ok.fn x) (XE _ _ h6).pe (by rw [lc_swaps ok.kind]; simp at hb; rw [hb])
        · rw [Bool.and_eq_true] at h3
          exact cs_set ok.nd hi hl (ok.fn x) (XE _ _ h3.2).pe (swaps_no h3.1)
      · cases h
    | aug i o e =>
      simp only [chkS] at h
      split at h
      · rename_i x q op v p
        simp only [Bool.and_eq_true, Bool.or_eq_true, decide_eq_true_eq] at h
        obtain ⟨⟨⟨⟨h1, h2⟩, rfl⟩, h4⟩, h5⟩ := h
        simp only [wS]
        exact cs_aug h4 ok.nd (by rw [ok.N]; exact h1) (by rw [ok.sc]; exact loc_of h2) (ok.fn x) (XE _ _ h5).pe
      · cases h
    | par is es =>
      simp only [chkS] at h
      split at h
      · rename_i ts kt pt vs kv pv pp
        simp only [Bool.and_eq_true] at h
        obtain ⟨⟨⟨⟨⟨h0, h1⟩, h2⟩, h3⟩, hz⟩, h4⟩ := h
        have cool : G.hot = false := by simpa using h0
        have hz := of_decide_eq_true hz
        obtain ⟨hl, hn⟩ := nm_of ok h2 h3
        obtain ⟨pa, _, _⟩ := chkL_ok XE es vs h1
        simp only [wS]
        split at h4
        · rename_i hsw
          refine cs_par (ok.calm cool) ok.nd hl hn pa (swp_ok ok.sc ok.kind hsw) (by rw [sizeLine_eq]; omega)
        · rename_i names hsw
          have sw := fun kt pt kv pv => swp_ok (kt := kt) (pt := pt) (kv := kv) (pv := pv) ok.sc ok.kind hsw
          split at h4
          · simp only [Bool.and_eq_true, decide_eq_true_eq] at h4
            obtain ⟨⟨⟨rfl, g1⟩, g2⟩, g3⟩ := h4
            have n0 := hn (_, _) List.mem_cons_self
            have n1 := hn (_, _) (List.mem_cons_of_mem _ List.mem_cons_self)
            obtain ⟨x0, q0, e0, i0, _⟩ := n0.ok
            obtain ⟨x1, q1, e1, i1, _⟩ := n1.ok
            cases e0; cases e1
            exact cs_par2 (ok.calm cool) ok.nd i0 i1 g1 (by rw [ok.sc]; exact g2) (by rw [ok.sc]; exact g3) pa (sw _ _ _ _)
          · simp only [Bool.and_eq_true, decide_eq_true_eq] at h4
            obtain ⟨⟨⟨⟨⟨⟨rfl, g1⟩, g2⟩, g3⟩, g4⟩, g5⟩, g6⟩ := h4
            have n0 := hn (_, _) List.mem_cons_self
            have n1 := hn (_, _) (List.mem_cons_of_mem _ List.mem_cons_self)
            have n2 := hn (_, _) (List.mem_cons_of_mem _ (List.mem_cons_of_mem _ List.mem_cons_self))
            obtain ⟨x0, q0, e0, i0, _⟩ := n0.ok
            obtain ⟨x1, q1, e1, i1, _⟩ := n1.ok
            obtain ⟨x2, q2, e2, i2, _⟩ := n2.ok
            cases e0; cases e1; cases e2
            exact cs_par3 (ok.calm cool) ok.nd i0 i1 i2 g1 g2 g3 (by rw [ok.sc]; exact g4) (by rw [ok.sc]; exact g5) (by rw [ok.sc]; exact g6) pa (sw _ _ _ _)
          · cases h4
        · cases h4
      · cases h
    | unp is e =>
      simp only [chkS] at h
      split at h
      · simp only [Bool.and_eq_true] at h
        obtain ⟨⟨⟨⟨⟨h0, h1⟩, h2⟩, h3⟩, h4⟩, h5⟩ := h
        have cool : G.hot = false := by simpa using h0
        obtain ⟨hl, hn⟩ := nm_of ok h4 h5
        simp only [wS]
        exact cs_unp (ok.calm cool) ok.nd hl hn (XE _ _ h3).pe h2 h1
      · cases h
    | seti o i e =>
      simp only [chkS] at h
      split at h
      · simp only [Bool.and_eq_true] at h
        obtain ⟨⟨⟨h1, h2⟩, h3⟩, h4⟩ := h
        simp only [wS]
        exact cs_seti h1 (XE _ _ h2).pe (XE _ _ h3).pe (XE _ _ h4).pe
      · cases h
    | swap o i p j a b =>
      simp only [chkS] at h
      split at h
      · simp only [Bool.and_eq_true] at h
        obtain ⟨⟨⟨⟨⟨⟨⟨⟨⟨h0, hq⟩, h1⟩, h2⟩, h3⟩, h4⟩, h5⟩, h6⟩, h7⟩, h8⟩ := h
        have cool : G.hot = false := by simpa using h0
        simp only [wS]
        refine cs_swap (ok.calm cool) h1 h2 (XE _ _ h7).pe (XE _ _ h8).pe (XE _ _ h3).pe (XE _ _ h4).pe (XE _ _ h5).pe (XE _ _ h6).pe (XE _ _ h7).pl (XE _ _ h8).pl ?_
        refine swp_ok ok.sc ok.kind ?_
        split at hq
        · assumption
        · cases hq
      · cases h
    | ite c a b =>
      simp only [chkS] at h
      split at h
      · simp only [Bool.and_eq_true] at h
        obtain ⟨⟨h1, h2⟩, h3⟩ := h
        simp only [wS]
        exact cs_ite (XE _ _ h1).pt (IH _ _ h2) (IH _ _ h3)
      · cases h
    | whl c a =>
      simp only [chkS] at h
      split at h
      · simp only [Bool.and_eq_true] at h
        obtain ⟨⟨h1, h2⟩, h3⟩ := h
        simp only [wS]
        exact cs_whl ok.pass (XE _ _ h2).pt (IH _ _ h3)
      · cases h
    | loop kk a b c tg s =>
      simp only [chkS] at h
      split at h
      · simp only [Bool.and_eq_true] at h
        obtain ⟨⟨⟨⟨h0, h1⟩, h2⟩, h3⟩, h4⟩ := h
        have cool : G.hot = false := by simpa using h0
        obtain ⟨r1, r2⟩ := chkI_ok ok.toXOk XE h1 h2
        simp only [wS]
        refine cs_loop ok.pass (ok.calm cool) r1 (pg_tg ok.nd (ok.calm cool) (by rw [ok.N]; exact h2) fun x hx => ⟨by rw [ok.sc]; exact loc_of (List.all_eq_true.mp h3 x hx), .inl (ok.fn x)⟩) (IH _ _ h4) r2
      · cases h
    | raise x =>
      simp only [chkS] at h
      split at h
      · simp only [Bool.and_eq_true, decide_eq_true_eq] at h
        obtain ⟨⟨⟨⟨h0, rfl⟩, h2⟩, h3⟩, h4⟩ := h
        have cool : G.hot = false := by simpa using h0
        obtain ⟨e1, e2, e3, e4⟩ := ok.exs x h2
        simp only [wS]
        exact cs_raise (ok.calm cool) tk e1 e2 e3 e4 (gl_of ok.sc h3) (dbg_of h4).1
      · cases h
    | tr b x s hs =>
      simp only [chkS] at h
      split at h
      · rename_i body hds pp
        simp only [Bool.and_eq_true] at h
        obtain ⟨⟨h0, h1⟩, h2⟩ := h
        have hh := chkHs_ok ok (f := fun s b => chkSs (chkS N sc n G.suite) s b) (fun a pn s b h => chkSs_ok (fun s t h => ih s t G.suite (X.suite a pn) W0 (XOk.suite ok a pn) takes0' h) s b h) _ _ h2
        cases hds with
        | nil => simp [chkHs] at h2
        | cons hd hds =>
          have hb : ∀ (W2 : WX) (pn : List (Addr × Obj)) (xe : Value → Shared → Prop), Takes (X.tr pn xe) W2 → PassesOwn (model X.prog X.w) X.A X.env xe → PSs (X.tr pn xe) body (rdS X.K W2 (wSs Φ C U b)) := fun W2 pn xe tk2 hp =>
            chkSs_ok (X := X.tr pn xe) (fun s t h => ih s t G (X.tr pn xe) W2 (XOk.tr ok hp) tk2 h) b body h1
          refine PS.imp (ps_try_many ok.stk ok.frm tk hb hh) fun T σ H ⟨w, ρ, μ, M, st, S, h, E⟩ => ?_
          simp only [wS] at h
          refine ⟨w, ρ, μ, _, st, S, h, E.nx, E.bk, E.ct, E.rt, fun y r m w1 H1 s1 q x1 st1 S1 dd => ?_⟩
          exact many_ok ok.exm st1 S1 (E.ext x1) (.cons x s hs) (by simp only [wHs]; exact q)
      · cases h
end
end IL

/-! defs: from the check of a body to the promise; all defs of a text, by levels -/
namespace IL
open PySem PySem.Spec PyProof.Rows L2
/-- a def of the text -/
structure DefI where
  x : Str
  ps : List Str
  N : List Str
  st : Stmt
  il : Ss
def fnScB (N ps : List Str) (sc : Scope) : Bool := isFunc sc && !sc.isCoroutine && !sc.isGenerator && decide N.Nodup && decide (N.take ps.length = ps) && ps.all (locB sc) && sc.names.all fun y => match y.2 with
  | .free => false
  | _ => true
def chkD (G : GC) (d : DefI) : Bool := fnScB d.N d.ps (defScope d.st) && chkSs (chkS d.N (defScope d.st) 40 G) d.il (defBody d.st)
theorem fnSc_ok {N ps : List Str} {sc : Scope} (h : fnScB N ps sc = true) : FnScope N ps sc := by
  unfold fnScB at h
  simp only [Bool.and_eq_true, Bool.not_eq_true', decide_eq_true_eq, List.all_eq_true] at h
  obtain ⟨⟨⟨⟨⟨⟨h1, h2⟩, h3⟩, h4⟩, h5⟩, h6⟩, h7⟩ := h
  refine ⟨?_, h2, h3, h4, h5, fun x hx => loc_of (h6 x hx), fun y hy e => ?_⟩
  · unfold isFunc at h1
    split at h1
    · assumption
    · cases h1
  · have q := h7 y hy
    rw [e] at q
    cases q
/-- the text's facts, over the written part -/
structure Glob (K : PySem.W.Frag) (mg : Str → Option Value) (G : GC) (C : Str → Option D) (U : Str → Str → Option Bool) : Prop where
  gl : ∀ x n, (x, n) ∈ G.fns → mg x = some (.ref (He.ga K x))
  blt : ∀ x ∈ bltN, mg x = none
  cst : ∀ x ∈ G.cst, ∀ d, C x = some d → ∃ v u, mg x = some u ∧ RelV v u ∧ ∀ w H, RV K w H d v
  exs : ∀ x ∈ G.exs, mg x = some (.ref (He.ga K x)) ∧ PySem.W.excIn K (He.ga K x) He.veBase "ValueError.__new__" = true ∧ PySem.W.keepIn K (.ref (He.ga K x)) = true ∧ PySem.W.subIn K (.ref (He.ga K x)) (.type "BaseException") = some true ∧ PySem.W.typeIn K (.ref (He.ga K x)) = some (.type "type")
  exm : ∀ x y m, U x y = some m → PySem.W.exmOne K (.ref (He.ga K x)) (.ref (He.ga K y)) = some m
  seer : ∀ h : Heap, K.In h → SeerP h
/-- every object leads to those of the store alone -/
def Closed (μ : Store) : Prop := ∀ o ∈ μ, o.inb μ.length = true
/-- a def's end: what it made for itself may be forgotten -/
def Trn (P : DQ) (μ : Store) (v : D) (μ' : Store) : Prop := P v μ' ∨ ∃ μ0 g, μ' = μ0 ++ g ∧ μ.length ≤ μ0.length ∧ v.inb μ0.length = true ∧ Closed μ0 ∧ P v μ0
def TrX (X : XQ) (μ : Store) (x : Str) (μ' : Store) : Prop := X x μ' ∨ ∃ μ0 g, μ' = μ0 ++ g ∧ μ.length ≤ μ0.length ∧ Closed μ0 ∧ X x μ0
theorem Trn.pure {P : DQ} {μ g : Store} {v : D} (hc : Closed μ) (hv : v.inb μ.length = true) (h : P v μ) : Trn P μ v (μ ++ g) := .inr ⟨μ, g, rfl, Nat.le_refl _, hv, hc, h⟩
def startD (N : List Str) (ds : List D) : Env := ds.map some ++ List.replicate (N.length - ds.length) none
def BodyOk (Φ : Str → Spec) (C : Str → Option D) (U : Str → Str → Option Bool) (d : DefI) (ds : List D) (μ : Store) (P : DQ) (X : XQ) : Prop := ds.length = d.ps.length ∧
  wSs Φ C U d.il (startD d.N ds) μ { nx := fun _ μ' => Trn P μ .non μ', rt := fun v μ' => Trn P μ v μ', ex := fun x _ μ' => TrX X μ x μ' }
section
variable {K : PySem.W.Frag} {w : Wd} {H : Hp} {μ : Store}
mutual
theorem RV.inb {n : Nat} (hn : w.ι.length ≤ n) : ∀ (d : D) (v : V), RV K w H d v → d.inb n = true
  | .non, v, r => by simp [D.inb]
  | .bl _, v, r => by simp [D.inb]
  | .int _, v, r => by simp [D.inb]
  | .str _, v, r => by simp [D.inb]
  | .scr _, v, r => by simp [D.inb]
  | .fn _, v, r => by simp [D.inb]
  | .tup l, v, r => by
    unfold RV at r
    obtain ⟨a, vs, rfl, _, t⟩ := r
    simp only [D.inb]
    exact RVs.inb hn l vs t
  | .lst l, v, r => by
    unfold RV at r
    obtain ⟨a, vs, rfl, _, _, t⟩ := r
    simp only [D.inb]
    exact RVs.inb hn l vs t
  | .ref k, v, r => by
    unfold RV at r
    obtain ⟨a, rfl, q⟩ := r
    simp only [D.inb, decide_eq_true_eq]
    obtain ⟨h, _⟩ := List.getElem?_eq_some_iff.mp q
    omega
theorem RVs.inb {n : Nat} (hn : w.ι.length ≤ n) : ∀ (l : List D) (vs : List V), RVs K w H l vs → D.inbs n l = true
  | [], vs, r => by simp [D.inbs]
  | d :: ds, vs, r => by
    obtain ⟨v, us, rfl, p, t⟩ := r.uncons
    simp only [D.inbs, RV.inb hn d v p, RVs.inb hn ds us t, Bool.and_self]
end
theorem RFs.inb {n : Nat} (hn : w.ι.length ≤ n) : ∀ (l : List (Str × D)) (vs : List (Str × V)), RFs K w H l vs → D.inbs n (l.map (·.2)) = true
  | [], vs, r => by simp [D.inbs]
  | p :: ps, vs, r => by
    obtain ⟨v, us, rfl, q, t⟩ := r
    simp only [List.map_cons, D.inbs, q.inb hn _ _, RFs.inb hn ps us t, Bool.and_self]
theorem RS.closed (S : RS K w H μ) : Closed μ := fun o ho => by
  obtain ⟨n, hn⟩ := List.getElem?_of_mem ho
  obtain ⟨a, ha⟩ := S.addr hn
  have q := S.ob n a o ha hn
  have hl : w.ι.length ≤ μ.length := Nat.le_of_eq S.len
  cases o with
  | lst l => obtain ⟨vs, _, t⟩ := q; exact t.inb hl _ _
  | ins C fs => obtain ⟨dx, vs, _, t⟩ := q; exact t.inb hl _ _
  | dead => rfl
mutual
theorem RV.cut {n : Nat} : ∀ (d : D) (v : V), RV K w H d v → d.inb n = true → RV K ⟨w.ι.take n, w.φ⟩ H d v
  | .non, v, r, _ => by unfold RV at *; exact r
  | .bl _, v, r, _ => by unfold RV at *; exact r
  | .int _, v, r, _ => by unfold RV at *; exact r
  | .str _, v, r, _ => by unfold RV at *; exact r
  | .scr _, v, r, _ => by unfold RV at *; exact r
  | .fn _, v, r, _ => by unfold RV at *; exact r
  | .tup l, v, r, h => by
    unfold RV at *
    obtain ⟨a, vs, e, q, t⟩ := r
    exact ⟨a, vs, e, q, RVs.cutN l vs t (by simpa only [D.inb] using h)⟩
  | .lst l, v, r, h => by
    unfold RV at *
    obtain ⟨a, vs, e, p, q, t⟩ := r
    exact ⟨a, vs, e, p, q, RVs.cutN l vs t (by simpa only [D.inb] using h)⟩
  | .ref k, v, r, h => by
    unfold RV at *
    obtain ⟨a, e, q⟩ := r
    have hk : k < n := by simpa [D.inb] using h
    exact ⟨a, e, by rw [List.getElem?_take_of_lt hk]; exact q⟩
theorem RVs.cutN {n : Nat} : ∀ (l : List D) (vs : List V), RVs K w H l vs → D.inbs n l = true → RVs K ⟨w.ι.take n, w.φ⟩ H l vs
  | [], vs, r, _ => by rw [r.nil]; exact .mk_nil
  | d :: ds, vs, r, h => by
    obtain ⟨v, us, rfl, p, t⟩ := r.uncons
    simp only [D.inbs, Bool.and_eq_true] at h
    exact .cons (RV.cut d v p h.1) (RVs.cutN ds us t h.2)
end
theorem RFs.cut {n : Nat} : ∀ (l : List (Str × D)) (vs : List (Str × V)), RFs K w H l vs → D.inbs n (l.map (·.2)) = true → RFs K ⟨w.ι.take n, w.φ⟩ H l vs
  | [], vs, r, _ => r
  | p :: ps, vs, r, h => by
    obtain ⟨v, us, e, q, t⟩ := r
    simp only [List.map_cons, D.inbs, Bool.and_eq_true] at h
    exact ⟨v, us, e, q.cut _ _ h.1, RFs.cut ps us t h.2⟩
theorem RS.cut {μ0 g : Store} (S : RS K w H (μ0 ++ g)) (hc : Closed μ0) : RS K ⟨w.ι.take μ0.length, w.φ⟩ H μ0 := by
  have hl := S.len
  rw [List.length_append] at hl
  have up : ∀ {n : Nat} {a : Addr}, (w.ι.take μ0.length)[n]? = some a → n < μ0.length ∧ w.ι[n]? = some a := fun {n a} h => by
    obtain ⟨h1, _⟩ := List.getElem?_eq_some_iff.mp h
    rw [List.length_take] at h1
    have h2 : n < μ0.length := by omega
    exact ⟨h2, by rw [List.getElem?_take_of_lt h2] at h; exact h⟩
  refine ⟨by rw [List.length_take]; omega, S.nd.sublist (List.take_sublist _ _), fun n a h p => ?_, S.tr, fun a h => S.ti a (List.mem_of_mem_take h), fun n a o h1 h2 => ?_⟩
  · obtain ⟨q1, q2⟩ := up h
    have q := S.dj n a q2 p
    rw [List.getElem?_append_left q1] at q
    exact q
  · obtain ⟨q1, q2⟩ := up h1
    have q := S.ob n a o q2 (by rw [List.getElem?_append_left q1]; exact h2)
    have ho := hc o (List.mem_of_getElem? h2)
    cases o with
    | lst l => obtain ⟨vs, e, t⟩ := q; exact ⟨vs, e, t.cutN _ _ ho⟩
    | ins C fs => obtain ⟨dx, vs, e, t⟩ := q; exact ⟨dx, vs, e, RFs.cut _ _ t ho⟩
    | dead => trivial
theorem Ext.cut {w' : Wd} {H' : Hp} {n : Nat} (x : Ext K w H w' H') (hn : w.ι.length ≤ n) : Ext K w H ⟨w'.ι.take n, w'.φ⟩ H' := by
  refine ⟨⟨?_, x.φ, x.t, x.f⟩, fun a u h e => ?_⟩
  · obtain ⟨t, e⟩ := x.ι
    show w.ι <+: w'.ι.take n
    rw [← e, List.take_append, List.take_of_length_le hn]
    exact List.prefix_append _ _
  · obtain ⟨p, q, r⟩ := x.o a u h e
    exact ⟨p, fun z => q (List.mem_of_mem_take z), r⟩
end
end IL

/-! a def keeps its promise; all defs of a text, by levels -/
namespace IL
open PySem PySem.Spec PyProof.Rows L2
section
variable {K : PySem.W.Frag} {w : Wd} {H : Hp} {μ : Store}
theorem start_ok {N : List Str} {ds : List D} {vs : List V} (r : RVs K w H ds vs) : RSt K w H (L2.start N vs) (startD N ds) := by
  refine ⟨by simp [L2.start, startD, r.length], fun i d e => ?_⟩
  unfold startD at e
  unfold L2.start
  by_cases hi : i < ds.length
  · rw [List.getElem?_append_left (by simpa using hi), List.getElem?_map] at e
    cases q : ds[i]? with
    | none => rw [q] at e; cases e
    | some d0 =>
      rw [q] at e
      have e : d0 = d := by simpa using e
      subst e
      obtain ⟨v, h1, h2⟩ := r.get q
      refine ⟨v, ?_, h2⟩
      rw [List.getElem?_append_left (by rw [List.length_map, ← r.length]; exact hi), List.getElem?_map, h1]
      rfl
  · rw [List.getElem?_append_right (by simpa using Nat.le_of_not_lt hi)] at e
    have := List.mem_of_getElem? e
    rw [List.mem_replicate] at this
    exact nomatch this.2
theorem fin_trn {P : DQ} {Q : VK} (S0 : RS K w H μ) (F : Fin K w H P Q) : Fin K w H (fun v μ' => Trn P μ v μ') Q := fun d μ' w' H' v h x S r => by
  rcases h with h | ⟨μ0, g, rfl, hl, hv, hc, h⟩
  · exact F d μ' w' H' v h x S r
  · exact F d μ0 _ H' v h (x.cut (n := μ0.length) (by rw [S0.len]; exact hl)) (S.cut hc) (r.cut _ _ hv)
theorem fn_ok {P : Program} {wo : World} {mg : Str → Option Value} {base : Heap} {G : GC} {C : Str → Option D} {U : Str → Str → Option Bool} {k : Nat} {d : DefI} {f : Addr} {fd : FuncData} {Φ : Str → Spec} {s : Spec}
    (F : FunD K d.x d.x (defArgs d.st) (defBody d.st) (defScope d.st) [] [] f fd) (hc : chkD G d = true) (gl : Glob K mg G C U)
    (hf : ∀ x n, (x, n) ∈ G.fns → ∃ fd ps, ps.length = n ∧ FnOk P wo K mg base (L2.CX P wo) k (He.ga K x) fd ps (lift K (Φ x)) ∧ PySem.W.keepIn K (.ref (He.ga K x)) = true ∧ Binds K fd ps [])
    (ht : P.given.tree = none) (hk : 34 ≤ k) (hb : ∀ ds μ P X, Closed μ → s ds μ P X → BodyOk Φ C U d ds μ P X) : FnOk P wo K mg base (L2.CX P wo) (k + 1) f fd d.ps (lift K s) := by
  unfold chkD at hc
  rw [Bool.and_eq_true] at hc
  have FS := fnSc_ok hc.1
  refine F.ok FS (fun vs H Q E h => ?_) fun cdv A outer s0 H vs Q E hr h => ?_
  · obtain ⟨w, ds, μ, P', X', r, S, h, _⟩ := h
    rw [← r.length]
    exact (hb ds μ P' X' S.closed h).1
  · obtain ⟨w, ds, μ, P', X', r, S, h, hF, hX⟩ := h
    obtain ⟨hl, hB⟩ := hb ds μ P' X' S.closed h
    have ok : SOk G Φ C U d.N (defScope d.st) k (cxOf (L2.CX P wo) P wo K mg base d.N d.x (defScope d.st) f cdv A outer s0 H E) := {
      N := rfl
      sc := rfl
      nd := FS.nd
      calm := fun _ => rfl
      room := fun _ => hr
      un := by
        have := hr.un
        show (A.deeper (envOfC d.x (defScope d.st) s0.heap.objs.size f cdv)).units + 65 < cLine
        omega
      fns := fun x n hx => by
        obtain ⟨fd', ps, h1, h2, h3, h4⟩ := hf x n hx
        exact ⟨fd', ps, h1, h2, gl.gl x n hx, h3, h4⟩
      blt := gl.blt
      cst := gl.cst
      py := ⟨ht, (by
        have := hr.dp
        show (A.deeper (envOfC d.x (defScope d.st) s0.heap.objs.size f cdv)).depth + 100 < recursionLimit
        omega), gl.seer, ⟨envOfC d.x (defScope d.st) s0.heap.objs.size f cdv, outer, rfl, FS.gen, FS.co, rfl, rfl⟩⟩
      kind := FS.kind
      fn := fun _ => rfl
      stk := rfl
      frm := rfl
      pass := passes_of (X := cxOf (L2.CX P wo) P wo K mg base d.N d.x (defScope d.st) f cdv A outer s0 H E) rfl
      exs := fun x hx => by
        obtain ⟨h1, h2, h3, h4, h5⟩ := gl.exs x hx
        exact ⟨h1, h2, h3, raises_own h4 h5⟩
      exm := gl.exm }
    have tk : Takes (cxOf (L2.CX P wo) P wo K mg base d.N d.x (defScope d.st) f cdv A outer s0 H E) (fun cls dd _ H' => E cls dd H') := takes_of rfl rfl rfl rfl
    have body := chkSs_ok (Φ := Φ) (C := C) (U := U) (fun s t h => chkS_ok 40 s t G _ _ ok tk h) d.il _ hc.2
    refine ⟨_, body, w, startD d.N ds, μ, _, start_ok r, S, hB, fun ρ' μ' w' H' σ' q x st' S' => ?_, fun ρ' μ' w' H' σ' q => q.elim, fun ρ' μ' w' H' σ' q => q.elim, fin_trn S hF, fun x ρ' μ' w' H' σ' q y st' S' dd => ?_⟩
    · exact fin_trn S hF _ _ _ _ _ q x S' (rv_non.mpr rfl)
    · rcases q with q | ⟨μ0, g, rfl, hl2, hc0, q⟩
      · exact hX x μ' w' H' q y S' dd
      · exact hX x μ0 _ H' q (y.cut (n := μ0.length) (by rw [S.len]; exact hl2)) (S'.cut hc0) dd
/-- by levels: a promise at level n leans on the promises at the level below -/
theorem all_ok {P : Program} {wo : World} {mg : Str → Option Value} {base : Heap} {G : GC} {C : Str → Option D} {U : Str → Str → Option Bool} {T : List DefI} {Φ : Nat → Str → Spec}
    (hF : ∀ d ∈ T, ∃ fd, FunD K d.x d.x (defArgs d.st) (defBody d.st) (defScope d.st) [] [] (He.ga K d.x) fd ∧ Binds K fd d.ps []) (hc : ∀ d ∈ T, chkD G d = true) (gl : Glob K mg G C U)
    (hG : ∀ x n, (x, n) ∈ G.fns → ∃ d ∈ T, d.x = x ∧ d.ps.length = n) (h0 : ∀ d ∈ T, ∀ ds μ P X, ¬ Φ 0 d.x ds μ P X)
    (ht : P.given.tree = none) (hb : ∀ n, ∀ d ∈ T, ∀ ds μ P X, Closed μ → Φ (n + 1) d.x ds μ P X → BodyOk (Φ n) C U d ds μ P X) :
    ∀ n, ∀ d ∈ T, ∀ fd, FunD K d.x d.x (defArgs d.st) (defBody d.st) (defScope d.st) [] [] (He.ga K d.x) fd → FnOk P wo K mg base (L2.CX P wo) (n + 34) (He.ga K d.x) fd d.ps (lift K (Φ n d.x))
  | 0, d, hd, fd, _ => ⟨fun vs H Q E h => by
      obtain ⟨w, ds, μ, P', X', r, S, h, _⟩ := h
      exact absurd h (h0 d hd ds μ P' X'), fun A outer s H args us vs Q E hr _ _ _ h => by
      obtain ⟨w, ds, μ, P', X', r, S, h, _⟩ := h
      exact absurd h (h0 d hd ds μ P' X')⟩
  | n + 1, d, hd, fd, F => (show n + 1 + 34 = n + 34 + 1 by omega) ▸ fn_ok F (hc d hd) gl (fun x m hx => by
      obtain ⟨d', hd', rfl, e⟩ := hG x m hx
      obtain ⟨fd', F', b⟩ := hF d' hd'
      exact ⟨fd', d'.ps, e, all_ok hF hc gl hG h0 ht hb n d' hd' fd' F', F'.kp, b⟩) ht (by omega) (hb n d hd)
/-- the script as the law gets it -/
theorem script_ok {a : Addr} {ns : List Int} (hO : Only H) (hS : SqL K H a (ns.map V.int)) : ∃ w : Wd, RS K w H [] ∧ RVs K w H [.scr ns] [.ref a] := by
  refine ⟨⟨[], fun b => ∃ u, H b = some u⟩, ⟨rfl, List.nodup_nil, fun n a h => (by simp at h), fun a h => h, fun a h => (nomatch h), fun n a o h => (by simp at h)⟩, .cons ?_ .mk_nil⟩
  unfold RV
  refine ⟨a, rfl, ?_⟩
  rcases hS with h | h
  · rcases h with h | ⟨o, h⟩
    · exact .inl ⟨⟨_, h⟩, .inl h⟩
    · exact .inl ⟨⟨_, h⟩, .inr ⟨o, h⟩⟩
  · exact .inr h
theorem law_lift {s : Spec} {a : Addr} {ns : List Int} (hO : Only H) (hS : SqL K H a (ns.map V.int)) (h : s [.scr ns] [] (fun v _ => v = .bl true) (fun _ _ => False)) : lift K s [.ref a] H (fun v _ => v = .bl true) fun _ _ _ => False := by
  obtain ⟨w, S, r⟩ := script_ok hO hS
  refine ⟨w, _, [], _, _, r, S, h, fun d μ' w' H' v e x S' r' => ?_, fun _ _ _ _ z => z.elim⟩
  subst e
  exact rv_bl.mp r'
end
end IL

/-! the head: what the heap behind the top holds of a text -/
namespace IL
open PySem PySem.Spec PyProof.Rows L2
/-- a constant of the module -/
inductive CK where | int (i : Int) | tup (l : List Int)
def CK.d : CK → D
  | .int i => .int i
  | .tup l => .tup (l.map D.int)
abbrev CsT := List (Str × CK)
def cstB (K : PySem.W.Frag) (p : Str × CK) : Bool := match p.2 with
  | .int i => (He.Fa.int p.1 i).ok K
  | .tup l => (He.Fa.glo p.1).ok K && He.tupB K p.1 (l.map He.Dv.int)
def Cof (cs : CsT) (x : Str) : Option D := (cs.lookup x).map CK.d
abbrev UsT := List ((Str × Str) × Bool)
def Uof (us : UsT) (x y : Str) : Option Bool := us.lookup (x, y)
def faOf (G : GC) (us : UsT) : List He.Fa := G.fns.map (fun p => .glo p.1) ++ bltN.map .free ++ G.exs.map .glo ++ G.exs.map .exc ++ us.map fun p => .exm p.1.1 p.1.2 p.2
def dOf (d : DefI) : He.DefD := ⟨(d.x, none), d.x, d.x, defArgs d.st, defBody d.st, defScope d.st, [], []⟩
/-- the seer's three objects, as the part of the heap holds them -/
def nsO (o : Obj) : Bool := match o.data with | .dict es _ => es.all (fun e => match e.key with | .str _ _ => true | _ => false) | _ => false
def nsF (o : Obj) (x : Str) : Option Value := match o.data with | .dict es _ => nsFind es x | _ => none
def bmB (K : PySem.W.Frag) (v : Option Value) : Bool := match v with
  | some (.ref bm) => match K.lookup bm with
    | some ob => (match ob.cls with | .type t => t == "module" | _ => false) && ob.dict == some builtinsNs
    | none => false
  | _ => false
def seerB (K : PySem.W.Frag) : Bool := match K.lookup cStatics, K.lookup sysModules, K.lookup mainGlobals with
  | some a, some b, some g => (nsO a && (nsF a "sys.audit-hooks").isNone && (nsF a "sys.dict").isNone) && (nsO b && (nsF b "_pylong").isNone) && (nsO g && bmB K (nsF g "__builtins__"))
  | _, _, _ => false
theorem ns_of {h : Heap} {a : Addr} {o : Obj} (e : h.get? a = some o) (n : nsO o = true) : h.Ns a (nsF o) := by
  have x : h.isNs a = true := by
    unfold Heap.isNs; rw [e]; exact n
  have y := Heap.Ns.of_isNs x
  have z : h.nsMap a = nsF o := funext fun s => by
    unfold Heap.nsMap; rw [e]; rfl
  rw [z] at y
  exact y
theorem seer_of {K : PySem.W.Frag} (s : seerB K = true) (h : Heap) (X : K.In h) : SeerP h := by
  unfold seerB at s
  split at s
  · rename_i a b g ea eb eg
    simp only [Bool.and_eq_true, Option.isNone_iff_eq_none] at s
    obtain ⟨⟨⟨⟨a1, a2⟩, a3⟩, b1, b2⟩, g1, g2⟩ := s
    unfold bmB at g2
    split at g2
    · rename_i bm ebm
      split at g2
      · rename_i ob eob
        rw [Bool.and_eq_true] at g2
        obtain ⟨g3, g4⟩ := g2
        split at g3
        · rename_i t et
          rw [beq_iff_eq] at g3 g4
          exact ⟨⟨_, ns_of (X _ _ ea) a1, a2, a3⟩, ⟨_, ns_of (X _ _ eb) b1, b2⟩, ⟨_, bm, ob, ns_of (X _ _ eg) g1, ebm, X _ _ eob, by rw [et, g3], g4⟩⟩
        · cases g3
      · cases g2
    · cases g2
  · cases s
def asI (g : Addr → Option Obj) (n : Nat) : List Addr := cStatics :: sysModules :: He.asD g n
def obsI (fa : List He.Fa) (cs : CsT) (fn : List He.DefD) (K : PySem.W.Frag) : He.AlD := ((fa.all fun f => f.ok K) && (seerB K && ((cs.all fun c => cstB K c) && fn.all fun d => d.ok K)), fn.map fun d => He.fnW K d.at_)
def SaysI (fa : List He.Fa) (cs : CsT) (fn : List He.DefD) (K : PySem.W.Frag) : Prop := obsI fa cs fn K = He.valD fn
def obsIG (n : Nat) (fa : List He.Fa) (cs : CsT) (fn : List He.DefD) (g : Addr → Option Obj) : He.AlD := obsI fa cs fn (He.frG g (asI g n))
def hookI (n : Nat) (fa : List He.Fa) (cs : CsT) (fn : List He.DefD) : PySem.W.Hook where
  α := He.AlD
  obs := fun s => obsIG n fa cs fn s.heap.get?
  val := fun _ => He.valD fn
  says := fun _ h => ∃ K : PySem.W.Frag, K.In h ∧ SaysI fa cs fn K
  of := fun _ _ e => ⟨_, He.frG_in, e⟩
  keeps := fun _ _ _ ⟨K, hK, c⟩ k => ⟨K, PySem.W.Frag.In.keeps hK k, c⟩
theorem obsIG_eq {n : Nat} {fa : List He.Fa} {cs : CsT} {fn : List He.DefD} {g : Addr → Option Obj} {s : Shared} (h : ∀ a, g a = s.heap.get? a) : obsIG n fa cs fn g = (hookI n fa cs fn).obs s := by
  have e : g = s.heap.get? := funext h
  rw [e] <;> rfl
section
variable {fa : List He.Fa} {cs : CsT} {fn : List He.DefD} {K : PySem.W.Frag}
theorem SaysI.all (c : SaysI fa cs fn K) : (∀ f ∈ fa, f.ok K = true) ∧ (∀ p ∈ cs, cstB K p = true) ∧ (∀ d ∈ fn, He.DefD.ok K d = true) ∧ seerB K = true := by
  obtain ⟨c1, c2⟩ := He.ba (show ((fa.all fun f => f.ok K) && (seerB K && ((cs.all fun c => cstB K c) && fn.all fun d => d.ok K))) = true from congrArg (fun z : He.AlD => z.1) c)
  obtain ⟨c0, c2⟩ := He.ba c2
  obtain ⟨c3, c4⟩ := He.ba c2
  exact ⟨List.all_eq_true.mp c1, List.all_eq_true.mp c3, List.all_eq_true.mp c4, c0⟩
theorem SaysI.def_ (c : SaysI fa cs fn K) {d : He.DefD} (h : d ∈ fn) : ∃ fd, FunD K d.name d.qual d.params d.body d.scope (d.dvs K) (d.kws K) (He.fAd K d.at_) fd := by
  have e : fn.map (fun d => He.fnW K d.at_) = fn.map He.DefD.val := congrArg (fun z : He.AlD => z.2) c
  exact He.DefD.funD (List.map_inj_left.mp e d h) (c.all.2.2.1 d h)
theorem lookup_mem {α β : Type} [BEq α] [LawfulBEq α] {x : α} {b : β} : ∀ {l : List (α × β)}, l.lookup x = some b → (x, b) ∈ l
  | [], h => by cases h
  | (y, c) :: l, h => by
    rw [List.lookup_cons] at h
    split at h
    · rename_i e
      cases h
      rw [eq_of_beq e]
      exact List.mem_cons_self ..
    · exact List.mem_cons_of_mem _ (lookup_mem h)
theorem glob_ok {h : Heap} {mg : Str → Option Value} {G : GC} {us : UsT} (X : K.In h) (Gm : h.Ns mainGlobals mg) (c : SaysI (faOf G us) cs fn K) : Glob K mg G (Cof cs) (Uof us) := by
  obtain ⟨c1, c2, _, c5⟩ := c.all
  have mem : ∀ f, f ∈ G.fns.map (fun p => He.Fa.glo p.1) ∨ f ∈ bltN.map He.Fa.free ∨ f ∈ G.exs.map He.Fa.glo ∨ f ∈ G.exs.map He.Fa.exc ∨ f ∈ (us.map fun p => He.Fa.exm p.1.1 p.1.2 p.2) → f.ok K = true := fun f z => c1 f (by
    unfold faOf
    simp only [List.mem_append]
    rcases z with z | z | z | z | z
    · exact .inl (.inl (.inl (.inl z)))
    · exact .inl (.inl (.inl (.inr z)))
    · exact .inl (.inl (.inr z))
    · exact .inl (.inr z)
    · exact .inr z)
  refine ⟨fun x n hx => He.glo_ok X Gm (mem (.glo x) (.inl (List.mem_map.mpr ⟨_, hx, rfl⟩))), fun x hx => He.free_ok X Gm (mem (.free x) (.inr (.inl (List.mem_map.mpr ⟨_, hx, rfl⟩)))), fun x hx d hd => ?_, fun x hx => ?_, fun x y m hm => ?_, seer_of c5⟩
  · unfold Cof at hd
    cases q : cs.lookup x with
    | none => rw [q] at hd; cases hd
    | some ck =>
      rw [q] at hd
      cases hd
      have k := c2 _ (lookup_mem q)
      cases ck with
      | int i =>
        obtain ⟨t, e⟩ := He.int_ok X Gm (x := x) (i := i) k
        exact ⟨.int i, _, e, ⟨t, rfl⟩, fun w H => rv_int.mpr rfl⟩
      | tup l =>
        obtain ⟨k1, k2⟩ := He.ba (show ((He.Fa.glo x).ok K && He.tupB K x (l.map He.Dv.int)) = true from k)
        refine ⟨.ref (He.ga K x), _, He.glo_ok X Gm k1, rfl, fun w H => ?_⟩
        have t := He.tupB_ok k2 H
        rw [List.map_map] at t
        show RV K w H (.tup (l.map D.int)) _
        unfold RV
        exact ⟨_, _, rfl, t, RVs.ints l⟩
  · have k := He.exc_ok (mem (.exc x) (.inr (.inr (.inr (.inl (List.mem_map.mpr ⟨_, hx, rfl⟩))))))
    exact ⟨He.glo_ok X Gm (mem (.glo x) (.inr (.inr (.inl (List.mem_map.mpr ⟨_, hx, rfl⟩))))), k⟩
  · exact He.exm_ok (mem (.exm x y m) (.inr (.inr (.inr (.inr (List.mem_map.mpr ⟨_, lookup_mem hm, rfl⟩))))))
/-- what the text's table has to be -/
structure TabOk (G : GC) (T : List DefI) : Prop where
  chk : ∀ d ∈ T, chkD G d = true
  fns : ∀ x n, (x, n) ∈ G.fns → ∃ d ∈ T, d.x = x ∧ d.ps.length = n
  bnd : ∀ d ∈ T, ∀ (K : PySem.W.Frag) (f : Addr) (fd : FuncData), FunD K d.x d.x (defArgs d.st) (defBody d.st) (defScope d.st) [] [] f fd → Binds K fd d.ps []
/-- what the bodies keep -/
structure BodOk (cs : CsT) (us : UsT) (T : List DefI) (Φ : Nat → Str → Spec) : Prop where
  z : ∀ d ∈ T, ∀ ds μ P X, ¬ Φ 0 d.x ds μ P X
  s : ∀ n, ∀ d ∈ T, ∀ ds μ P X, Closed μ → Φ (n + 1) d.x ds μ P X → BodyOk (Φ n) (Cof cs) (Uof us) d ds μ P X
theorem law_ok {P : Program} {wo : World} {h : Heap} {mg : Str → Option Value} {G : GC} {us : UsT} {T : List DefI} {Φ : Nat → Str → Spec} (tb : TabOk G T) (bd : BodOk cs us T Φ) (ht : P.given.tree = none) (X : K.In h) (Gm : h.Ns mainGlobals mg) (c : SaysI (faOf G us) cs (T.map dOf) K) {d : DefI} (hd : d ∈ T) :
    ∃ fd : FuncData, FunD K d.x d.x (defArgs d.st) (defBody d.st) (defScope d.st) [] [] (He.ga K d.x) fd ∧ ∀ (n : Nat) (base : Heap), K.In base → base.Ns mainGlobals mg → FnOk P wo K mg base (L2.CX P wo) (n + 34) (He.ga K d.x) fd d.ps (lift K (Φ n d.x)) := by
  have F : ∀ d ∈ T, ∃ fd, FunD K d.x d.x (defArgs d.st) (defBody d.st) (defScope d.st) [] [] (He.ga K d.x) fd := fun d hd => c.def_ (d := dOf d) (List.mem_map.mpr ⟨d, hd, rfl⟩)
  obtain ⟨fd, f⟩ := F d hd
  refine ⟨fd, f, fun n base b1 b2 => all_ok (fun d hd => ?_) tb.chk (glob_ok X Gm c) tb.fns bd.z ht bd.s n d hd fd f⟩
  obtain ⟨fd', f'⟩ := F d hd
  exact ⟨fd', f', tb.bnd d hd K _ fd' f'⟩
theorem cx_mono {P : Program} {wo : World} {mg : Str → Option Value} {base : Heap} {CX CX' : CXT} {k : Nat} {f : Addr} {fd : FuncData} {ps : List Str} {sp : Sp} (F : FnOk P wo K mg base CX k f fd ps sp) (h : ∀ o H s E e s', CX o H s E e s' → CX' o H s E e s') : FnOk P wo K mg base CX' k f fd ps sp :=
  ⟨F.len, fun A outer s H args us vs Q E hr he hb hv hs => codeAny_mono (F.run A outer s H args us vs Q E hr he hb hv hs) fun r s' z => by
    unfold CR at z ⊢
    split at z
    · exact z
    · exact z.elim
    · exact h _ _ _ _ _ _ z⟩
end
end IL

namespace IL
open PySem L2
def il_law_add : Ss := (.cons (.ret (.call "_law_f" (.cons (.bin false .add (.bin false .mul (.idx (.var 0) (.int 0)) (.idx (.var 1) (.int 1))) (.bin false .mul (.idx (.var 1) (.int 0)) (.idx (.var 0) (.int 1)))) (.cons (.bin false .mul (.idx (.var 0) (.int 1)) (.idx (.var 1) (.int 1))) .nil)))) .nil)
def d_law_add (st : Stmt) : DefI := ⟨"_law_add", ["x", "y"], ["x", "y"], st, il_law_add⟩
def lp_law_answer_0 : S := .loop .seq (.var 1) .nop .nop (.tp [4, 5]) (.cons (.set 3 (.call "_law_with" (.cons (.var 3) (.cons (.var 4) (.cons (.var 5) .nil))))) .nil)
def il_law_answer : Ss := (.cons (.set 3 (.tup .nil)) (.cons lp_law_answer_0 (.cons (.ite (.cmp .eq (.var 2) (.str "points")) (.cons (.ret (.call "write_points" (.cons (.var 3) .nil))) .nil) .nil) (.cons (.ite (.cmp .eq (.var 2) (.str "settled")) (.cons (.ret (.ite (.cmp .lt (.bf false .len (.cons (.idx (.call "ladder_of" (.cons (.var 3) .nil)) (.int 0)) .nil)) (.bf false .len (.cons (.var 1) .nil))) (.str "yes") (.str "no"))) .nil) .nil) (.cons (.ite (.cmp .eq (.var 2) (.str "rank")) (.cons (.ret (.bf false .str (.cons (.bf false .len (.cons (.idx (.call "ladder_of" (.cons (.var 3) .nil)) (.int 0)) .nil)) .nil))) .nil) .nil) (.cons (.ite (.cmp .eq (.var 2) (.str "degree")) (.cons (.ret (.bf false .str (.cons (.call "degree_of" (.cons (.call "quotient_of" (.cons (.call "ladder_of" (.cons (.var 3) .nil)) .nil)) .nil)) .nil))) .nil) .nil) (.cons (.ite (.cmp .eq (.var 2) (.str "ladder")) (.cons (.ret (.call "write_ladder" (.cons (.call "ladder_of" (.cons (.var 3) .nil)) .nil))) .nil) .nil) (.cons (.ite (.cmp .eq (.var 2) (.str "function")) (.cons (.ret (.call "write_quotient" (.cons (.call "quotient_of" (.cons (.call "ladder_of" (.cons (.var 3) .nil)) .nil)) .nil))) .nil) .nil) (.cons (.ite (.cmp .eq (.var 2) (.str "undo")) (.cons (.ite (.cmp .eq (.var 1) (.lst false .nil)) (.cons (.ret (.str "error NothingToUndo")) .nil) .nil) (.cons (.exp (.pop (.var 1))) (.cons (.ret (.str "ok")) .nil))) .nil) (.cons (.ret (.str "error BadText")) .nil))))))))))
def d_law_answer (st : Stmt) : DefI := ⟨"_law_answer", ["pool", "told", "line"], ["pool", "told", "line", "points", "place", "level"], st, il_law_answer⟩
def il_law_any : Ss := (.cons (.ret (.call "_law_f" (.cons (.bin false .sub (.call "_law_draw" (.cons (.var 0) (.cons (.int 21) .nil))) (.int 10)) (.cons (.bin false .add (.int 1) (.call "_law_draw" (.cons (.var 0) (.cons (.int 6) .nil)))) .nil)))) .nil)
def d_law_any (st : Stmt) : DefI := ⟨"_law_any", ["pool"], ["pool"], st, il_law_any⟩
def lp_law_at_0 : S := .loop .seq (.rev false (.var 0)) .nop .nop (.nm 3) (.cons (.set 2 (.call "_law_add" (.cons (.call "_law_mul" (.cons (.var 2) (.cons (.var 1) .nil))) (.cons (.var 3) .nil)))) .nil)
def il_law_at : Ss := (.cons (.set 2 (.tup (.cons (.int 0) (.cons (.int 1) .nil)))) (.cons lp_law_at_0 (.cons (.ret (.var 2)) .nil)))
def d_law_at (st : Stmt) : DefI := ⟨"_law_at", ["one", "x"], ["one", "x", "found", "item"], st, il_law_at⟩
def lp_law_begin_table_0 : S := .loop .r2 (.bf false .max (.cons (.var 3) (.cons (.var 5) .nil))) (.var 1) .nop (.nm 7) (.cons (.set 6 (.call "_law_sub" (.cons (.var 6) (.cons (.call "_law_mul" (.cons (.idx (.var 0) (.bin false .sub (.var 7) (.var 3))) (.cons (.idx (.var 0) (.bin false .sub (.var 7) (.var 5))) .nil))) .nil)))) .nil)
def lp_law_begin_table_1 : S := .loop .r1 (.var 1) .nop .nop (.nm 5) (.cons (.set 6 (.tup (.cons (.bf false .int (.cons (.cmp .eq (.var 3) (.var 5)) .nil)) (.cons (.int 1) .nil)))) (.cons lp_law_begin_table_0 (.cons (.exp (.app (.var 4) (.var 6))) .nil)))
def lp_law_begin_table_2 : S := .loop .r1 (.var 1) .nop .nop (.nm 3) (.cons (.set 4 (.lst true .nil)) (.cons lp_law_begin_table_1 (.cons (.exp (.app (.var 2) (.bf false .tuple (.cons (.var 4) .nil)))) .nil)))
def il_law_begin_table : Ss := (.cons (.set 1 (.bf false .len (.cons (.var 0) .nil))) (.cons (.set 2 (.lst true .nil)) (.cons lp_law_begin_table_2 (.cons (.ret (.bf false .tuple (.cons (.var 2) .nil))) .nil))))
def d_law_begin_table (st : Stmt) : DefI := ⟨"_law_begin_table", ["row"], ["row", "size", "found", "j", "line", "k", "total", "i"], st, il_law_begin_table⟩
def cp_law_beginning_0 : E := .comp false .r1 (.call "_law_draw" (.cons (.var 0) (.cons (.bin false .add (.var 2) (.int 1)) .nil))) .nop .nop (.nm 4) (.bl true) (.tup (.cons (.tup (.cons (.int 0) (.cons (.int 1) .nil))) (.cons (.call "_law_place" (.cons (.var 0) .nil)) .nil)))
def cp_law_beginning_1 : E := .comp false .r1 (.var 2) .nop .nop (.nm 4) (.bl true) (.call "_law_f" (.cons (.bin false .sub (.call "_law_draw" (.cons (.var 0) (.cons (.int 13) .nil))) (.int 6)) (.cons (.bin false .add (.int 6) (.call "_law_draw" (.cons (.var 0) (.cons (.int 3) .nil)))) .nil)))
def il_law_beginning : Ss := (.cons (.set 2 (.bin false .add (.int 1) (.call "_law_draw" (.cons (.var 0) (.cons (.var 1) .nil))))) (.cons (.ite (.cmp .eq (.call "_law_draw" (.cons (.var 0) (.cons (.int 2) .nil))) (.int 0)) (.cons (.set 3 (.tup (.cons (.bf false .tuple (.cons cp_law_beginning_0 .nil)) (.cons (.call "_law_level" (.cons (.var 0) .nil)) .nil)))) (.cons (.ret (.bf false .tuple (.cons (.call "_law_ladder_series" (.cons (.var 3) (.cons (.var 2) .nil))) .nil))) .nil)) .nil) (.cons (.ret (.bf false .tuple (.cons cp_law_beginning_1 .nil))) .nil)))
def d_law_beginning (st : Stmt) : DefI := ⟨"_law_beginning", ["pool", "most"], ["pool", "most", "size", "ladder", "k"], st, il_law_beginning⟩
def ss_law_bent_3 : Ss := .cons (.ret (.idx (.var 2) (.call "_law_draw" (.cons (.var 0) (.cons (.bf false .len (.cons (.var 2) .nil)) .nil))))) .nil
def ss_law_bent_2 : Ss := .cons (.ite (.and (.isi .int (.var 1)) (.cmp .eq (.call "_law_draw" (.cons (.var 0) (.cons (.int 2) .nil))) (.int 0))) (.cons (.ret (.bin false .sub (.bin false .add (.var 1) (.int 1)) (.bin false .mul (.int 2) (.call "_law_draw" (.cons (.var 0) (.cons (.int 2) .nil)))))) .nil) .nil) ss_law_bent_3
def ss_law_bent_1 : Ss := .cons (.set 2 (.call "_law_odd_values" .nil)) ss_law_bent_2
def il_law_bent : Ss := .cons (.ite (.and (.isi .tuple (.var 1)) (.and (.cmp .gt (.bf false .len (.cons (.var 1) .nil)) (.int 0)) (.cmp .gt (.call "_law_draw" (.cons (.var 0) (.cons (.int 4) .nil))) (.int 0)))) (.cons (.set 3 (.call "_law_draw" (.cons (.var 0) (.cons (.bf false .len (.cons (.var 1) .nil)) .nil)))) (.cons (.set 4 (.call "_law_draw" (.cons (.var 0) (.cons (.int 5) .nil)))) (.cons (.ite (.cmp .eq (.var 4) (.int 0)) (.cons (.ret (.bin false .add (.slc false (.var 1) .nop (.var 3)) (.slc false (.var 1) (.bin false .add (.var 3) (.int 1)) .nop))) .nil) .nil) (.cons (.ite (.cmp .eq (.var 4) (.int 1)) (.cons (.ret (.bin false .add (.var 1) (.tup (.cons (.idx (.var 1) (.var 3)) .nil)))) .nil) .nil) (.cons (.ite (.cmp .eq (.var 4) (.int 2)) (.cons (.ret (.bin false .add (.bin false .add (.slc false (.var 1) .nop (.var 3)) (.tup (.cons (.ite (.isi .tuple (.idx (.var 1) (.var 3))) (.bf false .list (.cons (.idx (.var 1) (.var 3)) .nil)) .non) .nil))) (.slc false (.var 1) (.bin false .add (.var 3) (.int 1)) .nop))) .nil) .nil) (.cons (.ret (.bin false .add (.bin false .add (.slc false (.var 1) .nop (.var 3)) (.tup (.cons (.call "_law_bent" (.cons (.var 0) (.cons (.idx (.var 1) (.var 3)) .nil))) .nil))) (.slc false (.var 1) (.bin false .add (.var 3) (.int 1)) .nop))) .nil)))))) .nil) ss_law_bent_1
def d_law_bent (st : Stmt) : DefI := ⟨"_law_bent", ["pool", "value"], ["pool", "value", "rows", "k", "which"], st, il_law_bent⟩
def lp_law_both_0 : S := .loop .r1 (.bf false .len (.cons (.var 2) .nil)) .nop .nop (.nm 5) (.cons (.set 3 (.call "_law_add" (.cons (.var 3) (.cons (.call "_law_mul" (.cons (.call "_law_mul" (.cons (.idx (.var 1) (.var 4)) (.cons (.idx (.var 2) (.var 5)) .nil))) (.cons (.idx (.idx (.var 0) (.var 4)) (.var 5)) .nil))) .nil)))) .nil)
def lp_law_both_1 : S := .loop .r1 (.bf false .len (.cons (.var 1) .nil)) .nop .nop (.nm 4) (.cons lp_law_both_0 .nil)
def il_law_both : Ss := (.cons (.set 3 (.tup (.cons (.int 0) (.cons (.int 1) .nil)))) (.cons lp_law_both_1 (.cons (.ret (.var 3)) .nil)))
def d_law_both (st : Stmt) : DefI := ⟨"_law_both", ["table", "one", "two"], ["table", "one", "two", "total", "j", "k"], st, il_law_both⟩
def lp_law_deep_0 : S := .loop .r1 (.var 1) .nop .nop (.nm 3) (.cons (.set 4 (.call "_law_draw" (.cons (.var 0) (.cons (.int 3) .nil)))) (.cons (.set 2 (.ite (.cmp .eq (.var 4) (.int 0)) (.tup (.cons (.var 2) .nil)) (.ite (.and (.cmp .eq (.var 4) (.int 1)) (.cmp .lt (.var 3) (.int 4))) (.tup (.cons (.var 2) (.cons (.var 2) .nil))) (.tup (.cons (.tup (.cons (.int 0) (.cons (.int 1) .nil))) (.cons (.var 2) .nil)))))) .nil))
def il_law_deep : Ss := (.cons (.set 2 (.idx (.call "_law_odd_values" .nil) (.call "_law_draw" (.cons (.var 0) (.cons (.bf false .len (.cons (.call "_law_odd_values" .nil) .nil)) .nil))))) (.cons lp_law_deep_0 (.cons (.ret (.var 2)) .nil)))
def d_law_deep (st : Stmt) : DefI := ⟨"_law_deep", ["pool", "deep"], ["pool", "deep", "value", "k", "which"], st, il_law_deep⟩
def il_law_div : Ss := (.cons (.ret (.call "_law_f" (.cons (.bin false .mul (.idx (.var 0) (.int 0)) (.idx (.var 1) (.int 1))) (.cons (.bin false .mul (.idx (.var 0) (.int 1)) (.idx (.var 1) (.int 0))) .nil)))) .nil)
def d_law_div (st : Stmt) : DefI := ⟨"_law_div", ["x", "y"], ["x", "y"], st, il_law_div⟩
def il_law_draw : Ss := (.cons (.ite (.and (.cmp .le (.idx (.var 0) (.int 2)) (.int 0)) (.cmp .lt (.idx (.var 0) (.int 1)) (.bf false .len (.cons (.idx (.var 0) (.int 0)) .nil)))) (.cons (.set 3 (.idx (.idx (.var 0) (.int 0)) (.idx (.var 0) (.int 1)))) (.cons (.seti (.var 0) (.int 1) (.bin false .add (.idx (.var 0) (.int 1)) (.int 1))) (.cons (.seti (.var 0) (.int 2) (.var 3)) (.cons (.ite (.cmp .lt (.var 3) (.int 1000000000000000000)) (.cons (.seti (.var 0) (.int 2) (.call "_law_spread" (.cons (.var 3) .nil))) .nil) .nil) .nil)))) .nil) (.cons (.seti (.var 0) (.int 3) (.bin false .add (.idx (.var 0) (.int 3)) (.int 1))) (.cons (.ite (.cmp .le (.idx (.var 0) (.int 2)) (.int 0)) (.cons (.set 4 (.bin false .mod (.bf false .int (.cons (.bin false .add (.bin false .add (.bin false .mul (.idx (.var 0) (.int 4)) (.int 48271)) (.bin false .mul (.idx (.var 0) (.int 3)) (.int 69621))) (.int 1)) .nil)) (.int 2147483647))) (.cons (.set 4 (.bin false .mod (.bf false .int (.cons (.bin false .add (.bin false .mul (.var 4) (.int 16807)) (.idx (.var 0) (.int 3))) .nil)) (.int 2147483629))) (.cons (.ret (.bin false .mod (.bin false .fdiv (.var 4) (.int 5)) (.var 1))) .nil))) .nil) (.cons (.set 2 (.bin false .mod (.bf false .int (.cons (.idx (.var 0) (.int 2)) .nil)) (.var 1))) (.cons (.seti (.var 0) (.int 2) (.bin false .fdiv (.idx (.var 0) (.int 2)) (.var 1))) (.cons (.ret (.var 2)) .nil))))))
def d_law_draw (st : Stmt) : DefI := ⟨"_law_draw", ["pool", "many"], ["pool", "many", "value", "cell", "blended"], st, il_law_draw⟩
def il_law_f : Ss := (.cons (.ite (.cmp .lt (.var 1) (.int 0)) (.cons (.par [0, 1] (.cons (.bin false .sub (.int 0) (.var 0)) (.cons (.bin false .sub (.int 0) (.var 1)) .nil))) .nil) .nil) (.cons (.set 2 (.bf false .max (.cons (.int 1) (.cons (.call "_law_gcd" (.cons (.var 0) (.cons (.var 1) .nil))) .nil)))) (.cons (.ret (.tup (.cons (.bin false .fdiv (.var 0) (.var 2)) (.cons (.bin false .fdiv (.var 1) (.var 2)) .nil)))) .nil)))
def d_law_f (st : Stmt) : DefI := ⟨"_law_f", ["a", "d"], ["a", "d", "size"], st, il_law_f⟩
def lp_law_gcd_0 : S := .whl (.cmp .gt (.var 1) (.int 0)) (.cons (.par [0, 1] (.cons (.var 1) (.cons (.bin false .mod (.bf false .int (.cons (.var 0) .nil)) (.var 1)) .nil))) .nil)
def il_law_gcd : Ss := (.cons (.par [0, 1] (.cons (.bf false .abs (.cons (.var 0) .nil)) (.cons (.bf false .abs (.cons (.var 1) .nil)) .nil))) (.cons lp_law_gcd_0 (.cons (.ret (.var 0)) .nil)))
def d_law_gcd (st : Stmt) : DefI := ⟨"_law_gcd", ["a", "b"], ["a", "b"], st, il_law_gcd⟩
def cp_law_is_fraction_0 : E := .comp false .seq (.var 0) .nop .nop (.nm 1) (.or (.not (.isi .int (.var 1))) (.isi .bool (.var 1))) (.var 1)
def il_law_is_fraction : Ss := (.cons (.ite (.or (.not (.isi .tuple (.var 0))) (.cmp .ne (.bf false .len (.cons (.var 0) .nil)) (.int 2))) (.cons (.ret (.bl false)) .nil) .nil) (.cons (.ite (.cmp .gt (.bf false .len (.cons cp_law_is_fraction_0 .nil)) (.int 0)) (.cons (.ret (.bl false)) .nil) .nil) (.cons (.ret (.and (.cmp .gt (.idx (.var 0) (.int 1)) (.int 0)) (.cmp .eq (.call "_law_gcd" (.cons (.idx (.var 0) (.int 0)) (.cons (.idx (.var 0) (.int 1)) .nil))) (.int 1)))) .nil)))
def d_law_is_fraction (st : Stmt) : DefI := ⟨"_law_is_fraction", ["value"], ["value", "x"], st, il_law_is_fraction⟩
def cp_law_is_ladder_0 : E := .comp false .seq (.var 1) .nop .nop (.nm 2) (.or (.not (.call "_law_is_fraction" (.cons (.var 2) .nil))) (.cmp .ge (.bf false .abs (.cons (.idx (.var 2) (.int 0)) .nil)) (.idx (.var 2) (.int 1)))) (.var 2)
def lp_law_is_ladder_1 : S := .loop .seq (.idx (.var 0) (.int 0)) .nop .nop (.nm 1) (.cons (.ite (.or (.not (.isi .tuple (.var 1))) (.cmp .ne (.bf false .len (.cons (.var 1) .nil)) (.int 2))) (.cons (.ret (.bl false)) .nil) .nil) (.cons (.ite (.cmp .gt (.bf false .len (.cons cp_law_is_ladder_0 .nil)) (.int 0)) (.cons (.ret (.bl false)) .nil) .nil) .nil))
def il_law_is_ladder : Ss := (.cons (.ite (.or (.not (.isi .tuple (.var 0))) (.or (.cmp .ne (.bf false .len (.cons (.var 0) .nil)) (.int 2)) (.or (.not (.isi .tuple (.idx (.var 0) (.int 0)))) (.cmp .gt (.bf false .len (.cons (.idx (.var 0) (.int 0)) .nil)) (.int 12))))) (.cons (.ret (.bl false)) .nil) .nil) (.cons (.ite (.or (.not (.call "_law_is_fraction" (.cons (.idx (.var 0) (.int 1)) .nil))) (.cmp .gt (.bf false .abs (.cons (.idx (.idx (.var 0) (.int 1)) (.int 0)) .nil)) (.idx (.idx (.var 0) (.int 1)) (.int 1)))) (.cons (.ret (.bl false)) .nil) .nil) (.cons lp_law_is_ladder_1 (.cons (.ret (.bl true)) .nil))))
def d_law_is_ladder (st : Stmt) : DefI := ⟨"_law_is_ladder", ["value"], ["value", "step", "x"], st, il_law_is_ladder⟩
def lp_law_is_points_0 : S := .loop .seq (.var 0) .nop .nop (.nm 1) (.cons (.ite (.or (.not (.isi .tuple (.var 1))) (.or (.cmp .ne (.bf false .len (.cons (.var 1) .nil)) (.int 2)) (.or (.not (.call "_law_is_fraction" (.cons (.idx (.var 1) (.int 0)) .nil))) (.not (.call "_law_is_fraction" (.cons (.idx (.var 1) (.int 1)) .nil)))))) (.cons (.ret (.bl false)) .nil) .nil) (.cons (.ite (.or (.cmp .ge (.bf false .abs (.cons (.idx (.idx (.var 1) (.int 0)) (.int 0)) .nil)) (.idx (.idx (.var 1) (.int 0)) (.int 1))) (.cmp .gt (.bf false .abs (.cons (.idx (.idx (.var 1) (.int 1)) (.int 0)) .nil)) (.idx (.idx (.var 1) (.int 1)) (.int 1)))) (.cons (.ret (.bl false)) .nil) .nil) .nil))
def cp_law_is_points_1 : E := .comp false .r1 (.bin false .sub (.bf false .len (.cons (.var 0) .nil)) (.int 1)) .nop .nop (.nm 2) (.not (.call "_law_less" (.cons (.idx (.idx (.var 0) (.var 2)) (.int 0)) (.cons (.idx (.idx (.var 0) (.bin false .add (.var 2) (.int 1))) (.int 0)) .nil)))) (.var 2)
def il_law_is_points : Ss := (.cons (.ite (.or (.not (.isi .tuple (.var 0))) (.cmp .gt (.bf false .len (.cons (.var 0) .nil)) (.int 8))) (.cons (.ret (.bl false)) .nil) .nil) (.cons lp_law_is_points_0 (.cons (.ret (.cmp .eq (.bf false .len (.cons cp_law_is_points_1 .nil)) (.int 0))) .nil)))
def d_law_is_points (st : Stmt) : DefI := ⟨"_law_is_points", ["value"], ["value", "row", "k"], st, il_law_is_points⟩
def il_law_joined : Ss := (.cons (.ret (.call "_law_div" (.cons (.call "_law_add" (.cons (.var 0) (.cons (.var 1) .nil))) (.cons (.call "_law_add" (.cons (.tup (.cons (.int 1) (.cons (.int 1) .nil))) (.cons (.call "_law_mul" (.cons (.var 0) (.cons (.var 1) .nil))) .nil))) .nil)))) .nil)
def d_law_joined (st : Stmt) : DefI := ⟨"_law_joined", ["x", "y"], ["x", "y"], st, il_law_joined⟩
def cp_law_ladder_0 : E := .comp false .r1 (.call "_law_draw" (.cons (.var 0) (.cons (.bin false .add (.var 1) (.int 1)) .nil))) .nop .nop (.nm 4) (.bl true) (.tup (.cons (.call "_law_place" (.cons (.var 0) .nil)) (.cons (.call "_law_place" (.cons (.var 0) .nil)) .nil)))
def il_law_ladder : Ss := (.cons (.set 2 cp_law_ladder_0) (.cons (.set 3 (.ite (.cmp .eq (.call "_law_draw" (.cons (.var 0) (.cons (.int 2) .nil))) (.int 0)) (.tup (.cons (.bin false .sub (.int 1) (.bin false .mul (.int 2) (.call "_law_draw" (.cons (.var 0) (.cons (.int 2) .nil))))) (.cons (.int 1) .nil))) (.call "_law_level" (.cons (.var 0) .nil)))) (.cons (.ret (.tup (.cons (.bf false .tuple (.cons (.var 2) .nil)) (.cons (.var 3) .nil)))) .nil)))
def d_law_ladder (st : Stmt) : DefI := ⟨"_law_ladder", ["pool", "most"], ["pool", "most", "steps", "last", "k"], st, il_law_ladder⟩
def lp_law_ladder_series_0 : S := .loop .seq (.rev false (.idx (.var 0) (.int 0))) .nop .nop (.tp [4, 5]) (.cons (.set 6 (.call "_law_short" (.cons (.lst false (.cons (.call "_law_sub" (.cons (.tup (.cons (.int 0) (.cons (.int 1) .nil))) (.cons (.var 4) .nil))) (.cons (.tup (.cons (.int 1) (.cons (.int 1) .nil))) .nil))) .nil))) (.cons (.set 7 (.call "_law_short" (.cons (.lst false (.cons (.tup (.cons (.int 1) (.cons (.int 1) .nil))) (.cons (.call "_law_sub" (.cons (.tup (.cons (.int 0) (.cons (.int 1) .nil))) (.cons (.var 4) .nil))) .nil))) .nil))) (.cons (.par [8, 9] (.cons (.call "_law_product" (.cons (.var 6) (.cons (.var 2) .nil))) (.cons (.call "_law_product" (.cons (.var 7) (.cons (.var 3) .nil))) .nil))) (.cons (.set 2 (.call "_law_sum" (.cons (.call "_law_scaled" (.cons (.var 9) (.cons (.var 5) .nil))) (.cons (.var 8) .nil)))) (.cons (.set 3 (.call "_law_sum" (.cons (.var 9) (.cons (.call "_law_scaled" (.cons (.var 8) (.cons (.var 5) .nil))) .nil)))) .nil)))))
def il_law_ladder_series : Ss := (.cons (.par [2, 3] (.cons (.call "_law_short" (.cons (.lst false (.cons (.idx (.var 0) (.int 1)) .nil)) .nil)) (.cons (.tup (.cons (.tup (.cons (.int 1) (.cons (.int 1) .nil))) .nil)) .nil))) (.cons lp_law_ladder_series_0 (.cons (.ret (.call "_law_series" (.cons (.tup (.cons (.var 2) (.cons (.var 3) .nil))) (.cons (.var 1) .nil)))) .nil)))
def d_law_ladder_series (st : Stmt) : DefI := ⟨"_law_ladder_series", ["ladder", "size"], ["ladder", "size", "above", "below", "place", "level", "swing", "under", "up", "down"], st, il_law_ladder_series⟩
def il_law_less : Ss := (.cons (.ret (.cmp .lt (.bin false .mul (.idx (.var 0) (.int 0)) (.idx (.var 1) (.int 1))) (.bin false .mul (.idx (.var 1) (.int 0)) (.idx (.var 0) (.int 1))))) .nil)
def d_law_less (st : Stmt) : DefI := ⟨"_law_less", ["x", "y"], ["x", "y"], st, il_law_less⟩
def il_law_level : Ss := (.cons (.set 1 (.bin false .add (.int 1) (.call "_law_draw" (.cons (.var 0) (.cons (.int 6) .nil))))) (.cons (.ret (.call "_law_f" (.cons (.bin false .sub (.call "_law_draw" (.cons (.var 0) (.cons (.bin false .add (.bin false .mul (.int 2) (.var 1)) (.int 1)) .nil))) (.var 1)) (.cons (.var 1) .nil)))) .nil))
def d_law_level (st : Stmt) : DefI := ⟨"_law_level", ["pool"], ["pool", "d"], st, il_law_level⟩
def il_law_lift : Ss := (.cons (.ret (.call "_law_div" (.cons (.call "_law_add" (.cons (.var 0) (.cons (.var 1) .nil))) (.cons (.call "_law_add" (.cons (.tup (.cons (.int 1) (.cons (.int 1) .nil))) (.cons (.call "_law_mul" (.cons (.var 0) (.cons (.var 1) .nil))) .nil))) .nil)))) .nil)
def d_law_lift (st : Stmt) : DefI := ⟨"_law_lift", ["level", "t"], ["level", "t"], st, il_law_lift⟩
def lp_law_long_0 : S := .loop .seq (.var 0) .nop .nop (.nm 2) (.cons (.set 1 (.ite (.cmp .inn (.var 2) (.str "0123456789")) (.bin false .add (.var 1) (.int 1)) (.int 0))) (.cons (.ite (.cmp .gt (.var 1) (.int 12)) (.cons (.ret (.bl true)) .nil) .nil) .nil))
def il_law_long : Ss := (.cons (.set 1 (.int 0)) (.cons lp_law_long_0 (.cons (.ret (.bl false)) .nil)))
def d_law_long (st : Stmt) : DefI := ⟨"_law_long", ["text"], ["text", "size", "sign"], st, il_law_long⟩
def lp_law_made_0 : S := .loop .r1 (.bin false .add (.var 3) (.int 1)) .nop .nop (.nm 5) (.cons (.set 4 (.call "_law_add" (.cons (.var 4) (.cons (.call "_law_mul" (.cons (.idx (.var 0) (.bin false .sub (.var 3) (.var 5))) (.cons (.idx (.var 1) (.var 5)) .nil))) .nil)))) .nil)
def lp_law_made_1 : S := .loop .r1 (.bf false .len (.cons (.var 0) .nil)) .nop .nop (.nm 3) (.cons (.set 4 (.tup (.cons (.int 0) (.cons (.int 1) .nil)))) (.cons lp_law_made_0 (.cons (.exp (.app (.var 2) (.var 4))) .nil)))
def il_law_made : Ss := (.cons (.set 2 (.lst true .nil)) (.cons lp_law_made_1 (.cons (.ret (.frz (.var 2))) .nil)))
def d_law_made (st : Stmt) : DefI := ⟨"_law_made", ["row", "other"], ["row", "other", "found", "k", "total", "j"], st, il_law_made⟩
def cp_law_minor_0 : E := .comp false .seq (.var 1) .nop .nop (.nm 4) (.bl true) (.idx (.idx (.var 0) (.var 7)) (.var 4))
def cp_law_minor_1 : E := .comp true .seq (.var 1) .nop .nop (.nm 7) (.bl true) cp_law_minor_0
def cp_law_minor_2 : E := .comp false .r2 (.var 4) (.bf false .len (.cons (.var 2) .nil)) .nop (.nm 7) (.cmp .ne (.idx (.idx (.idx (.var 2) (.var 7)) (.var 4)) (.int 0)) (.int 0)) (.var 7)
def cp_law_minor_3 : E := .comp false .r1 (.bf false .len (.cons (.var 2) .nil)) .nop .nop (.nm 9) (.bl true) (.call "_law_sub" (.cons (.idx (.idx (.var 2) (.var 6)) (.var 9)) (.cons (.call "_law_mul" (.cons (.var 8) (.cons (.idx (.idx (.var 2) (.var 4)) (.var 9)) .nil))) .nil)))
def lp_law_minor_4 : S := .loop .r2 (.bin false .add (.var 4) (.int 1)) (.bf false .len (.cons (.var 2) .nil)) .nop (.nm 6) (.cons (.set 8 (.call "_law_div" (.cons (.idx (.idx (.var 2) (.var 6)) (.var 4)) (.cons (.idx (.idx (.var 2) (.var 4)) (.var 4)) .nil)))) (.cons (.seti (.var 2) (.var 6) cp_law_minor_3) .nil))
def lp_law_minor_5 : S := .loop .r1 (.bf false .len (.cons (.var 2) .nil)) .nop .nop (.nm 4) (.cons (.set 5 cp_law_minor_2) (.cons (.ite (.cmp .eq (.var 5) (.lst false .nil)) (.cons (.ret (.tup (.cons (.int 0) (.cons (.int 1) .nil)))) .nil) .nil) (.cons (.ite (.cmp .ne (.idx (.var 5) (.int 0)) (.var 4)) (.cons (.swap (.var 2) (.var 4) (.var 2) (.idx (.var 5) (.int 0)) (.idx (.var 2) (.idx (.var 5) (.int 0))) (.idx (.var 2) (.var 4))) (.cons (.set 3 (.call "_law_sub" (.cons (.tup (.cons (.int 0) (.cons (.int 1) .nil))) (.cons (.var 3) .nil)))) .nil)) .nil) (.cons (.set 3 (.call "_law_mul" (.cons (.var 3) (.cons (.idx (.idx (.var 2) (.var 4)) (.var 4)) .nil)))) (.cons lp_law_minor_4 .nil)))))
def il_law_minor : Ss := (.cons (.set 2 cp_law_minor_1) (.cons (.set 3 (.tup (.cons (.int 1) (.cons (.int 1) .nil)))) (.cons lp_law_minor_5 (.cons (.ret (.var 3)) .nil))))
def d_law_minor (st : Stmt) : DefI := ⟨"_law_minor", ["table", "lot"], ["table", "lot", "rows", "found", "k", "at", "i", "j", "size", "m"], st, il_law_minor⟩
def il_law_mul : Ss := (.cons (.ret (.call "_law_f" (.cons (.bin false .mul (.idx (.var 0) (.int 0)) (.idx (.var 1) (.int 0))) (.cons (.bin false .mul (.idx (.var 0) (.int 1)) (.idx (.var 1) (.int 1))) .nil)))) .nil)
def d_law_mul (st : Stmt) : DefI := ⟨"_law_mul", ["x", "y"], ["x", "y"], st, il_law_mul⟩
def cp_law_never_0 : E := .comp false .seq (.var 1) .nop .nop (.nm 3) (.bl true) (.bin false .add (.var 3) (.tup (.cons (.var 2) .nil)))
def lp_law_never_1 : S := .loop .r1 (.bf false .len (.cons (.var 0) .nil)) .nop .nop (.nm 2) (.cons (.set 1 (.bin false .add (.var 1) cp_law_never_0)) .nil)
def cp_law_never_2 : E := .comp false .seq (.var 1) .nop .nop (.nm 3) (.cmp .lt (.idx (.call "_law_minor" (.cons (.var 0) (.cons (.var 3) .nil))) (.int 0)) (.int 0)) (.var 3)
def il_law_never : Ss := (.cons (.set 1 (.lst false (.cons (.tup .nil) .nil))) (.cons lp_law_never_1 (.cons (.ret (.cmp .eq (.bf false .len (.cons cp_law_never_2 .nil)) (.int 0))) .nil)))
def d_law_never (st : Stmt) : DefI := ⟨"_law_never", ["table"], ["table", "lots", "k", "lot"], st, il_law_never⟩
def il_law_odd_values : Ss := (.cons (.ret (.lst false (.cons .non (.cons (.bl true) (.cons (.bl false) (.cons (.int 0) (.cons (.int 3) (.cons (.str "") (.cons (.str "ladder") (.cons (.str "row") (.cons (.tup .nil) (.cons (.lst false .nil) (.cons (.tup (.cons (.int 1) .nil)) (.cons (.tup (.cons (.int 1) (.cons (.int 0) .nil))) (.cons (.tup (.cons (.int 2) (.cons (.int 4) .nil))) (.cons (.tup (.cons (.int 1) (.cons (.neg (.int 2)) .nil))) (.cons (.tup (.cons (.bl true) (.cons (.int 1) .nil))) (.cons (.tup (.cons (.tup (.cons (.int 0) (.cons (.int 1) .nil))) .nil)) (.cons (.tup (.cons (.str "ladder") .nil)) (.cons (.tup (.cons (.str "row") .nil)) .nil)))))))))))))))))))) .nil)
def d_law_odd_values (st : Stmt) : DefI := ⟨"_law_odd_values", [], [], st, il_law_odd_values⟩
def lp_law_on_0 : S := .loop .seq (.rev false (.idx (.var 0) (.int 0))) .nop .nop (.tp [3, 4]) (.cons (.set 2 (.call "_law_lift" (.cons (.var 4) (.cons (.call "_law_mul" (.cons (.call "_law_swing" (.cons (.var 3) (.cons (.var 1) .nil))) (.cons (.var 2) .nil))) .nil)))) .nil)
def il_law_on : Ss := (.cons (.set 2 (.idx (.var 0) (.int 1))) (.cons lp_law_on_0 (.cons (.ret (.var 2)) .nil)))
def d_law_on (st : Stmt) : DefI := ⟨"_law_on", ["ladder", "x"], ["ladder", "x", "found", "place", "level"], st, il_law_on⟩
def lp_law_pair_0 : S := .loop .seq (.rev false (.var 0)) .nop .nop (.nm 3) (.cons (.par [4, 5] (.cons (.call "_law_add" (.cons (.call "_law_sub" (.cons (.call "_law_mul" (.cons (.var 4) (.cons (.var 1) .nil))) (.cons (.call "_law_mul" (.cons (.var 5) (.cons (.var 2) .nil))) .nil))) (.cons (.var 3) .nil))) (.cons (.call "_law_add" (.cons (.call "_law_mul" (.cons (.var 4) (.cons (.var 2) .nil))) (.cons (.call "_law_mul" (.cons (.var 5) (.cons (.var 1) .nil))) .nil))) .nil))) .nil)
def il_law_pair : Ss := (.cons (.par [4, 5] (.cons (.tup (.cons (.int 0) (.cons (.int 1) .nil))) (.cons (.tup (.cons (.int 0) (.cons (.int 1) .nil))) .nil))) (.cons lp_law_pair_0 (.cons (.ret (.call "_law_add" (.cons (.call "_law_mul" (.cons (.var 4) (.cons (.var 4) .nil))) (.cons (.call "_law_mul" (.cons (.var 5) (.cons (.var 5) .nil))) .nil)))) .nil)))
def d_law_pair (st : Stmt) : DefI := ⟨"_law_pair", ["one", "x", "y"], ["one", "x", "y", "item", "re", "im"], st, il_law_pair⟩
def il_law_place : Ss := (.cons (.set 1 (.bin false .add (.int 2) (.call "_law_draw" (.cons (.var 0) (.cons (.int 6) .nil))))) (.cons (.ret (.call "_law_f" (.cons (.bin false .add (.bin false .sub (.call "_law_draw" (.cons (.var 0) (.cons (.bin false .sub (.bin false .mul (.int 2) (.var 1)) (.int 1)) .nil))) (.var 1)) (.int 1)) (.cons (.var 1) .nil)))) .nil))
def d_law_place (st : Stmt) : DefI := ⟨"_law_place", ["pool"], ["pool", "d"], st, il_law_place⟩
def lp_law_places_0 : S := .loop .r1 (.call "_law_draw" (.cons (.var 0) (.cons (.bin false .add (.var 1) (.int 1)) .nil))) .nop .nop (.nm 3) (.cons (.set 5 (.call "_law_place" (.cons (.var 0) .nil))) (.cons (.ite (.cmp .nin (.var 5) (.var 2)) (.cons (.exp (.app (.var 2) (.var 5))) .nil) .nil) .nil))
def lp_law_places_1 : S := .loop .r1 (.var 4) .nop .nop (.nm 3) (.cons (.ite (.call "_law_less" (.cons (.idx (.var 2) (.var 4)) (.cons (.idx (.var 2) (.var 3)) .nil))) (.cons (.swap (.var 2) (.var 4) (.var 2) (.var 3) (.idx (.var 2) (.var 3)) (.idx (.var 2) (.var 4))) .nil) .nil) .nil)
def lp_law_places_2 : S := .loop .r1 (.bf false .len (.cons (.var 2) .nil)) .nop .nop (.nm 4) (.cons lp_law_places_1 .nil)
def il_law_places : Ss := (.cons (.set 2 (.lst true .nil)) (.cons lp_law_places_0 (.cons lp_law_places_2 (.cons (.ret (.frz (.var 2))) .nil))))
def d_law_places (st : Stmt) : DefI := ⟨"_law_places", ["pool", "most"], ["pool", "most", "found", "k", "j", "place"], st, il_law_places⟩
def cp_law_points_0 : E := .comp false .seq (.call "_law_places" (.cons (.var 0) (.cons (.var 1) .nil))) .nop .nop (.nm 3) (.bl true) (.tup (.cons (.var 3) (.cons (.call "_law_on" (.cons (.var 2) (.cons (.var 3) .nil))) .nil)))
def cp_law_points_1 : E := .comp false .seq (.call "_law_places" (.cons (.var 0) (.cons (.var 1) .nil))) .nop .nop (.nm 3) (.bl true) (.tup (.cons (.var 3) (.cons (.call "_law_level" (.cons (.var 0) .nil)) .nil)))
def il_law_points : Ss := (.cons (.ite (.cmp .eq (.call "_law_draw" (.cons (.var 0) (.cons (.int 2) .nil))) (.int 0)) (.cons (.set 2 (.call "_law_ladder" (.cons (.var 0) (.cons (.int 3) .nil)))) (.cons (.ret (.bf false .tuple (.cons cp_law_points_0 .nil))) .nil)) .nil) (.cons (.ret (.bf false .tuple (.cons cp_law_points_1 .nil))) .nil))
def d_law_points (st : Stmt) : DefI := ⟨"_law_points", ["pool", "most"], ["pool", "most", "ladder", "place"], st, il_law_points⟩
def cp_law_poly_0 : E := .comp false .r1 (.call "_law_draw" (.cons (.var 0) (.cons (.bin false .add (.var 1) (.int 1)) .nil))) .nop .nop (.nm 2) (.bl true) (.call "_law_any" (.cons (.var 0) .nil))
def il_law_poly : Ss := (.cons (.ret (.call "_law_short" (.cons cp_law_poly_0 .nil))) .nil)
def d_law_poly (st : Stmt) : DefI := ⟨"_law_poly", ["pool", "most"], ["pool", "most", "k"], st, il_law_poly⟩
def lp_law_poly_text_0 : S := .loop .r3 (.bin false .sub (.bf false .len (.cons (.var 0) .nil)) (.int 1)) (.neg (.int 1)) (.neg (.int 1)) (.nm 2) (.cons (.ite (.cmp .ne (.idx (.idx (.var 0) (.var 2)) (.int 0)) (.int 0)) (.cons (.set 3 (.call "_law_text" (.cons (.tup (.cons (.bf false .abs (.cons (.idx (.idx (.var 0) (.var 2)) (.int 0)) .nil)) (.cons (.idx (.idx (.var 0) (.var 2)) (.int 1)) .nil))) .nil))) (.cons (.set 4 (.ite (.cmp .eq (.var 2) (.int 0)) (.str "") (.ite (.cmp .eq (.var 2) (.int 1)) (.str "x") (.bin false .add (.str "x^") (.bf false .str (.cons (.var 2) .nil)))))) (.cons (.set 5 (.ite (.cmp .eq (.var 2) (.int 0)) (.var 3) (.ite (.cmp .eq (.var 3) (.str "1")) (.var 4) (.bin false .add (.bin false .add (.var 3) (.str "*")) (.var 4))))) (.cons (.set 6 (.cmp .lt (.idx (.idx (.var 0) (.var 2)) (.int 0)) (.int 0))) (.cons (.set 1 (.bin false .add (.bin false .add (.var 1) (.ite (.cmp .eq (.var 1) (.str "")) (.ite (.var 6) (.str "-") (.str "")) (.ite (.var 6) (.str " - ") (.str " + ")))) (.var 5))) .nil))))) .nil) .nil)
def il_law_poly_text : Ss := (.cons (.set 1 (.str "")) (.cons lp_law_poly_text_0 (.cons (.ret (.ite (.cmp .eq (.var 1) (.str "")) (.str "0") (.var 1))) .nil)))
def d_law_poly_text (st : Stmt) : DefI := ⟨"_law_poly_text", ["one"], ["one", "found", "k", "size", "letter", "part", "low"], st, il_law_poly_text⟩
def lp_law_pool_0 : S := .loop .seq (.slc false (.var 0) .nop (.int 63)) .nop .nop (.nm 2) (.cons (.set 1 (.bin false .mod (.bf false .int (.cons (.bin false .add (.bin false .mul (.var 1) (.int 31)) (.var 2)) .nil)) (.int 1000003))) .nil)
def il_law_pool : Ss := (.cons (.set 1 (.int 7)) (.cons lp_law_pool_0 (.cons (.ret (.lst true (.cons (.bf false .list (.cons (.var 0) .nil)) (.cons (.int 0) (.cons (.int 0) (.cons (.int 0) (.cons (.var 1) .nil))))))) .nil)))
def d_law_pool (st : Stmt) : DefI := ⟨"_law_pool", ["script"], ["script", "salt", "cell"], st, il_law_pool⟩
def lp_law_product_0 : S := .loop .r1 (.bf false .len (.cons (.var 1) .nil)) .nop .nop (.nm 4) (.cons (.seti (.var 2) (.bin false .add (.var 3) (.var 4)) (.call "_law_add" (.cons (.idx (.var 2) (.bin false .add (.var 3) (.var 4))) (.cons (.call "_law_mul" (.cons (.idx (.var 0) (.var 3)) (.cons (.idx (.var 1) (.var 4)) .nil))) .nil)))) .nil)
def lp_law_product_1 : S := .loop .r1 (.bf false .len (.cons (.var 0) .nil)) .nop .nop (.nm 3) (.cons lp_law_product_0 .nil)
def il_law_product : Ss := (.cons (.set 2 (.bin true .mul (.lst false (.cons (.tup (.cons (.int 0) (.cons (.int 1) .nil))) .nil)) (.bin false .add (.bf false .len (.cons (.var 0) .nil)) (.bf false .len (.cons (.var 1) .nil))))) (.cons lp_law_product_1 (.cons (.ret (.call "_law_short" (.cons (.var 2) .nil))) .nil)))
def d_law_product (st : Stmt) : DefI := ⟨"_law_product", ["one", "two"], ["one", "two", "found", "j", "k"], st, il_law_product⟩
def il_law_quotient : Ss := (.cons (.set 1 (.call "_law_poly" (.cons (.var 0) (.cons (.int 2) .nil)))) (.cons (.ret (.call "quotient" (.cons (.call "_law_poly" (.cons (.var 0) (.cons (.int 2) .nil))) (.cons (.ite (.cmp .ne (.var 1) (.tup .nil)) (.var 1) (.tup (.cons (.tup (.cons (.int 1) (.cons (.int 1) .nil))) (.cons (.tup (.cons (.int 1) (.cons (.int 2) .nil))) .nil)))) .nil)))) .nil))
def d_law_quotient (st : Stmt) : DefI := ⟨"_law_quotient", ["pool"], ["pool", "below"], st, il_law_quotient⟩
def cp_law_right_begin_0 : E := .comp false .seq (.idx (.var 1) (.int 1)) .nop .nop (.nm 2) (.not (.call "_law_is_fraction" (.cons (.var 2) .nil))) (.var 2)
def il_law_right_begin : Ss := (.cons (.ite (.or (.not (.isi .tuple (.var 1))) (.or (.cmp .ne (.bf false .len (.cons (.var 1) .nil)) (.int 2)) (.not (.isi .str (.idx (.var 1) (.int 0)))))) (.cons (.ret (.bl false)) .nil) .nil) (.cons (.ite (.cmp .eq (.idx (.var 1) (.int 0)) (.str "ladder")) (.cons (.ret (.and (.call "_law_is_ladder" (.cons (.idx (.var 1) (.int 1)) .nil)) (.cmp .eq (.bf false .tuple (.cons (.call "_law_ladder_series" (.cons (.idx (.var 1) (.int 1)) (.cons (.bf false .len (.cons (.var 0) .nil)) .nil))) .nil)) (.var 0)))) .nil) .nil) (.cons (.ite (.or (.cmp .ne (.idx (.var 1) (.int 0)) (.str "row")) (.or (.not (.isi .tuple (.idx (.var 1) (.int 1)))) (.cmp .ne (.bf false .len (.cons (.idx (.var 1) (.int 1)) .nil)) (.bf false .len (.cons (.var 0) .nil))))) (.cons (.ret (.bl false)) .nil) .nil) (.cons (.ite (.cmp .gt (.bf false .len (.cons cp_law_right_begin_0 .nil)) (.int 0)) (.cons (.ret (.bl false)) .nil) .nil) (.cons (.ret (.cmp .lt (.idx (.call "_law_worth" (.cons (.call "_law_begin_table" (.cons (.var 0) .nil)) (.cons (.idx (.var 1) (.int 1)) .nil))) (.int 0)) (.int 0))) .nil)))))
def d_law_right_begin (st : Stmt) : DefI := ⟨"_law_right_begin", ["row", "value"], ["row", "value", "x"], st, il_law_right_begin⟩
def cp_law_right_round_0 : E := .comp false .seq (.idx (.var 1) (.int 1)) .nop .nop (.nm 2) (.not (.call "_law_is_fraction" (.cons (.var 2) .nil))) (.var 2)
def il_law_right_round : Ss := (.cons (.ite (.or (.not (.isi .tuple (.var 1))) (.or (.cmp .ne (.bf false .len (.cons (.var 1) .nil)) (.int 2)) (.not (.isi .str (.idx (.var 1) (.int 0)))))) (.cons (.ret (.bl false)) .nil) .nil) (.cons (.ite (.cmp .eq (.idx (.var 1) (.int 0)) (.str "ladder")) (.cons (.ret (.and (.call "_law_is_ladder" (.cons (.idx (.var 1) (.int 1)) .nil)) (.cmp .eq (.call "_law_up" (.cons (.call "_law_ladder_series" (.cons (.idx (.var 1) (.int 1)) (.cons (.bin false .sub (.bf false .len (.cons (.var 0) .nil)) (.int 1)) .nil))) .nil)) (.var 0)))) .nil) .nil) (.cons (.ite (.or (.cmp .ne (.idx (.var 1) (.int 0)) (.str "row")) (.or (.not (.isi .tuple (.idx (.var 1) (.int 1)))) (.cmp .ne (.bf false .len (.cons (.idx (.var 1) (.int 1)) .nil)) (.bf false .len (.cons (.var 0) .nil))))) (.cons (.ret (.bl false)) .nil) .nil) (.cons (.ite (.cmp .gt (.bf false .len (.cons cp_law_right_round_0 .nil)) (.int 0)) (.cons (.ret (.bl false)) .nil) .nil) (.cons (.ret (.cmp .lt (.idx (.call "_law_worth" (.cons (.call "_law_round" (.cons (.var 0) .nil)) (.cons (.idx (.var 1) (.int 1)) .nil))) (.int 0)) (.int 0))) .nil)))))
def d_law_right_round (st : Stmt) : DefI := ⟨"_law_right_round", ["row", "value"], ["row", "value", "x"], st, il_law_right_round⟩
def cp_law_right_told_0 : E := .comp false .seq (.var 0) .nop .nop (.tp [3, 4]) (.cmp .ne (.call "_law_on" (.cons (.idx (.var 1) (.int 1)) (.cons (.var 3) .nil))) (.var 4)) (.int 1)
def cp_law_right_told_1 : E := .comp false .seq (.idx (.var 1) (.int 1)) .nop .nop (.nm 2) (.not (.call "_law_is_fraction" (.cons (.var 2) .nil))) (.var 2)
def il_law_right_told : Ss := (.cons (.ite (.or (.not (.isi .tuple (.var 1))) (.or (.cmp .ne (.bf false .len (.cons (.var 1) .nil)) (.int 2)) (.not (.isi .str (.idx (.var 1) (.int 0)))))) (.cons (.ret (.bl false)) .nil) .nil) (.cons (.ite (.cmp .eq (.idx (.var 1) (.int 0)) (.str "ladder")) (.cons (.ret (.and (.call "_law_is_ladder" (.cons (.idx (.var 1) (.int 1)) .nil)) (.cmp .eq (.bf false .len (.cons cp_law_right_told_0 .nil)) (.int 0)))) .nil) .nil) (.cons (.ite (.or (.cmp .ne (.idx (.var 1) (.int 0)) (.str "row")) (.or (.not (.isi .tuple (.idx (.var 1) (.int 1)))) (.cmp .ne (.bf false .len (.cons (.idx (.var 1) (.int 1)) .nil)) (.bf false .len (.cons (.var 0) .nil))))) (.cons (.ret (.bl false)) .nil) .nil) (.cons (.ite (.cmp .gt (.bf false .len (.cons cp_law_right_told_1 .nil)) (.int 0)) (.cons (.ret (.bl false)) .nil) .nil) (.cons (.ret (.cmp .lt (.idx (.call "_law_worth" (.cons (.call "_law_table" (.cons (.var 0) .nil)) (.cons (.idx (.var 1) (.int 1)) .nil))) (.int 0)) (.int 0))) .nil)))))
def d_law_right_told (st : Stmt) : DefI := ⟨"_law_right_told", ["points", "value"], ["points", "value", "x", "place", "level"], st, il_law_right_told⟩
def cp_law_right_within_0 : E := .comp false .seq (.idx (.var 2) (.int 1)) .nop .nop (.nm 4) (.not (.call "_law_is_fraction" (.cons (.var 4) .nil))) (.var 4)
def il_law_right_within : Ss := (.cons (.ite (.not (.isi .tuple (.var 2))) (.cons (.ret (.bl false)) .nil) .nil) (.cons (.ite (.cmp .eq (.var 2) (.tup (.cons (.str "within") .nil))) (.cons (.ret (.var 1)) .nil) .nil) (.cons (.ite (.or (.cmp .ne (.bf false .len (.cons (.var 2) .nil)) (.int 2)) (.or (.cmp .ne (.idx (.var 2) (.int 0)) (.str "over")) (.or (.not (.isi .tuple (.idx (.var 2) (.int 1)))) (.cmp .ne (.bf false .len (.cons (.idx (.var 2) (.int 1)) .nil)) (.int 2))))) (.cons (.ret (.bl false)) .nil) .nil) (.cons (.ite (.cmp .gt (.bf false .len (.cons cp_law_right_within_0 .nil)) (.int 0)) (.cons (.ret (.bl false)) .nil) .nil) (.cons (.unp [4, 5] (.idx (.var 2) (.int 1))) (.cons (.ite (.not (.call "_law_less" (.cons (.call "_law_add" (.cons (.call "_law_mul" (.cons (.var 4) (.cons (.var 4) .nil))) (.cons (.call "_law_mul" (.cons (.var 5) (.cons (.var 5) .nil))) .nil))) (.cons (.tup (.cons (.int 1) (.cons (.int 1) .nil))) .nil)))) (.cons (.ret (.bl false)) .nil) .nil) (.cons (.set 3 (.call "_law_pair" (.cons (.idx (.var 0) (.int 1)) (.cons (.var 4) (.cons (.var 5) .nil))))) (.cons (.ret (.or (.cmp .eq (.var 3) (.tup (.cons (.int 0) (.cons (.int 1) .nil)))) (.call "_law_less" (.cons (.var 3) (.cons (.call "_law_pair" (.cons (.idx (.var 0) (.int 0)) (.cons (.var 4) (.cons (.var 5) .nil)))) .nil))))) .nil))))))))
def d_law_right_within (st : Stmt) : DefI := ⟨"_law_right_within", ["one", "good", "value"], ["one", "good", "value", "down", "x", "y"], st, il_law_right_within⟩
def cp_law_round_0 : E := .comp false .r1 (.var 1) .nop .nop (.nm 3) (.bl true) (.idx (.var 0) (.bf false .abs (.cons (.bin false .sub (.var 2) (.var 3)) .nil)))
def cp_law_round_1 : E := .comp false .r1 (.var 1) .nop .nop (.nm 2) (.bl true) (.bf false .tuple (.cons cp_law_round_0 .nil))
def il_law_round : Ss := (.cons (.set 1 (.bf false .len (.cons (.var 0) .nil))) (.cons (.ret (.bf false .tuple (.cons cp_law_round_1 .nil))) .nil))
def d_law_round (st : Stmt) : DefI := ⟨"_law_round", ["row"], ["row", "size", "j", "k"], st, il_law_round⟩
def cp_law_round_row_0 : E := .comp false .r1 (.bin false .sub (.var 2) (.int 1)) .nop .nop (.nm 3) (.bl true) (.call "_law_f" (.cons (.bin false .sub (.call "_law_draw" (.cons (.var 0) (.cons (.int 13) .nil))) (.int 6)) (.cons (.bin false .add (.int 6) (.call "_law_draw" (.cons (.var 0) (.cons (.int 3) .nil)))) .nil)))
def il_law_round_row : Ss := (.cons (.set 2 (.bin false .add (.int 1) (.call "_law_draw" (.cons (.var 0) (.cons (.var 1) .nil))))) (.cons (.ite (.cmp .eq (.call "_law_draw" (.cons (.var 0) (.cons (.int 2) .nil))) (.int 0)) (.cons (.ret (.call "_law_up" (.cons (.slc false (.call "_law_beginning" (.cons (.var 0) (.cons (.var 1) .nil))) .nop (.bin false .sub (.var 2) (.int 1))) .nil))) .nil) .nil) (.cons (.ret (.bin false .add (.tup (.cons (.tup (.cons (.int 1) (.cons (.int 1) .nil))) .nil)) (.bf false .tuple (.cons cp_law_round_row_0 .nil)))) .nil)))
def d_law_round_row (st : Stmt) : DefI := ⟨"_law_round_row", ["pool", "most"], ["pool", "most", "size", "k"], st, il_law_round_row⟩
def cp_law_same_0 : E := .comp false .r1 (.bf false .len (.cons (.var 1) .nil)) .nop .nop (.nm 2) (.not (.call "_law_same" (.cons (.idx (.var 0) (.var 2)) (.cons (.idx (.var 1) (.var 2)) .nil)))) (.var 2)
def il_law_same : Ss := (.cons (.ite (.or (.isi .tuple (.var 1)) (.isi .list (.var 1))) (.cons (.ite (.or (.cmp .ne (.isi .tuple (.var 1)) (.isi .tuple (.var 0))) (.cmp .ne (.isi .list (.var 1)) (.isi .list (.var 0)))) (.cons (.ret (.bl false)) .nil) .nil) (.cons (.ite (.cmp .ne (.bf false .len (.cons (.var 0) .nil)) (.bf false .len (.cons (.var 1) .nil))) (.cons (.ret (.bl false)) .nil) .nil) (.cons (.ret (.cmp .eq (.bf false .len (.cons cp_law_same_0 .nil)) (.int 0))) .nil))) .nil) (.cons (.ite (.cmp .iss (.var 1) .non) (.cons (.ret (.cmp .iss (.var 0) .non)) .nil) .nil) (.cons (.ite (.or (.isi .bool (.var 1)) (.isi .bool (.var 0))) (.cons (.ret (.and (.isi .bool (.var 1)) (.and (.isi .bool (.var 0)) (.cmp .eq (.var 0) (.var 1))))) .nil) .nil) (.cons (.ite (.isi .int (.var 1)) (.cons (.ret (.and (.isi .int (.var 0)) (.cmp .eq (.var 0) (.var 1)))) .nil) .nil) (.cons (.ret (.and (.isi .str (.var 0)) (.cmp .eq (.var 0) (.var 1)))) .nil)))))
def d_law_same (st : Stmt) : DefI := ⟨"_law_same", ["actual", "due"], ["actual", "due", "k"], st, il_law_same⟩
def cp_law_scaled_0 : E := .comp false .seq (.var 0) .nop .nop (.nm 2) (.bl true) (.call "_law_mul" (.cons (.var 2) (.cons (.var 1) .nil)))
def il_law_scaled : Ss := (.cons (.ret (.call "_law_short" (.cons cp_law_scaled_0 .nil))) .nil)
def d_law_scaled (st : Stmt) : DefI := ⟨"_law_scaled", ["one", "number"], ["one", "number", "x"], st, il_law_scaled⟩
def lp_law_series_0 : S := .loop .r2 (.int 1) (.bin false .add (.var 3) (.int 1)) .nop (.nm 5) (.cons (.ite (.cmp .lt (.var 5) (.bf false .len (.cons (.idx (.var 0) (.int 1)) .nil))) (.cons (.set 4 (.call "_law_sub" (.cons (.var 4) (.cons (.call "_law_mul" (.cons (.idx (.idx (.var 0) (.int 1)) (.var 5)) (.cons (.idx (.var 2) (.bin false .sub (.var 3) (.var 5))) .nil))) .nil)))) .nil) .nil) .nil)
def lp_law_series_1 : S := .loop .r1 (.var 1) .nop .nop (.nm 3) (.cons (.set 4 (.ite (.cmp .lt (.var 3) (.bf false .len (.cons (.idx (.var 0) (.int 0)) .nil))) (.idx (.idx (.var 0) (.int 0)) (.var 3)) (.tup (.cons (.int 0) (.cons (.int 1) .nil))))) (.cons lp_law_series_0 (.cons (.exp (.app (.var 2) (.call "_law_div" (.cons (.var 4) (.cons (.idx (.idx (.var 0) (.int 1)) (.int 0)) .nil))))) .nil)))
def il_law_series : Ss := (.cons (.set 2 (.lst true .nil)) (.cons lp_law_series_1 (.cons (.ret (.frz (.var 2))) .nil)))
def d_law_series (st : Stmt) : DefI := ⟨"_law_series", ["one", "many"], ["one", "many", "found", "k", "here", "j"], st, il_law_series⟩
def lp_law_short_0 : S := .whl (.and (.cmp .ne (.var 0) (.lst false .nil)) (.cmp .eq (.idx (.idx (.var 0) (.neg (.int 1))) (.int 0)) (.int 0))) (.cons (.exp (.pop (.var 0))) .nil)
def il_law_short : Ss := (.cons (.set 0 (.bf true .list (.cons (.var 0) .nil))) (.cons lp_law_short_0 (.cons (.ret (.bf false .tuple (.cons (.var 0) .nil))) .nil)))
def d_law_short (st : Stmt) : DefI := ⟨"_law_short", ["row"], ["row"], st, il_law_short⟩
def il_law_slope : Ss := (.cons (.set 1 (.call "poly_minus" (.cons (.call "poly_times" (.cons (.call "slope" (.cons (.idx (.var 0) (.int 0)) .nil)) (.cons (.idx (.var 0) (.int 1)) .nil))) (.cons (.call "poly_times" (.cons (.idx (.var 0) (.int 0)) (.cons (.call "slope" (.cons (.idx (.var 0) (.int 1)) .nil)) .nil))) .nil)))) (.cons (.ret (.call "quotient" (.cons (.var 1) (.cons (.call "poly_times" (.cons (.idx (.var 0) (.int 1)) (.cons (.idx (.var 0) (.int 1)) .nil))) .nil)))) .nil))
def d_law_slope (st : Stmt) : DefI := ⟨"_law_slope", ["one"], ["one", "above"], st, il_law_slope⟩
def lp_law_sorted_0 : S := .loop .seq (.var 0) .nop .nop (.tp [2, 3]) (.cons (.set 1 (.call "_law_with" (.cons (.var 1) (.cons (.var 2) (.cons (.var 3) .nil))))) .nil)
def il_law_sorted : Ss := (.cons (.set 1 (.tup .nil)) (.cons lp_law_sorted_0 (.cons (.ret (.var 1)) .nil)))
def d_law_sorted (st : Stmt) : DefI := ⟨"_law_sorted", ["rows"], ["rows", "found", "place", "level"], st, il_law_sorted⟩
def lp_law_spread_0 : S := .loop .r1 (.int 4) .nop .nop (.nm 3) (.cons (.set 1 (.bin false .mod (.bf false .int (.cons (.bin false .add (.bin false .add (.bin false .mul (.var 1) (.int 48271)) (.int 12345)) (.var 3)) .nil)) (.int 2147483647))) (.cons (.set 2 (.bin false .add (.bin false .mul (.var 2) (.int 2147483647)) (.var 1))) .nil))
def il_law_spread : Ss := (.cons (.set 1 (.bin false .mod (.bf false .int (.cons (.var 0) .nil)) (.int 2147483647))) (.cons (.set 2 (.int 1)) (.cons lp_law_spread_0 (.cons (.ret (.var 2)) .nil))))
def d_law_spread (st : Stmt) : DefI := ⟨"_law_spread", ["cell"], ["cell", "blended", "whole_sum", "k"], st, il_law_spread⟩
def il_law_stretch : Ss := (.cons (.ite (.cmp .inn (.idx (.var 0) (.int 1)) (.tup (.cons (.tup (.cons (.int 1) (.cons (.int 1) .nil))) (.cons (.tup (.cons (.neg (.int 1)) (.cons (.int 1) .nil))) .nil)))) (.cons (.set 2 (.call "_law_on" (.cons (.var 0) (.cons (.var 1) .nil)))) (.cons (.ret (.tup (.cons (.var 2) (.cons (.var 2) .nil)))) .nil)) .nil) (.cons (.par [3, 4] (.cons (.call "_law_on" (.cons (.tup (.cons (.idx (.var 0) (.int 0)) (.cons (.tup (.cons (.neg (.int 1)) (.cons (.int 1) .nil))) .nil))) (.cons (.var 1) .nil))) (.cons (.call "_law_on" (.cons (.tup (.cons (.idx (.var 0) (.int 0)) (.cons (.tup (.cons (.int 1) (.cons (.int 1) .nil))) .nil))) (.cons (.var 1) .nil))) .nil))) (.cons (.ret (.ite (.call "_law_less" (.cons (.var 4) (.cons (.var 3) .nil))) (.tup (.cons (.var 4) (.cons (.var 3) .nil))) (.tup (.cons (.var 3) (.cons (.var 4) .nil))))) .nil)))
def d_law_stretch (st : Stmt) : DefI := ⟨"_law_stretch", ["found", "place"], ["found", "place", "level", "low", "high"], st, il_law_stretch⟩
def il_law_sub : Ss := (.cons (.ret (.call "_law_f" (.cons (.bin false .sub (.bin false .mul (.idx (.var 0) (.int 0)) (.idx (.var 1) (.int 1))) (.bin false .mul (.idx (.var 1) (.int 0)) (.idx (.var 0) (.int 1)))) (.cons (.bin false .mul (.idx (.var 0) (.int 1)) (.idx (.var 1) (.int 1))) .nil)))) .nil)
def d_law_sub (st : Stmt) : DefI := ⟨"_law_sub", ["x", "y"], ["x", "y"], st, il_law_sub⟩
def cp_law_sum_0 : E := .comp false .r1 (.var 2) .nop .nop (.nm 5) (.bl true) (.call "_law_add" (.cons (.idx (.var 3) (.var 5)) (.cons (.idx (.var 4) (.var 5)) .nil)))
def il_law_sum : Ss := (.cons (.set 2 (.bf false .max (.cons (.bf false .len (.cons (.var 0) .nil)) (.cons (.bf false .len (.cons (.var 1) .nil)) .nil)))) (.cons (.par [3, 4] (.cons (.bin false .add (.bf false .list (.cons (.var 0) .nil)) (.bin false .mul (.lst false (.cons (.tup (.cons (.int 0) (.cons (.int 1) .nil))) .nil)) (.bin false .sub (.var 2) (.bf false .len (.cons (.var 0) .nil))))) (.cons (.bin false .add (.bf false .list (.cons (.var 1) .nil)) (.bin false .mul (.lst false (.cons (.tup (.cons (.int 0) (.cons (.int 1) .nil))) .nil)) (.bin false .sub (.var 2) (.bf false .len (.cons (.var 1) .nil))))) .nil))) (.cons (.ret (.call "_law_short" (.cons cp_law_sum_0 .nil))) .nil)))
def d_law_sum (st : Stmt) : DefI := ⟨"_law_sum", ["one", "two"], ["one", "two", "size", "left", "right", "k"], st, il_law_sum⟩
def il_law_swing : Ss := (.cons (.ret (.call "_law_div" (.cons (.call "_law_sub" (.cons (.var 1) (.cons (.var 0) .nil))) (.cons (.call "_law_sub" (.cons (.tup (.cons (.int 1) (.cons (.int 1) .nil))) (.cons (.call "_law_mul" (.cons (.var 0) (.cons (.var 1) .nil))) .nil))) .nil)))) .nil)
def d_law_swing (st : Stmt) : DefI := ⟨"_law_swing", ["place", "x"], ["place", "x"], st, il_law_swing⟩
def lp_law_table_0 : S := .loop .seq (.var 0) .nop .nop (.tp [5, 6]) (.cons (.exp (.app (.var 4) (.call "_law_div" (.cons (.call "_law_sub" (.cons (.tup (.cons (.int 1) (.cons (.int 1) .nil))) (.cons (.call "_law_mul" (.cons (.var 3) (.cons (.var 6) .nil))) .nil))) (.cons (.call "_law_sub" (.cons (.tup (.cons (.int 1) (.cons (.int 1) .nil))) (.cons (.call "_law_mul" (.cons (.var 2) (.cons (.var 5) .nil))) .nil))) .nil))))) .nil)
def lp_law_table_1 : S := .loop .seq (.var 0) .nop .nop (.tp [2, 3]) (.cons (.set 4 (.lst true .nil)) (.cons lp_law_table_0 (.cons (.exp (.app (.var 1) (.bf false .tuple (.cons (.var 4) .nil)))) .nil)))
def il_law_table : Ss := (.cons (.set 1 (.lst true .nil)) (.cons lp_law_table_1 (.cons (.ret (.bf false .tuple (.cons (.var 1) .nil))) .nil)))
def d_law_table (st : Stmt) : DefI := ⟨"_law_table", ["rows"], ["rows", "found", "place", "value", "line", "other", "level"], st, il_law_table⟩
def il_law_text : Ss := (.cons (.ret (.ite (.cmp .eq (.idx (.var 0) (.int 1)) (.int 1)) (.bf false .str (.cons (.idx (.var 0) (.int 0)) .nil)) (.bin false .add (.bin false .add (.bf false .str (.cons (.idx (.var 0) (.int 0)) .nil)) (.str "/")) (.bf false .str (.cons (.idx (.var 0) (.int 1)) .nil))))) .nil)
def d_law_text (st : Stmt) : DefI := ⟨"_law_text", ["x"], ["x"], st, il_law_text⟩
def lp_law_up_0 : S := .loop .r1 (.bin false .add (.var 2) (.int 1)) .nop .nop (.nm 4) (.cons (.set 3 (.call "_law_add" (.cons (.var 3) (.cons (.call "_law_mul" (.cons (.idx (.var 1) (.var 4)) (.cons (.idx (.var 0) (.bin false .sub (.var 2) (.var 4))) .nil))) .nil)))) .nil)
def lp_law_up_1 : S := .loop .r1 (.bf false .len (.cons (.var 0) .nil)) .nop .nop (.nm 2) (.cons (.set 3 (.tup (.cons (.int 0) (.cons (.int 1) .nil)))) (.cons lp_law_up_0 (.cons (.exp (.app (.var 1) (.var 3))) .nil)))
def il_law_up : Ss := (.cons (.set 1 (.lst true (.cons (.tup (.cons (.int 1) (.cons (.int 1) .nil))) .nil))) (.cons lp_law_up_1 (.cons (.ret (.bf false .tuple (.cons (.var 1) .nil))) .nil)))
def d_law_up (st : Stmt) : DefI := ⟨"_law_up", ["row"], ["row", "found", "k", "here", "j"], st, il_law_up⟩
def cp_law_walked_0 : E := .comp false .seq (.var 3) .nop .nop (.tp [7, 6]) (.cmp .eq (.var 7) (.var 2)) (.var 6)
def cp_law_walked_1 : E := .comp false .seq (.var 3) .nop .nop (.tp [7, 8]) (.cmp .ne (.var 8) (.var 6)) (.int 1)
def lp_law_walked_2 : S := .loop .seq (.var 1) .nop .nop (.nm 2) (.cons (.set 5 cp_law_walked_0) (.cons (.set 6 (.idx (.var 5) (.int 0))) (.cons (.ite (.cmp .eq (.bf false .abs (.cons (.idx (.var 6) (.int 0)) .nil)) (.idx (.var 6) (.int 1))) (.cons (.ret (.ite (.cmp .eq (.bf false .len (.cons cp_law_walked_1 .nil)) (.int 0)) (.tup (.cons (.bf false .tuple (.cons (.var 4) .nil)) (.cons (.var 6) .nil))) .non)) .nil) .nil) (.cons (.exp (.app (.var 4) (.tup (.cons (.var 2) (.cons (.var 6) .nil))))) (.cons (.set 3 (.call "stepped" (.cons (.var 3) (.cons (.var 2) (.cons (.var 6) .nil))))) (.cons (.ite (.cmp .iss (.var 3) .non) (.cons (.ret .non) .nil) .nil) .nil))))))
def il_law_walked : Ss := (.cons (.par [3, 4] (.cons (.var 0) (.cons (.lst true .nil) .nil))) (.cons lp_law_walked_2 (.cons (.ret (.tup (.cons (.bf false .tuple (.cons (.var 4) .nil)) (.cons (.tup (.cons (.int 0) (.cons (.int 1) .nil))) .nil)))) .nil)))
def d_law_walked (st : Stmt) : DefI := ⟨"_law_walked", ["points", "order"], ["points", "order", "place", "left", "steps", "row", "level", "other", "value"], st, il_law_walked⟩
def cp_law_with_0 : E := .comp false .seq (.var 0) .nop .nop (.nm 4) (.call "_law_less" (.cons (.idx (.var 4) (.int 0)) (.cons (.var 1) .nil))) (.var 4)
def cp_law_with_1 : E := .comp false .seq (.var 0) .nop .nop (.nm 4) (.call "_law_less" (.cons (.var 1) (.cons (.idx (.var 4) (.int 0)) .nil))) (.var 4)
def il_law_with : Ss := (.cons (.set 3 cp_law_with_0) (.cons (.ret (.bf false .tuple (.cons (.bin false .add (.bin false .add (.var 3) (.lst false (.cons (.tup (.cons (.var 1) (.cons (.var 2) .nil))) .nil))) cp_law_with_1) .nil))) .nil))
def d_law_with (st : Stmt) : DefI := ⟨"_law_with", ["points", "place", "level"], ["points", "place", "level", "low", "row"], st, il_law_with⟩
def lp_law_worth_0 : S := .loop .r1 (.bf false .len (.cons (.var 1) .nil)) .nop .nop (.nm 4) (.cons (.set 2 (.call "_law_add" (.cons (.var 2) (.cons (.call "_law_mul" (.cons (.call "_law_mul" (.cons (.idx (.var 1) (.var 3)) (.cons (.idx (.var 1) (.var 4)) .nil))) (.cons (.idx (.idx (.var 0) (.var 3)) (.var 4)) .nil))) .nil)))) .nil)
def lp_law_worth_1 : S := .loop .r1 (.bf false .len (.cons (.var 1) .nil)) .nop .nop (.nm 3) (.cons lp_law_worth_0 .nil)
def il_law_worth : Ss := (.cons (.set 2 (.tup (.cons (.int 0) (.cons (.int 1) .nil)))) (.cons lp_law_worth_1 (.cons (.ret (.var 2)) .nil)))
def d_law_worth (st : Stmt) : DefI := ⟨"_law_worth", ["table", "row"], ["table", "row", "total", "j", "k"], st, il_law_worth⟩
def lp_wall_0 : S := .whl (.bl true) (.cons .pass .nil)
def il_wall : Ss := (.cons lp_wall_0 .nil)
def d_wall (st : Stmt) : DefI := ⟨"_wall", ["k"], ["k"], st, il_wall⟩
def cp_all_outside_0 : E := .comp false .r1 (.bin false .sub (.var 1) (.int 1)) .nop .nop (.nm 4) (.bl true) (.call "minus" (.cons (.call "times" (.cons (.var 2) (.cons (.idx (.var 0) (.var 4)) .nil))) (.cons (.call "times" (.cons (.var 3) (.cons (.idx (.var 0) (.bin false .sub (.bin false .sub (.var 1) (.int 1)) (.var 4))) .nil))) .nil)))
def lp_all_outside_1 : S := .whl (.cmp .gt (.bf false .len (.cons (.var 0) .nil)) (.int 1)) (.cons (.par [2, 3] (.cons (.idx (.var 0) (.int 0)) (.cons (.idx (.var 0) (.neg (.int 1))) .nil))) (.cons (.ite (.not (.call "less" (.cons (.call "times" (.cons (.var 3) (.cons (.var 3) .nil))) (.cons (.call "times" (.cons (.var 2) (.cons (.var 2) .nil))) .nil)))) (.cons (.ret (.bl false)) .nil) .nil) (.cons (.set 1 (.bf false .len (.cons (.var 0) .nil))) (.cons (.set 0 (.call "trimmed" (.cons cp_all_outside_0 .nil))) .nil))))
def il_all_outside : Ss := (.cons lp_all_outside_1 (.cons (.ret (.bl true)) .nil))
def d_all_outside (st : Stmt) : DefI := ⟨"all_outside", ["one"], ["one", "size", "first", "last", "k"], st, il_all_outside⟩
def il_apart : Ss := (.cons (.set 2 (.call "turn" (.cons (.var 0) (.cons (.var 1) .nil)))) (.cons (.ret (.tup (.cons (.bf false .abs (.cons (.idx (.var 2) (.int 0)) .nil)) (.cons (.idx (.var 2) (.int 1)) .nil)))) .nil))
def d_apart (st : Stmt) : DefI := ⟨"apart", ["one", "two"], ["one", "two", "found"], st, il_apart⟩
def cp_bar_of_0 : E := .comp false .r3 (.bin false .sub (.var 1) (.int 1)) (.neg (.int 1)) (.neg (.int 1)) (.nm 5) (.bl true) (.call "over" (.cons (.tup (.cons (.var 5) (.cons (.int 1) .nil))) (.cons (.tup (.cons (.var 1) (.cons (.int 1) .nil))) .nil)))
def lp_bar_of_1 : S := .loop .seq (.tup (.cons (.int 1) (.cons (.neg (.int 1)) .nil))) .nop .nop (.nm 6) (.cons (.unp [7, 8] (.call "round_point" (.cons (.call "over" (.cons (.tup (.cons (.var 5) (.cons (.int 1) .nil))) (.cons (.tup (.cons (.var 1) (.cons (.int 1) .nil))) .nil))) (.cons (.call "times" (.cons (.tup (.cons (.var 6) (.cons (.int 1) .nil))) (.cons (.var 4) .nil))) .nil)))) (.cons (.ite (.call "is_over" (.cons (.var 0) (.cons (.var 7) (.cons (.var 8) .nil)))) (.cons (.ret (.tup (.cons (.var 7) (.cons (.var 8) .nil)))) .nil) .nil) .nil))
def lp_bar_of_2 : S := .loop .r1 (.bin false .add (.var 1) (.int 1)) .nop .nop (.nm 5) (.cons lp_bar_of_1 .nil)
def lp_bar_of_3 : S := .loop .seq (.var 3) .nop .nop (.nm 4) (.cons lp_bar_of_2 .nil)
def lp_bar_of_4 : S := .whl (.bl true) (.cons (.set 2 (.call "minus" (.cons (.glo "ONE") (.cons (.call "over" (.cons (.glo "ONE") (.cons (.tup (.cons (.bin false .mul (.bin false .mul (.var 1) (.var 1)) (.var 1)) (.cons (.int 1) .nil))) .nil))) .nil)))) (.cons (.set 3 (.bin false .add (.lst false (.cons (.var 2) .nil)) cp_bar_of_0)) (.cons lp_bar_of_3 (.cons (.set 1 (.bin false .mul (.int 2) (.var 1))) .nil))))
def il_bar_of : Ss := (.cons (.set 1 (.int 2)) (.cons lp_bar_of_4 .nil))
def d_bar_of (st : Stmt) : DefI := ⟨"bar_of", ["one"], ["one", "fine", "near", "parts", "part", "k", "sign", "x", "y"], st, il_bar_of⟩
def cp_begin_ladder_0 : E := .comp false .seq (.slc false (.var 2) (.int 1) .nop) .nop .nop (.nm 3) (.bl true) (.cmp .eq (.var 3) (.glo "ZERO"))
def lp_begin_ladder_1 : S := .whl (.cmp .gt (.bf false .len (.cons (.var 2) .nil)) (.int 0)) (.cons (.ite (.not (.call "is_level" (.cons (.idx (.var 2) (.int 0)) .nil))) (.cons (.ret .non) .nil) .nil) (.cons (.ite (.cmp .inn (.idx (.var 2) (.int 0)) (.tup (.cons (.glo "ONE") (.cons (.tup (.cons (.neg (.int 1)) (.cons (.int 1) .nil))) .nil)))) (.cons (.ret (.ite (.bf false .all (.cons cp_begin_ladder_0 .nil)) (.tup (.cons (.bf false .tuple (.cons (.var 1) .nil)) (.cons (.idx (.var 2) (.int 0)) .nil))) .non)) .nil) .nil) (.cons (.exp (.app (.var 1) (.tup (.cons (.glo "ZERO") (.cons (.idx (.var 2) (.int 0)) .nil))))) (.cons (.set 2 (.call "stepped_row" (.cons (.var 2) .nil))) .nil))))
def il_begin_ladder : Ss := (.cons (.set 1 (.lst true .nil)) (.cons (.set 2 (.var 0)) (.cons lp_begin_ladder_1 (.cons (.ret (.tup (.cons (.bf false .tuple (.cons (.var 1) .nil)) (.cons (.glo "ZERO") .nil)))) .nil))))
def d_begin_ladder (st : Stmt) : DefI := ⟨"begin_ladder", ["row"], ["row", "steps", "left", "item"], st, il_begin_ladder⟩
def il_begin_paper : Ss := (.cons (.set 1 (.call "begin_ladder" (.cons (.var 0) .nil))) (.cons (.ret (.ite (.cmp .isn (.var 1) .non) (.tup (.cons (.str "ladder") (.cons (.var 1) .nil))) (.tup (.cons (.str "row") (.cons (.call "negative_row" (.cons (.call "begin_table" (.cons (.var 0) .nil)) .nil)) .nil))))) .nil))
def d_begin_paper (st : Stmt) : DefI := ⟨"begin_paper", ["row"], ["row", "found"], st, il_begin_paper⟩
def lp_begin_table_0 : S := .loop .r2 (.bf false .max (.cons (.var 3) (.cons (.var 5) .nil))) (.var 1) .nop (.nm 7) (.cons (.set 6 (.call "minus" (.cons (.var 6) (.cons (.call "times" (.cons (.idx (.var 0) (.bin false .sub (.var 7) (.var 3))) (.cons (.idx (.var 0) (.bin false .sub (.var 7) (.var 5))) .nil))) .nil)))) .nil)
def lp_begin_table_1 : S := .loop .r1 (.var 1) .nop .nop (.nm 5) (.cons (.set 6 (.ite (.cmp .eq (.var 3) (.var 5)) (.glo "ONE") (.glo "ZERO"))) (.cons lp_begin_table_0 (.cons (.exp (.app (.var 4) (.var 6))) .nil)))
def lp_begin_table_2 : S := .loop .r1 (.var 1) .nop .nop (.nm 3) (.cons (.set 4 (.lst true .nil)) (.cons lp_begin_table_1 (.cons (.exp (.app (.var 2) (.bf false .tuple (.cons (.var 4) .nil)))) .nil)))
def il_begin_table : Ss := (.cons (.set 1 (.bf false .len (.cons (.var 0) .nil))) (.cons (.set 2 (.lst true .nil)) (.cons lp_begin_table_2 (.cons (.ret (.bf false .tuple (.cons (.var 2) .nil))) .nil))))
def d_begin_table (st : Stmt) : DefI := ⟨"begin_table", ["row"], ["row", "size", "found", "j", "line", "k", "total", "i"], st, il_begin_table⟩
def lp_begin_worth_0 : S := .loop .r1 (.bin false .add (.var 3) (.int 1)) .nop .nop (.nm 5) (.cons (.set 4 (.call "plus" (.cons (.var 4) (.cons (.call "times" (.cons (.idx (.var 0) (.bin false .sub (.var 3) (.var 5))) (.cons (.idx (.var 1) (.var 5)) .nil))) .nil)))) .nil)
def lp_begin_worth_1 : S := .loop .r1 (.bf false .len (.cons (.var 0) .nil)) .nop .nop (.nm 3) (.cons (.set 2 (.call "plus" (.cons (.var 2) (.cons (.call "times" (.cons (.idx (.var 1) (.var 3)) (.cons (.idx (.var 1) (.var 3)) .nil))) .nil)))) (.cons (.set 4 (.glo "ZERO")) (.cons lp_begin_worth_0 (.cons (.set 2 (.call "minus" (.cons (.var 2) (.cons (.call "times" (.cons (.var 4) (.cons (.var 4) .nil))) .nil)))) .nil))))
def il_begin_worth : Ss := (.cons (.set 2 (.glo "ZERO")) (.cons lp_begin_worth_1 (.cons (.ret (.var 2)) .nil)))
def d_begin_worth (st : Stmt) : DefI := ⟨"begin_worth", ["row", "other"], ["row", "other", "total", "k", "made", "j"], st, il_begin_worth⟩
def lp_begins_0 : S := .loop .r2 (.int 1) (.bin false .add (.var 3) (.int 1)) .nop (.nm 5) (.cons (.set 4 (.call "minus" (.cons (.var 4) (.cons (.call "times" (.cons (.call "coefficient" (.cons (.idx (.var 0) (.int 1)) (.cons (.var 5) .nil))) (.cons (.idx (.var 2) (.bin false .sub (.var 3) (.var 5))) .nil))) .nil)))) .nil)
def lp_begins_1 : S := .loop .r1 (.var 1) .nop .nop (.nm 3) (.cons (.set 4 (.call "coefficient" (.cons (.idx (.var 0) (.int 0)) (.cons (.var 3) .nil)))) (.cons lp_begins_0 (.cons (.exp (.app (.var 2) (.call "over" (.cons (.var 4) (.cons (.idx (.idx (.var 0) (.int 1)) (.int 0)) .nil))))) .nil)))
def il_begins : Ss := (.cons (.ite (.cmp .eq (.call "coefficient" (.cons (.idx (.var 0) (.int 1)) (.cons (.int 0) .nil))) (.glo "ZERO")) (.cons (.raise "NoQuotient") .nil) .nil) (.cons (.set 2 (.lst true .nil)) (.cons lp_begins_1 (.cons (.ret (.frz (.var 2))) .nil))))
def d_begins (st : Stmt) : DefI := ⟨"begins", ["one", "many"], ["one", "many", "found", "k", "here", "j"], st, il_begins⟩
def cp_best_row_0 : E := .comp false .seq (.idx (.var 1) (.int 0)) .nop .nop (.tp [7, 5]) (.bl true) (.var 5)
def cp_best_row_1 : E := .comp false .zip (.bin false .add (.tup (.cons (.glo "ZERO") .nil)) (.var 3)) (.var 6) .nop (.tp [8, 9]) (.bl true) (.call "minus" (.cons (.var 8) (.cons (.call "times" (.cons (.var 5) (.cons (.var 9) .nil))) .nil)))
def lp_best_row_2 : S := .loop .r1 (.bin false .sub (.bf false .len (.cons (.var 0) .nil)) (.int 1)) .nop .nop (.nm 4) (.cons (.set 5 (.ite (.cmp .lt (.var 4) (.bf false .len (.cons (.var 2) .nil))) (.idx (.var 2) (.var 4)) (.glo "ZERO"))) (.cons (.set 6 (.bin false .add (.rev false (.var 3)) (.tup (.cons (.glo "ZERO") .nil)))) (.cons (.set 3 (.bf false .tuple (.cons cp_best_row_1 .nil))) .nil)))
def il_best_row : Ss := (.cons (.set 1 (.call "round_ladder" (.cons (.var 0) .nil))) (.cons (.ite (.cmp .iss (.var 1) .non) (.cons (.raise "CannotBe") .nil) .nil) (.cons (.set 2 (.bin false .add cp_best_row_0 (.lst false (.cons (.idx (.var 1) (.int 1)) .nil)))) (.cons (.set 3 (.tup (.cons (.glo "ONE") .nil))) (.cons lp_best_row_2 (.cons (.ret (.var 3)) .nil))))))
def d_best_row (st : Stmt) : DefI := ⟨"best_row", ["row"], ["row", "found", "levels", "best", "k", "level", "turned", "_", "a", "b"], st, il_best_row⟩
def lp_by_sums_0 : S := .whl (.cmp .lt (.bf false .len (.cons (.var 1) .nil)) (.bf false .len (.cons (.var 0) .nil))) (.cons (.exp (.app (.var 1) (.call "poly_minus" (.cons (.call "poly_times" (.cons (.tup (.cons (.glo "ZERO") (.cons (.glo "ONE") .nil))) (.cons (.idx (.var 1) (.neg (.int 1))) .nil))) (.cons (.idx (.var 1) (.neg (.int 2))) .nil))))) .nil)
def lp_by_sums_1 : S := .loop .r2 (.int 1) (.bf false .len (.cons (.var 0) .nil)) .nop (.nm 3) (.cons (.set 2 (.call "poly_plus" (.cons (.var 2) (.cons (.call "poly_scaled" (.cons (.idx (.var 1) (.var 3)) (.cons (.idx (.var 0) (.var 3)) .nil))) .nil)))) .nil)
def il_by_sums : Ss := (.cons (.set 1 (.lst true (.cons (.tup (.cons (.tup (.cons (.int 2) (.cons (.int 1) .nil))) .nil)) (.cons (.tup (.cons (.glo "ZERO") (.cons (.glo "ONE") .nil))) .nil)))) (.cons lp_by_sums_0 (.cons (.set 2 (.ite (.cmp .ne (.idx (.var 0) (.int 0)) (.glo "ZERO")) (.tup (.cons (.idx (.var 0) (.int 0)) .nil)) (.tup .nil))) (.cons lp_by_sums_1 (.cons (.ret (.var 2)) .nil)))))
def d_by_sums (st : Stmt) : DefI := ⟨"by_sums", ["row"], ["row", "powers", "found", "k"], st, il_by_sums⟩
def il_can_be_told : Ss := (.cons (.ret (.cmp .isn (.call "ladder_of" (.cons (.var 0) .nil)) .non)) .nil)
def d_can_be_told (st : Stmt) : DefI := ⟨"can_be_told", ["points"], ["points"], st, il_can_be_told⟩
def cp_changes_0 : E := .comp false .seq (.var 0) .nop .nop (.nm 3) (.bl true) (.call "sign_at" (.cons (.var 3) (.cons (.var 1) .nil)))
def cp_changes_1 : E := .comp false .seq (.var 2) .nop .nop (.nm 4) (.cmp .ne (.var 4) (.int 0)) (.var 4)
def cp_changes_2 : E := .comp false .r2 (.int 1) (.bf false .len (.cons (.var 2) .nil)) .nop (.nm 5) (.cmp .ne (.idx (.var 2) (.var 5)) (.idx (.var 2) (.bin false .sub (.var 5) (.int 1)))) (.int 1)
def il_changes : Ss := (.cons (.set 2 cp_changes_0) (.cons (.set 2 cp_changes_1) (.cons (.ret (.bf false .len (.cons cp_changes_2 .nil))) .nil)))
def d_changes (st : Stmt) : DefI := ⟨"changes", ["rows", "x"], ["rows", "x", "signs", "row", "sign", "k"], st, il_changes⟩
def il_check_begin : Ss := (.cons (.ite (.or (.not (.isi .tuple (.var 1))) (.or (.cmp .ne (.bf false .len (.cons (.var 1) .nil)) (.int 2)) (.not (.isi .str (.idx (.var 1) (.int 0)))))) (.cons (.ret (.bl false)) .nil) .nil) (.cons (.ite (.cmp .eq (.idx (.var 1) (.int 0)) (.str "ladder")) (.cons (.ret (.and (.call "is_ladder" (.cons (.idx (.var 1) (.int 1)) .nil)) (.cmp .eq (.call "begins" (.cons (.call "quotient_of" (.cons (.idx (.var 1) (.int 1)) .nil)) (.cons (.bf false .len (.cons (.var 0) .nil)) .nil))) (.bf false .list (.cons (.var 0) .nil))))) .nil) .nil) (.cons (.ret (.and (.cmp .eq (.idx (.var 1) (.int 0)) (.str "row")) (.and (.call "is_row" (.cons (.idx (.var 1) (.int 1)) (.cons (.bf false .len (.cons (.var 0) .nil)) .nil))) (.cmp .lt (.idx (.call "begin_worth" (.cons (.var 0) (.cons (.idx (.var 1) (.int 1)) .nil))) (.int 0)) (.int 0))))) .nil)))
def d_check_begin (st : Stmt) : DefI := ⟨"check_begin", ["row", "value"], ["row", "value"], st, il_check_begin⟩
def il_check_round : Ss := (.cons (.ite (.or (.not (.isi .tuple (.var 1))) (.or (.cmp .ne (.bf false .len (.cons (.var 1) .nil)) (.int 2)) (.not (.isi .str (.idx (.var 1) (.int 0)))))) (.cons (.ret (.bl false)) .nil) .nil) (.cons (.ite (.cmp .eq (.idx (.var 1) (.int 0)) (.str "ladder")) (.cons (.ret (.and (.call "is_ladder" (.cons (.idx (.var 1) (.int 1)) .nil)) (.cmp .eq (.call "round_of" (.cons (.idx (.var 1) (.int 1)) (.cons (.bf false .len (.cons (.var 0) .nil)) .nil))) (.var 0)))) .nil) .nil) (.cons (.ret (.and (.cmp .eq (.idx (.var 1) (.int 0)) (.str "row")) (.and (.call "is_row" (.cons (.idx (.var 1) (.int 1)) (.cons (.bf false .len (.cons (.var 0) .nil)) .nil))) (.cmp .lt (.idx (.call "worth" (.cons (.call "round_table" (.cons (.var 0) .nil)) (.cons (.idx (.var 1) (.int 1)) .nil))) (.int 0)) (.int 0))))) .nil)))
def d_check_round (st : Stmt) : DefI := ⟨"check_round", ["row", "value"], ["row", "value"], st, il_check_round⟩
def cp_check_told_0 : E := .comp false .seq (.var 0) .nop .nop (.tp [2, 3]) (.bl true) (.cmp .eq (.call "value_on" (.cons (.idx (.var 1) (.int 1)) (.cons (.var 2) .nil))) (.var 3))
def il_check_told : Ss := (.cons (.ite (.or (.not (.isi .tuple (.var 1))) (.or (.cmp .ne (.bf false .len (.cons (.var 1) .nil)) (.int 2)) (.not (.isi .str (.idx (.var 1) (.int 0)))))) (.cons (.ret (.bl false)) .nil) .nil) (.cons (.ite (.cmp .eq (.idx (.var 1) (.int 0)) (.str "ladder")) (.cons (.ret (.and (.call "is_ladder" (.cons (.idx (.var 1) (.int 1)) .nil)) (.bf false .all (.cons cp_check_told_0 .nil)))) .nil) .nil) (.cons (.ret (.and (.cmp .eq (.idx (.var 1) (.int 0)) (.str "row")) (.and (.call "is_row" (.cons (.idx (.var 1) (.int 1)) (.cons (.bf false .len (.cons (.var 0) .nil)) .nil))) (.cmp .lt (.idx (.call "worth" (.cons (.call "table_of" (.cons (.var 0) .nil)) (.cons (.idx (.var 1) (.int 1)) .nil))) (.int 0)) (.int 0))))) .nil)))
def d_check_told (st : Stmt) : DefI := ⟨"check_told", ["points", "value"], ["points", "value", "place", "level"], st, il_check_told⟩
def il_check_within : Ss := (.cons (.ite (.cmp .eq (.var 1) (.tup (.cons (.str "within") .nil))) (.cons (.ret (.call "is_within" (.cons (.var 0) .nil))) .nil) .nil) (.cons (.ite (.or (.not (.isi .tuple (.var 1))) (.or (.cmp .ne (.bf false .len (.cons (.var 1) .nil)) (.int 2)) (.or (.cmp .ne (.idx (.var 1) (.int 0)) (.str "over")) (.not (.call "is_row" (.cons (.idx (.var 1) (.int 1)) (.cons (.int 2) .nil))))))) (.cons (.ret (.bl false)) .nil) .nil) (.cons (.unp [2, 3] (.idx (.var 1) (.int 1))) (.cons (.ret (.and (.call "less" (.cons (.call "square_size" (.cons (.tup (.cons (.var 2) (.cons (.var 3) .nil))) .nil)) (.cons (.glo "ONE") .nil))) (.call "is_over" (.cons (.var 0) (.cons (.var 2) (.cons (.var 3) .nil)))))) .nil))))
def d_check_within (st : Stmt) : DefI := ⟨"check_within", ["one", "value"], ["one", "value", "x", "y"], st, il_check_within⟩
def il_coefficient : Ss := (.cons (.ret (.ite (.cmp .lt (.var 1) (.bf false .len (.cons (.var 0) .nil))) (.idx (.var 0) (.var 1)) (.glo "ZERO"))) .nil)
def d_coefficient (st : Stmt) : DefI := ⟨"coefficient", ["one", "k"], ["one", "k"], st, il_coefficient⟩
def lp_common_0 : S := .whl (.cmp .gt (.var 1) (.int 0)) (.cons (.par [0, 1] (.cons (.var 1) (.cons (.bin false .mod (.var 0) (.var 1)) .nil))) .nil)
def il_common : Ss := (.cons (.par [0, 1] (.cons (.bf false .abs (.cons (.var 0) .nil)) (.cons (.bf false .abs (.cons (.var 1) .nil)) .nil))) (.cons lp_common_0 (.cons (.ret (.var 0)) .nil)))
def d_common (st : Stmt) : DefI := ⟨"common", ["a", "b"], ["a", "b"], st, il_common⟩
def il_count_roots : Ss := (.cons (.set 3 (.ite (.cmp .gt (.bf false .len (.cons (.var 0) .nil)) (.int 1)) (.idx (.call "poly_divided" (.cons (.var 0) (.cons (.call "poly_common" (.cons (.var 0) (.cons (.call "slope" (.cons (.var 0) .nil)) .nil))) .nil))) (.int 0)) (.var 0))) (.cons (.set 4 (.ite (.cmp .gt (.bf false .len (.cons (.var 3) .nil)) (.int 1)) (.call "sturm" (.cons (.var 3) .nil)) (.lst false (.cons (.var 3) .nil)))) (.cons (.ret (.bin false .sub (.call "changes" (.cons (.var 4) (.cons (.var 1) .nil))) (.call "changes" (.cons (.var 4) (.cons (.var 2) .nil))))) .nil)))
def d_count_roots (st : Stmt) : DefI := ⟨"count_roots", ["one", "low", "high"], ["one", "low", "high", "simple", "rows"], st, il_count_roots⟩
def il_degree_of : Ss := (.cons (.ret (.bin false .sub (.bf false .max (.cons (.bf false .len (.cons (.idx (.var 0) (.int 0)) .nil)) (.cons (.bf false .len (.cons (.idx (.var 0) (.int 1)) .nil)) .nil))) (.int 1))) .nil)
def d_degree_of (st : Stmt) : DefI := ⟨"degree_of", ["one"], ["one"], st, il_degree_of⟩
def il_ends_at : Ss := (.cons (.set 2 (.call "ladder_of" (.cons (.var 0) .nil))) (.cons (.ite (.cmp .iss (.var 2) .non) (.cons (.raise "CannotBe") .nil) .nil) (.cons (.ite (.call "is_full" (.cons (.var 2) .nil)) (.cons (.ret (.tup (.cons (.var 2) (.cons (.var 2) .nil)))) .nil) .nil) (.cons (.set 3 (.lst false (.cons (.tup (.cons (.idx (.var 2) (.int 0)) (.cons (.tup (.cons (.neg (.int 1)) (.cons (.int 1) .nil))) .nil))) (.cons (.tup (.cons (.idx (.var 2) (.int 0)) (.cons (.glo "ONE") .nil))) .nil)))) (.cons (.ite (.call "less" (.cons (.call "value_on" (.cons (.idx (.var 3) (.int 1)) (.cons (.var 1) .nil))) (.cons (.call "value_on" (.cons (.idx (.var 3) (.int 0)) (.cons (.var 1) .nil))) .nil))) (.cons (.ret (.tup (.cons (.idx (.var 3) (.int 1)) (.cons (.idx (.var 3) (.int 0)) .nil)))) .nil) .nil) (.cons (.ret (.tup (.cons (.idx (.var 3) (.int 0)) (.cons (.idx (.var 3) (.int 1)) .nil)))) .nil))))))
def d_ends_at (st : Stmt) : DefI := ⟨"ends_at", ["points", "place"], ["points", "place", "found", "rows"], st, il_ends_at⟩
def il_fraction : Ss := (.cons (.ite (.cmp .eq (.var 1) (.int 0)) (.cons (.raise "NoQuotient") .nil) .nil) (.cons (.set 2 (.ite (.cmp .gt (.var 1) (.int 0)) (.call "common" (.cons (.var 0) (.cons (.var 1) .nil))) (.neg (.call "common" (.cons (.var 0) (.cons (.var 1) .nil)))))) (.cons (.ret (.tup (.cons (.bin false .fdiv (.var 0) (.var 2)) (.cons (.bin false .fdiv (.var 1) (.var 2)) .nil)))) .nil)))
def d_fraction (st : Stmt) : DefI := ⟨"fraction", ["p", "q"], ["p", "q", "size"], st, il_fraction⟩
def lp_free_place_0 : S := .whl (.cmp .eq (.call "poly_at" (.cons (.var 0) (.cons (.ite (.cmp .gt (.var 1) (.int 1)) (.call "over" (.cons (.tup (.cons (.int 2) (.cons (.int 1) .nil))) (.cons (.tup (.cons (.var 1) (.cons (.int 1) .nil))) .nil))) (.glo "ZERO")) .nil))) (.glo "ZERO")) (.cons (.aug 1 .add (.int 1)) .nil)
def il_free_place : Ss := (.cons (.set 1 (.int 1)) (.cons lp_free_place_0 (.cons (.ret (.ite (.cmp .gt (.var 1) (.int 1)) (.call "over" (.cons (.tup (.cons (.int 2) (.cons (.int 1) .nil))) (.cons (.tup (.cons (.var 1) (.cons (.int 1) .nil))) .nil))) (.glo "ZERO"))) .nil)))
def d_free_place (st : Stmt) : DefI := ⟨"free_place", ["one"], ["one", "k"], st, il_free_place⟩
def cp_is_beginning_0 : E := .comp false .seq (.var 0) .nop .nop (.nm 1) (.bl true) (.call "is_fraction" (.cons (.var 1) .nil))
def il_is_beginning : Ss := (.cons (.ite (.or (.not (.isi .tuple (.var 0))) (.not (.chn .le .le (.int 1) (.bf false .len (.cons (.var 0) .nil)) (.glo "MOST_NUMBERS")))) (.cons (.ret (.bl false)) .nil) .nil) (.cons (.ret (.bf false .all (.cons cp_is_beginning_0 .nil))) .nil))
def d_is_beginning (st : Stmt) : DefI := ⟨"is_beginning", ["value"], ["value", "item"], st, il_is_beginning⟩
def cp_is_bound_0 : E := .comp false .seq (.var 0) .nop .nop (.tp [6, 5]) (.bl true) (.cmp .eq (.var 5) (.glo "ZERO"))
def cp_is_bound_1 : E := .comp false .seq (.var 0) .nop .nop (.tp [4, 5]) (.bl true) (.tup (.cons (.var 4) (.cons (.call "over" (.cons (.var 5) (.cons (.call "over" (.cons (.tup (.cons (.var 2) (.cons (.int 1) .nil))) (.cons (.tup (.cons (.var 1) (.cons (.int 1) .nil))) .nil))) .nil))) .nil)))
def cp_is_bound_2 : E := .comp false .seq (.var 3) .nop .nop (.tp [6, 5]) (.bl true) (.call "is_level" (.cons (.var 5) .nil))
def il_is_bound : Ss := (.cons (.ite (.cmp .le (.var 2) (.int 0)) (.cons (.ret (.and (.cmp .eq (.var 2) (.int 0)) (.bf false .all (.cons cp_is_bound_0 .nil)))) .nil) .nil) (.cons (.set 3 (.bf false .tuple (.cons cp_is_bound_1 .nil))) (.cons (.ret (.and (.bf false .all (.cons cp_is_bound_2 .nil)) (.call "can_be_told" (.cons (.var 3) .nil)))) .nil)))
def d_is_bound (st : Stmt) : DefI := ⟨"is_bound", ["points", "size", "bound"], ["points", "size", "bound", "rows", "place", "number", "_"], st, il_is_bound⟩
def il_is_fraction : Ss := (.cons (.ite (.or (.not (.isi .tuple (.var 0))) (.or (.cmp .ne (.bf false .len (.cons (.var 0) .nil)) (.int 2)) (.or (.not (.call "is_whole" (.cons (.idx (.var 0) (.int 0)) .nil))) (.not (.call "is_whole" (.cons (.idx (.var 0) (.int 1)) .nil)))))) (.cons (.ret (.bl false)) .nil) .nil) (.cons (.ret (.and (.cmp .gt (.idx (.var 0) (.int 1)) (.int 0)) (.cmp .eq (.call "common" (.cons (.idx (.var 0) (.int 0)) (.cons (.idx (.var 0) (.int 1)) .nil))) (.int 1)))) .nil))
def d_is_fraction (st : Stmt) : DefI := ⟨"is_fraction", ["value"], ["value"], st, il_is_fraction⟩
def il_is_full : Ss := (.cons (.ret (.cmp .inn (.idx (.var 0) (.int 1)) (.tup (.cons (.glo "ONE") (.cons (.tup (.cons (.neg (.int 1)) (.cons (.int 1) .nil))) .nil))))) .nil)
def d_is_full (st : Stmt) : DefI := ⟨"is_full", ["ladder"], ["ladder"], st, il_is_full⟩
def cp_is_full_quotient_0 : E := .comp false .r1 (.var 1) .nop .nop (.nm 5) (.bl true) (.call "coefficient" (.cons (.var 4) (.cons (.bin false .sub (.bin false .sub (.var 1) (.int 1)) (.var 5)) .nil)))
def il_is_full_quotient : Ss := (.cons (.unp [3, 4] (.var 0)) (.cons (.ite (.not (.call "is_within" (.cons (.var 0) .nil))) (.cons (.ret (.bl false)) .nil) .nil) (.cons (.set 1 (.bf false .max (.cons (.bf false .len (.cons (.var 3) .nil)) (.cons (.bf false .len (.cons (.var 4) .nil)) .nil)))) (.cons (.set 2 (.call "trimmed" (.cons cp_is_full_quotient_0 .nil))) (.cons (.ret (.or (.cmp .eq (.var 3) (.var 2)) (.cmp .eq (.var 3) (.call "poly_scaled" (.cons (.var 2) (.cons (.tup (.cons (.neg (.int 1)) (.cons (.int 1) .nil))) .nil)))))) .nil)))))
def d_is_full_quotient (st : Stmt) : DefI := ⟨"is_full_quotient", ["one"], ["one", "size", "turned", "above", "below", "k"], st, il_is_full_quotient⟩
def cp_is_ladder_0 : E := .comp false .seq (.idx (.var 0) (.int 0)) .nop .nop (.nm 1) (.bl true) (.call "is_step" (.cons (.var 1) .nil))
def il_is_ladder : Ss := (.cons (.ite (.or (.not (.isi .tuple (.var 0))) (.or (.cmp .ne (.bf false .len (.cons (.var 0) .nil)) (.int 2)) (.or (.not (.isi .tuple (.idx (.var 0) (.int 0)))) (.not (.call "is_level" (.cons (.idx (.var 0) (.int 1)) .nil)))))) (.cons (.ret (.bl false)) .nil) .nil) (.cons (.ret (.and (.cmp .le (.bf false .len (.cons (.idx (.var 0) (.int 0)) .nil)) (.glo "MOST_STEPS")) (.bf false .all (.cons cp_is_ladder_0 .nil)))) .nil))
def d_is_ladder (st : Stmt) : DefI := ⟨"is_ladder", ["value"], ["value", "step"], st, il_is_ladder⟩
def il_is_level : Ss := (.cons (.ret (.and (.call "is_fraction" (.cons (.var 0) .nil)) (.chn .le .le (.neg (.idx (.var 0) (.int 1))) (.idx (.var 0) (.int 0)) (.idx (.var 0) (.int 1))))) .nil)
def d_is_level (st : Stmt) : DefI := ⟨"is_level", ["value"], ["value"], st, il_is_level⟩
def il_is_level_everywhere : Ss := (.cons (.ret (.and (.cmp .le (.bf false .len (.cons (.idx (.var 0) (.int 0)) .nil)) (.int 1)) (.and (.cmp .eq (.bf false .len (.cons (.idx (.var 0) (.int 1)) .nil)) (.int 1)) (.or (.cmp .eq (.bf false .len (.cons (.idx (.var 0) (.int 0)) .nil)) (.int 0)) (.call "is_level" (.cons (.idx (.idx (.var 0) (.int 0)) (.int 0)) .nil)))))) .nil)
def d_is_level_everywhere (st : Stmt) : DefI := ⟨"is_level_everywhere", ["one"], ["one"], st, il_is_level_everywhere⟩
def il_is_over : Ss := (.cons (.set 3 (.call "square_size" (.cons (.call "pair_value" (.cons (.idx (.var 0) (.int 1)) (.cons (.var 1) (.cons (.var 2) .nil)))) .nil))) (.cons (.ret (.or (.cmp .eq (.var 3) (.glo "ZERO")) (.call "less" (.cons (.var 3) (.cons (.call "square_size" (.cons (.call "pair_value" (.cons (.idx (.var 0) (.int 0)) (.cons (.var 1) (.cons (.var 2) .nil)))) .nil)) .nil))))) .nil))
def d_is_over (st : Stmt) : DefI := ⟨"is_over", ["one", "x", "y"], ["one", "x", "y", "below"], st, il_is_over⟩
def il_is_place : Ss := (.cons (.ret (.and (.call "is_fraction" (.cons (.var 0) .nil)) (.chn .lt .lt (.neg (.idx (.var 0) (.int 1))) (.idx (.var 0) (.int 0)) (.idx (.var 0) (.int 1))))) .nil)
def d_is_place (st : Stmt) : DefI := ⟨"is_place", ["value"], ["value"], st, il_is_place⟩
def cp_is_points_0 : E := .comp false .seq (.var 0) .nop .nop (.nm 2) (.bl true) (.and (.isi .tuple (.var 2)) (.and (.cmp .eq (.bf false .len (.cons (.var 2) .nil)) (.int 2)) (.and (.call "is_place" (.cons (.idx (.var 2) (.int 0)) .nil)) (.call "is_level" (.cons (.idx (.var 2) (.int 1)) .nil)))))
def cp_is_points_1 : E := .comp false .r1 (.bin false .sub (.bf false .len (.cons (.var 0) .nil)) (.int 1)) .nop .nop (.nm 1) (.bl true) (.call "less" (.cons (.idx (.idx (.var 0) (.var 1)) (.int 0)) (.cons (.idx (.idx (.var 0) (.bin false .add (.var 1) (.int 1))) (.int 0)) .nil)))
def il_is_points : Ss := (.cons (.ite (.or (.not (.isi .tuple (.var 0))) (.cmp .gt (.bf false .len (.cons (.var 0) .nil)) (.glo "MOST_POINTS"))) (.cons (.ret (.bl false)) .nil) .nil) (.cons (.ite (.not (.bf false .all (.cons cp_is_points_0 .nil))) (.cons (.ret (.bl false)) .nil) .nil) (.cons (.ret (.bf false .all (.cons cp_is_points_1 .nil))) .nil)))
def d_is_points (st : Stmt) : DefI := ⟨"is_points", ["value"], ["value", "k", "row"], st, il_is_points⟩
def cp_is_poly_0 : E := .comp false .seq (.var 0) .nop .nop (.nm 1) (.bl true) (.call "is_fraction" (.cons (.var 1) .nil))
def il_is_poly : Ss := (.cons (.ite (.or (.not (.isi .tuple (.var 0))) (.not (.bf false .all (.cons cp_is_poly_0 .nil)))) (.cons (.ret (.bl false)) .nil) .nil) (.cons (.ret (.or (.cmp .eq (.bf false .len (.cons (.var 0) .nil)) (.int 0)) (.cmp .ne (.idx (.var 0) (.neg (.int 1))) (.glo "ZERO")))) .nil))
def d_is_poly (st : Stmt) : DefI := ⟨"is_poly", ["value"], ["value", "item"], st, il_is_poly⟩
def il_is_quotient : Ss := (.cons (.ite (.or (.not (.isi .tuple (.var 0))) (.or (.cmp .ne (.bf false .len (.cons (.var 0) .nil)) (.int 2)) (.or (.not (.call "is_poly" (.cons (.idx (.var 0) (.int 0)) .nil))) (.not (.call "is_poly" (.cons (.idx (.var 0) (.int 1)) .nil)))))) (.cons (.ret (.bl false)) .nil) .nil) (.cons (.ret (.and (.cmp .gt (.bf false .len (.cons (.idx (.var 0) (.int 1)) .nil)) (.int 0)) (.cmp .eq (.call "quotient" (.cons (.idx (.var 0) (.int 0)) (.cons (.idx (.var 0) (.int 1)) .nil))) (.var 0)))) .nil))
def d_is_quotient (st : Stmt) : DefI := ⟨"is_quotient", ["value"], ["value"], st, il_is_quotient⟩
def cp_is_round_0 : E := .comp false .seq (.var 0) .nop .nop (.nm 1) (.bl true) (.call "is_fraction" (.cons (.var 1) .nil))
def il_is_round : Ss := (.cons (.ite (.or (.not (.isi .tuple (.var 0))) (.or (.not (.chn .le .le (.int 1) (.bf false .len (.cons (.var 0) .nil)) (.glo "MOST_ROUND"))) (.cmp .ne (.idx (.var 0) (.int 0)) (.glo "ONE")))) (.cons (.ret (.bl false)) .nil) .nil) (.cons (.ret (.bf false .all (.cons cp_is_round_0 .nil))) .nil))
def d_is_round (st : Stmt) : DefI := ⟨"is_round", ["value"], ["value", "item"], st, il_is_round⟩
def cp_is_row_0 : E := .comp false .seq (.var 0) .nop .nop (.nm 2) (.bl true) (.call "is_fraction" (.cons (.var 2) .nil))
def il_is_row : Ss := (.cons (.ret (.and (.isi .tuple (.var 0)) (.and (.cmp .eq (.bf false .len (.cons (.var 0) .nil)) (.var 1)) (.bf false .all (.cons cp_is_row_0 .nil))))) .nil)
def d_is_row (st : Stmt) : DefI := ⟨"is_row", ["value", "many"], ["value", "many", "item"], st, il_is_row⟩
def il_is_step : Ss := (.cons (.ret (.and (.isi .tuple (.var 0)) (.and (.cmp .eq (.bf false .len (.cons (.var 0) .nil)) (.int 2)) (.and (.call "is_place" (.cons (.idx (.var 0) (.int 0)) .nil)) (.call "is_place" (.cons (.idx (.var 0) (.int 1)) .nil)))))) .nil)
def d_is_step (st : Stmt) : DefI := ⟨"is_step", ["value"], ["value"], st, il_is_step⟩
def il_is_whole : Ss := (.cons (.ret (.and (.isi .int (.var 0)) (.not (.isi .bool (.var 0))))) .nil)
def d_is_whole (st : Stmt) : DefI := ⟨"is_whole", ["value"], ["value"], st, il_is_whole⟩
def cp_is_within_0 : E := .comp false .zip (.var 4) (.var 5) .nop (.tp [6, 7]) (.bl true) (.call "minus" (.cons (.var 6) (.cons (.var 7) .nil)))
def il_is_within : Ss := (.cons (.unp [2, 3] (.var 0)) (.cons (.ite (.not (.call "all_outside" (.cons (.var 3) .nil))) (.cons (.ret (.bl false)) .nil) .nil) (.cons (.set 1 (.bf false .max (.cons (.bf false .len (.cons (.var 2) .nil)) (.cons (.bf false .len (.cons (.var 3) .nil)) .nil)))) (.cons (.par [4, 5] (.cons (.call "round_products" (.cons (.var 3) (.cons (.var 1) .nil))) (.cons (.call "round_products" (.cons (.var 2) (.cons (.var 1) .nil))) .nil))) (.cons (.ret (.call "never_below" (.cons (.call "by_sums" (.cons cp_is_within_0 .nil)) .nil))) .nil)))))
def d_is_within (st : Stmt) : DefI := ⟨"is_within", ["one"], ["one", "size", "above", "below", "outer", "inner", "a", "b"], st, il_is_within⟩
def cp_ladder_of_0 : E := .comp false .seq (.var 2) .nop .nop (.tp [9, 7]) (.bl true) (.cmp .eq (.var 7) (.var 5))
def lp_ladder_of_1 : S := .loop .seq (.slc false (.var 2) (.int 1) .nop) .nop .nop (.tp [6, 7]) (.cons (.set 8 (.call "over" (.cons (.call "lowered" (.cons (.var 5) (.cons (.var 7) .nil))) (.cons (.call "turn" (.cons (.var 4) (.cons (.var 6) .nil))) .nil)))) (.cons (.ite (.not (.call "is_level" (.cons (.var 8) .nil))) (.cons (.ret .non) .nil) .nil) (.cons (.exp (.app (.var 3) (.tup (.cons (.var 6) (.cons (.var 8) .nil))))) .nil)))
def lp_ladder_of_2 : S := .whl (.cmp .gt (.bf false .len (.cons (.var 2) .nil)) (.int 0)) (.cons (.unp [4, 5] (.idx (.var 2) (.int 0))) (.cons (.ite (.cmp .inn (.var 5) (.tup (.cons (.glo "ONE") (.cons (.tup (.cons (.neg (.int 1)) (.cons (.int 1) .nil))) .nil)))) (.cons (.ret (.ite (.bf false .all (.cons cp_ladder_of_0 .nil)) (.tup (.cons (.bf false .tuple (.cons (.var 1) .nil)) (.cons (.var 5) .nil))) .non)) .nil) .nil) (.cons (.exp (.app (.var 1) (.tup (.cons (.var 4) (.cons (.var 5) .nil))))) (.cons (.set 3 (.lst true .nil)) (.cons lp_ladder_of_1 (.cons (.set 2 (.var 3)) .nil))))))
def il_ladder_of : Ss := (.cons (.set 1 (.lst true .nil)) (.cons (.set 2 (.bf false .list (.cons (.var 0) .nil))) (.cons lp_ladder_of_2 (.cons (.ret (.tup (.cons (.bf false .tuple (.cons (.var 1) .nil)) (.cons (.glo "ZERO") .nil)))) .nil))))
def d_ladder_of (st : Stmt) : DefI := ⟨"ladder_of", ["points"], ["points", "steps", "left", "rest", "place", "level", "other", "value", "here", "_"], st, il_ladder_of⟩
def lp_least_bound_0 : S := .whl (.not (.call "is_bound" (.cons (.var 0) (.cons (.var 1) (.cons (.var 3) .nil))))) (.cons (.par [2, 3] (.cons (.var 3) (.cons (.bin false .mul (.int 2) (.var 3)) .nil))) .nil)
def lp_least_bound_1 : S := .whl (.cmp .gt (.bin false .sub (.var 3) (.var 2)) (.int 1)) (.cons (.set 4 (.bin false .fdiv (.bin false .add (.var 2) (.var 3)) (.int 2))) (.cons (.ite (.call "is_bound" (.cons (.var 0) (.cons (.var 1) (.cons (.var 4) .nil)))) (.cons (.set 3 (.var 4)) .nil) (.cons (.set 2 (.var 4)) .nil)) .nil))
def il_least_bound : Ss := (.cons (.par [2, 3] (.cons (.neg (.int 1)) (.cons (.bin false .mul (.var 1) (.int 2)) .nil))) (.cons lp_least_bound_0 (.cons lp_least_bound_1 (.cons (.ret (.var 3)) .nil))))
def d_least_bound (st : Stmt) : DefI := ⟨"least_bound", ["points", "size"], ["points", "size", "low", "high", "middle"], st, il_least_bound⟩
def il_least_error : Ss := (.cons (.ret (.call "worth" (.cons (.call "round_table" (.cons (.var 0) .nil)) (.cons (.call "best_row" (.cons (.var 0) .nil)) .nil)))) .nil)
def d_least_error (st : Stmt) : DefI := ⟨"least_error", ["row"], ["row"], st, il_least_error⟩
def cp_led_0 : E := .comp true .seq (.var 0) .nop .nop (.nm 5) (.bl true) (.bf false .list (.cons (.var 5) .nil))
def cp_led_1 : E := .comp false .zip (.idx (.var 4) (.var 1)) (.idx (.var 4) (.var 2)) .nop (.tp [6, 7]) (.bl true) (.call "minus" (.cons (.var 6) (.cons (.call "times" (.cons (.var 3) (.cons (.var 7) .nil))) .nil)))
def lp_led_2 : S := .loop .seq (.var 4) .nop .nop (.nm 5) (.cons (.seti (.var 5) (.var 1) (.call "minus" (.cons (.idx (.var 5) (.var 1)) (.cons (.call "times" (.cons (.var 3) (.cons (.idx (.var 5) (.var 2)) .nil))) .nil)))) .nil)
def il_led : Ss := (.cons (.set 4 cp_led_0) (.cons (.seti (.var 4) (.var 1) cp_led_1) (.cons lp_led_2 (.cons (.ret (.frz (.var 4))) .nil))))
def d_led (st : Stmt) : DefI := ⟨"led", ["table", "j", "k", "size"], ["table", "j", "k", "size", "rows", "row", "a", "b"], st, il_led⟩
def il_less : Ss := (.cons (.ret (.cmp .lt (.bin false .mul (.idx (.var 0) (.int 0)) (.idx (.var 1) (.int 1))) (.bin false .mul (.idx (.var 1) (.int 0)) (.idx (.var 0) (.int 1))))) .nil)
def d_less (st : Stmt) : DefI := ⟨"less", ["one", "two"], ["one", "two"], st, il_less⟩
def il_level_quotient : Ss := (.cons (.ret (.ite (.cmp .ne (.var 0) (.glo "ZERO")) (.tup (.cons (.tup (.cons (.var 0) .nil)) (.cons (.tup (.cons (.glo "ONE") .nil)) .nil))) (.tup (.cons (.tup .nil) (.cons (.tup (.cons (.glo "ONE") .nil)) .nil))))) .nil)
def d_level_quotient (st : Stmt) : DefI := ⟨"level_quotient", ["number"], ["number"], st, il_level_quotient⟩
def il_lifted : Ss := (.cons (.ret (.call "over" (.cons (.call "plus" (.cons (.var 0) (.cons (.var 1) .nil))) (.cons (.call "plus" (.cons (.glo "ONE") (.cons (.call "times" (.cons (.var 0) (.cons (.var 1) .nil))) .nil))) .nil)))) .nil)
def d_lifted (st : Stmt) : DefI := ⟨"lifted", ["level", "turned"], ["level", "turned"], st, il_lifted⟩
def il_lowered : Ss := (.cons (.ret (.call "over" (.cons (.call "minus" (.cons (.var 1) (.cons (.var 0) .nil))) (.cons (.call "minus" (.cons (.glo "ONE") (.cons (.call "times" (.cons (.var 0) (.cons (.var 1) .nil))) .nil))) .nil)))) .nil)
def d_lowered (st : Stmt) : DefI := ⟨"lowered", ["level", "value"], ["level", "value"], st, il_lowered⟩
def il_minus : Ss := (.cons (.ret (.call "fraction" (.cons (.bin false .sub (.bin false .mul (.idx (.var 0) (.int 0)) (.idx (.var 1) (.int 1))) (.bin false .mul (.idx (.var 1) (.int 0)) (.idx (.var 0) (.int 1)))) (.cons (.bin false .mul (.idx (.var 0) (.int 1)) (.idx (.var 1) (.int 1))) .nil)))) .nil)
def d_minus (st : Stmt) : DefI := ⟨"minus", ["one", "two"], ["one", "two"], st, il_minus⟩
def il_minus_quotients : Ss := (.cons (.ret (.call "quotient" (.cons (.call "poly_minus" (.cons (.call "poly_times" (.cons (.idx (.var 0) (.int 0)) (.cons (.idx (.var 1) (.int 1)) .nil))) (.cons (.call "poly_times" (.cons (.idx (.var 1) (.int 0)) (.cons (.idx (.var 0) (.int 1)) .nil))) .nil))) (.cons (.call "poly_times" (.cons (.idx (.var 0) (.int 1)) (.cons (.idx (.var 1) (.int 1)) .nil))) .nil)))) .nil)
def d_minus_quotients (st : Stmt) : DefI := ⟨"minus_quotients", ["one", "two"], ["one", "two"], st, il_minus_quotients⟩
def lp_mirrored_0 : S := .loop .r1 (.bf false .len (.cons (.idx (.var 0) (.int 0)) .nil)) .nop .nop (.nm 3) (.cons (.unp [4, 5] (.idx (.idx (.var 0) (.int 0)) (.var 3))) (.cons (.exp (.app (.var 2) (.tup (.cons (.call "minus" (.cons (.glo "ZERO") (.cons (.var 4) .nil))) (.cons (.ite (.cmp .eq (.bin false .mod (.var 3) (.int 2)) (.int 0)) (.var 5) (.call "minus" (.cons (.glo "ZERO") (.cons (.var 5) .nil)))) .nil))))) .nil))
def il_mirrored : Ss := (.cons (.set 1 (.ite (.cmp .eq (.bin false .mod (.bf false .len (.cons (.idx (.var 0) (.int 0)) .nil)) (.int 2)) (.int 0)) (.idx (.var 0) (.int 1)) (.call "minus" (.cons (.glo "ZERO") (.cons (.idx (.var 0) (.int 1)) .nil))))) (.cons (.set 2 (.lst true .nil)) (.cons lp_mirrored_0 (.cons (.ret (.tup (.cons (.bf false .tuple (.cons (.var 2) .nil)) (.cons (.var 1) .nil)))) .nil))))
def d_mirrored (st : Stmt) : DefI := ⟨"mirrored", ["ladder"], ["ladder", "last", "steps", "k", "place", "level"], st, il_mirrored⟩
def cp_mixed_row_0 : E := .comp false .zip (.idx (.var 1) (.var 2)) (.idx (.var 1) (.var 3)) .nop (.tp [5, 6]) (.bl true) (.call "plus" (.cons (.var 5) (.cons (.call "times" (.cons (.var 4) (.cons (.var 6) .nil))) .nil)))
def il_mixed_row : Ss := (.cons (.set 4 (.call "over" (.cons (.call "minus" (.cons (.call "minus" (.cons (.glo "ZERO") (.cons (.glo "ONE") .nil))) (.cons (.idx (.idx (.var 0) (.var 2)) (.var 2)) .nil))) (.cons (.call "times" (.cons (.tup (.cons (.int 2) (.cons (.int 1) .nil))) (.cons (.idx (.idx (.var 0) (.var 2)) (.var 3)) .nil))) .nil)))) (.cons (.ret (.bf false .tuple (.cons cp_mixed_row_0 .nil))) .nil))
def d_mixed_row (st : Stmt) : DefI := ⟨"mixed_row", ["rows", "ways", "j", "k"], ["rows", "ways", "j", "k", "size", "a", "b"], st, il_mixed_row⟩
def cp_negative_0 : E := .comp false .seq (.idx (.var 0) (.int 0)) .nop .nop (.tp [2, 3]) (.bl true) (.tup (.cons (.var 2) (.cons (.call "minus" (.cons (.glo "ZERO") (.cons (.var 3) .nil))) .nil)))
def il_negative : Ss := (.cons (.set 1 (.bf false .tuple (.cons cp_negative_0 .nil))) (.cons (.ret (.tup (.cons (.var 1) (.cons (.call "minus" (.cons (.glo "ZERO") (.cons (.idx (.var 0) (.int 1)) .nil))) .nil)))) .nil))
def d_negative (st : Stmt) : DefI := ⟨"negative", ["ladder"], ["ladder", "steps", "place", "level"], st, il_negative⟩
def cp_negative_row_0 : E := .comp false .seq (.var 0) .nop .nop (.nm 6) (.bl true) (.bf false .list (.cons (.var 6) .nil))
def cp_negative_row_1 : E := .comp false .r1 (.var 1) .nop .nop (.nm 5) (.bl true) (.ite (.cmp .eq (.var 5) (.var 4)) (.glo "ONE") (.glo "ZERO"))
def cp_negative_row_2 : E := .comp true .r1 (.var 1) .nop .nop (.nm 4) (.bl true) cp_negative_row_1
def cp_negative_row_3 : E := .comp false .zip (.idx (.var 3) (.var 5)) (.idx (.var 3) (.var 4)) .nop (.tp [8, 9]) (.bl true) (.call "minus" (.cons (.var 8) (.cons (.call "times" (.cons (.var 7) (.cons (.var 9) .nil))) .nil)))
def lp_negative_row_4 : S := .loop .r2 (.bin false .add (.var 4) (.int 1)) (.var 1) .nop (.nm 5) (.cons (.ite (.and (.cmp .ne (.idx (.idx (.var 2) (.var 5)) (.var 4)) (.glo "ZERO")) (.cmp .eq (.idx (.idx (.var 2) (.var 4)) (.var 4)) (.glo "ZERO"))) (.cons (.ret (.call "mixed_row" (.cons (.var 2) (.cons (.var 3) (.cons (.var 5) (.cons (.var 4) .nil)))))) .nil) .nil) (.cons (.ite (.cmp .ne (.idx (.idx (.var 2) (.var 5)) (.var 4)) (.glo "ZERO")) (.cons (.set 7 (.call "over" (.cons (.idx (.idx (.var 2) (.var 5)) (.var 4)) (.cons (.idx (.idx (.var 2) (.var 4)) (.var 4)) .nil)))) (.cons (.set 2 (.call "led" (.cons (.var 2) (.cons (.var 5) (.cons (.var 4) (.cons (.var 7) .nil)))))) (.cons (.seti (.var 3) (.var 5) cp_negative_row_3) .nil))) .nil) .nil))
def lp_negative_row_5 : S := .loop .r1 (.var 1) .nop .nop (.nm 4) (.cons (.ite (.cmp .lt (.idx (.idx (.idx (.var 2) (.var 4)) (.var 4)) (.int 0)) (.int 0)) (.cons (.ret (.bf false .tuple (.cons (.idx (.var 3) (.var 4)) .nil))) .nil) .nil) (.cons lp_negative_row_4 .nil))
def il_negative_row : Ss := (.cons (.set 1 (.bf false .len (.cons (.var 0) .nil))) (.cons (.set 2 cp_negative_row_0) (.cons (.set 3 cp_negative_row_2) (.cons lp_negative_row_5 (.cons (.ret .non) .nil)))))
def d_negative_row (st : Stmt) : DefI := ⟨"negative_row", ["table"], ["table", "size", "rows", "ways", "k", "j", "row", "times_of", "a", "b"], st, il_negative_row⟩
def lp_never_below_0 : S := .loop .seq (.tup (.cons (.tup (.cons (.neg (.int 2)) (.cons (.int 1) .nil))) (.cons (.tup (.cons (.int 2) (.cons (.int 1) .nil))) .nil))) .nop .nop (.nm 1) (.cons (.ite (.cmp .lt (.idx (.call "poly_at" (.cons (.var 0) (.cons (.var 1) .nil))) (.int 0)) (.int 0)) (.cons (.ret (.bl false)) .nil) .nil) .nil)
def il_never_below : Ss := (.cons (.ite (.cmp .eq (.bf false .len (.cons (.var 0) .nil)) (.int 0)) (.cons (.ret (.bl true)) .nil) .nil) (.cons lp_never_below_0 (.cons (.set 2 (.call "odd_part" (.cons (.var 0) .nil))) (.cons (.par [4, 5] (.cons (.tup (.cons (.neg (.int 2)) (.cons (.int 1) .nil))) (.cons (.tup (.cons (.int 2) (.cons (.int 1) .nil))) .nil))) (.cons (.set 3 (.bin false .sub (.call "count_roots" (.cons (.var 2) (.cons (.var 4) (.cons (.var 5) .nil)))) (.bf false .int (.cons (.cmp .eq (.call "poly_at" (.cons (.var 2) (.cons (.var 5) .nil))) (.glo "ZERO")) .nil)))) (.cons (.ite (.cmp .gt (.var 3) (.int 0)) (.cons (.ret (.bl false)) .nil) .nil) (.cons (.ret (.cmp .gt (.idx (.call "poly_at" (.cons (.var 0) (.cons (.call "free_place" (.cons (.var 0) .nil)) .nil))) (.int 0)) (.int 0))) .nil)))))))
def d_never_below (st : Stmt) : DefI := ⟨"never_below", ["one"], ["one", "x", "odd", "inside", "low", "high"], st, il_never_below⟩
def lp_odd_part_0 : S := .whl (.cmp .gt (.bf false .len (.cons (.var 2) .nil)) (.int 1)) (.cons (.set 2 (.call "poly_common" (.cons (.var 2) (.cons (.call "slope" (.cons (.var 2) .nil)) .nil)))) (.cons (.exp (.app (.var 3) (.var 2))) .nil))
def cp_odd_part_1 : E := .comp false .r1 (.bin false .sub (.bf false .len (.cons (.var 4) .nil)) (.int 1)) .nop .nop (.nm 6) (.bl true) (.idx (.call "poly_divided" (.cons (.idx (.var 4) (.var 6)) (.cons (.idx (.var 4) (.bin false .add (.var 6) (.int 1))) .nil))) (.int 0))
def lp_odd_part_2 : S := .loop .r1 (.bin false .sub (.bf false .len (.cons (.var 5) .nil)) (.int 1)) .nop .nop (.nm 6) (.cons (.set 7 (.idx (.call "poly_divided" (.cons (.idx (.var 5) (.var 6)) (.cons (.call "poly_common" (.cons (.idx (.var 5) (.var 6)) (.cons (.idx (.var 5) (.bin false .add (.var 6) (.int 1))) .nil))) .nil))) (.int 0))) (.cons (.ite (.cmp .eq (.bin false .mod (.var 6) (.int 2)) (.int 0)) (.cons (.set 1 (.call "poly_times" (.cons (.var 1) (.cons (.var 7) .nil)))) .nil) .nil) .nil))
def il_odd_part : Ss := (.cons (.set 1 (.tup (.cons (.glo "ONE") .nil))) (.cons (.set 2 (.var 0)) (.cons (.set 3 (.lst true .nil)) (.cons lp_odd_part_0 (.cons (.set 4 (.bin false .add (.lst false (.cons (.var 0) .nil)) (.var 3))) (.cons (.set 5 (.bin false .add cp_odd_part_1 (.lst false (.cons (.tup (.cons (.glo "ONE") .nil)) .nil)))) (.cons lp_odd_part_2 (.cons (.ret (.var 1)) .nil))))))))
def d_odd_part (st : Stmt) : DefI := ⟨"odd_part", ["one"], ["one", "found", "left", "parts", "rows", "lots", "k", "just"], st, il_odd_part⟩
def il_over : Ss := (.cons (.ret (.call "fraction" (.cons (.bin false .mul (.idx (.var 0) (.int 0)) (.idx (.var 1) (.int 1))) (.cons (.bin false .mul (.idx (.var 0) (.int 1)) (.idx (.var 1) (.int 0))) .nil)))) .nil)
def d_over (st : Stmt) : DefI := ⟨"over", ["one", "two"], ["one", "two"], st, il_over⟩
def il_over_quotients : Ss := (.cons (.ret (.call "quotient" (.cons (.call "poly_times" (.cons (.idx (.var 0) (.int 0)) (.cons (.idx (.var 1) (.int 1)) .nil))) (.cons (.call "poly_times" (.cons (.idx (.var 0) (.int 1)) (.cons (.idx (.var 1) (.int 0)) .nil))) .nil)))) .nil)
def d_over_quotients (st : Stmt) : DefI := ⟨"over_quotients", ["one", "two"], ["one", "two"], st, il_over_quotients⟩
def lp_pair_value_0 : S := .loop .seq (.rev false (.var 0)) .nop .nop (.nm 3) (.cons (.par [4, 5] (.cons (.call "plus" (.cons (.call "minus" (.cons (.call "times" (.cons (.var 4) (.cons (.var 1) .nil))) (.cons (.call "times" (.cons (.var 5) (.cons (.var 2) .nil))) .nil))) (.cons (.var 3) .nil))) (.cons (.call "plus" (.cons (.call "times" (.cons (.var 4) (.cons (.var 2) .nil))) (.cons (.call "times" (.cons (.var 5) (.cons (.var 1) .nil))) .nil))) .nil))) .nil)
def il_pair_value : Ss := (.cons (.par [4, 5] (.cons (.glo "ZERO") (.cons (.glo "ZERO") .nil))) (.cons lp_pair_value_0 (.cons (.ret (.tup (.cons (.var 4) (.cons (.var 5) .nil)))) .nil)))
def d_pair_value (st : Stmt) : DefI := ⟨"pair_value", ["one", "x", "y"], ["one", "x", "y", "item", "re", "im"], st, il_pair_value⟩
def il_part_text : Ss := (.cons (.ite (.cmp .eq (.var 1) (.int 0)) (.cons (.ret (.call "write_fraction" (.cons (.var 0) .nil))) .nil) .nil) (.cons (.set 2 (.ite (.cmp .eq (.var 1) (.int 1)) (.str "x") (.bin false .add (.str "x^") (.bf false .str (.cons (.var 1) .nil))))) (.cons (.ret (.ite (.cmp .eq (.var 0) (.call "fraction" (.cons (.int 1) (.cons (.int 1) .nil)))) (.var 2) (.bin false .add (.bin false .add (.call "write_fraction" (.cons (.var 0) .nil)) (.str "*")) (.var 2)))) .nil)))
def d_part_text (st : Stmt) : DefI := ⟨"part_text", ["number", "power"], ["number", "power", "letter"], st, il_part_text⟩
def il_plus : Ss := (.cons (.ret (.call "fraction" (.cons (.bin false .add (.bin false .mul (.idx (.var 0) (.int 0)) (.idx (.var 1) (.int 1))) (.bin false .mul (.idx (.var 1) (.int 0)) (.idx (.var 0) (.int 1)))) (.cons (.bin false .mul (.idx (.var 0) (.int 1)) (.idx (.var 1) (.int 1))) .nil)))) .nil)
def d_plus (st : Stmt) : DefI := ⟨"plus", ["one", "two"], ["one", "two"], st, il_plus⟩
def il_plus_quotients : Ss := (.cons (.ret (.call "quotient" (.cons (.call "poly_plus" (.cons (.call "poly_times" (.cons (.idx (.var 0) (.int 0)) (.cons (.idx (.var 1) (.int 1)) .nil))) (.cons (.call "poly_times" (.cons (.idx (.var 1) (.int 0)) (.cons (.idx (.var 0) (.int 1)) .nil))) .nil))) (.cons (.call "poly_times" (.cons (.idx (.var 0) (.int 1)) (.cons (.idx (.var 1) (.int 1)) .nil))) .nil)))) .nil)
def d_plus_quotients (st : Stmt) : DefI := ⟨"plus_quotients", ["one", "two"], ["one", "two"], st, il_plus_quotients⟩
def lp_poly_at_0 : S := .loop .seq (.rev false (.var 0)) .nop .nop (.nm 3) (.cons (.set 2 (.call "plus" (.cons (.call "times" (.cons (.var 2) (.cons (.var 1) .nil))) (.cons (.var 3) .nil)))) .nil)
def il_poly_at : Ss := (.cons (.set 2 (.glo "ZERO")) (.cons lp_poly_at_0 (.cons (.ret (.var 2)) .nil)))
def d_poly_at (st : Stmt) : DefI := ⟨"poly_at", ["one", "x"], ["one", "x", "found", "item"], st, il_poly_at⟩
def lp_poly_common_0 : S := .whl (.cmp .gt (.bf false .len (.cons (.var 1) .nil)) (.int 0)) (.cons (.par [0, 1] (.cons (.var 1) (.cons (.idx (.call "poly_divided" (.cons (.var 0) (.cons (.var 1) .nil))) (.int 1)) .nil))) .nil)
def il_poly_common : Ss := (.cons lp_poly_common_0 (.cons (.ret (.ite (.cmp .gt (.bf false .len (.cons (.var 0) .nil)) (.int 0)) (.call "poly_scaled" (.cons (.var 0) (.cons (.call "over" (.cons (.glo "ONE") (.cons (.idx (.var 0) (.neg (.int 1))) .nil))) .nil))) (.tup .nil))) .nil))
def d_poly_common (st : Stmt) : DefI := ⟨"poly_common", ["one", "two"], ["one", "two"], st, il_poly_common⟩
def lp_poly_divided_0 : S := .loop .r1 (.bf false .len (.cons (.var 1) .nil)) .nop .nop (.nm 6) (.cons (.seti (.var 2) (.bin false .add (.var 4) (.var 6)) (.call "minus" (.cons (.idx (.var 2) (.bin false .add (.var 4) (.var 6))) (.cons (.call "times" (.cons (.var 5) (.cons (.idx (.var 1) (.var 6)) .nil))) .nil)))) .nil)
def lp_poly_divided_1 : S := .loop .r3 (.bin false .sub (.bf false .len (.cons (.var 0) .nil)) (.bf false .len (.cons (.var 1) .nil))) (.neg (.int 1)) (.neg (.int 1)) (.nm 4) (.cons (.set 5 (.call "over" (.cons (.idx (.var 2) (.bin false .sub (.bin false .add (.var 4) (.bf false .len (.cons (.var 1) .nil))) (.int 1))) (.cons (.idx (.var 1) (.neg (.int 1))) .nil)))) (.cons (.seti (.var 3) (.var 4) (.var 5)) (.cons lp_poly_divided_0 .nil)))
def il_poly_divided : Ss := (.cons (.ite (.cmp .eq (.bf false .len (.cons (.var 1) .nil)) (.int 0)) (.cons (.raise "NoQuotient") .nil) .nil) (.cons (.set 2 (.bf true .list (.cons (.var 0) .nil))) (.cons (.set 3 (.bin true .mul (.lst false (.cons (.glo "ZERO") .nil)) (.bf false .max (.cons (.int 0) (.cons (.bin false .add (.bin false .sub (.bf false .len (.cons (.var 0) .nil)) (.bf false .len (.cons (.var 1) .nil))) (.int 1)) .nil))))) (.cons lp_poly_divided_1 (.cons (.ret (.tup (.cons (.call "trimmed" (.cons (.var 3) .nil)) (.cons (.call "trimmed" (.cons (.var 2) .nil)) .nil)))) .nil)))))
def d_poly_divided (st : Stmt) : DefI := ⟨"poly_divided", ["one", "two"], ["one", "two", "rest", "found", "k", "part", "j"], st, il_poly_divided⟩
def cp_poly_minus_0 : E := .comp false .r1 (.bf false .max (.cons (.bf false .len (.cons (.var 0) .nil)) (.cons (.bf false .len (.cons (.var 1) .nil)) .nil))) .nop .nop (.nm 2) (.bl true) (.call "minus" (.cons (.call "coefficient" (.cons (.var 0) (.cons (.var 2) .nil))) (.cons (.call "coefficient" (.cons (.var 1) (.cons (.var 2) .nil))) .nil)))
def il_poly_minus : Ss := (.cons (.ret (.call "trimmed" (.cons cp_poly_minus_0 .nil))) .nil)
def d_poly_minus (st : Stmt) : DefI := ⟨"poly_minus", ["one", "two"], ["one", "two", "k"], st, il_poly_minus⟩
def cp_poly_plus_0 : E := .comp false .r1 (.bf false .max (.cons (.bf false .len (.cons (.var 0) .nil)) (.cons (.bf false .len (.cons (.var 1) .nil)) .nil))) .nop .nop (.nm 2) (.bl true) (.call "plus" (.cons (.call "coefficient" (.cons (.var 0) (.cons (.var 2) .nil))) (.cons (.call "coefficient" (.cons (.var 1) (.cons (.var 2) .nil))) .nil)))
def il_poly_plus : Ss := (.cons (.ret (.call "trimmed" (.cons cp_poly_plus_0 .nil))) .nil)
def d_poly_plus (st : Stmt) : DefI := ⟨"poly_plus", ["one", "two"], ["one", "two", "k"], st, il_poly_plus⟩
def cp_poly_scaled_0 : E := .comp false .seq (.var 0) .nop .nop (.nm 2) (.bl true) (.call "times" (.cons (.var 2) (.cons (.var 1) .nil)))
def il_poly_scaled : Ss := (.cons (.ret (.call "trimmed" (.cons cp_poly_scaled_0 .nil))) .nil)
def d_poly_scaled (st : Stmt) : DefI := ⟨"poly_scaled", ["one", "number"], ["one", "number", "item"], st, il_poly_scaled⟩
def lp_poly_times_0 : S := .loop .r1 (.bf false .len (.cons (.var 1) .nil)) .nop .nop (.nm 4) (.cons (.seti (.var 2) (.bin false .add (.var 3) (.var 4)) (.call "plus" (.cons (.idx (.var 2) (.bin false .add (.var 3) (.var 4))) (.cons (.call "times" (.cons (.idx (.var 0) (.var 3)) (.cons (.idx (.var 1) (.var 4)) .nil))) .nil)))) .nil)
def lp_poly_times_1 : S := .loop .r1 (.bf false .len (.cons (.var 0) .nil)) .nop .nop (.nm 3) (.cons lp_poly_times_0 .nil)
def il_poly_times : Ss := (.cons (.set 2 (.bin true .mul (.lst false (.cons (.glo "ZERO") .nil)) (.bin false .add (.bf false .len (.cons (.var 0) .nil)) (.bf false .len (.cons (.var 1) .nil))))) (.cons lp_poly_times_1 (.cons (.ret (.call "trimmed" (.cons (.var 2) .nil))) .nil)))
def d_poly_times (st : Stmt) : DefI := ⟨"poly_times", ["one", "two"], ["one", "two", "found", "j", "k"], st, il_poly_times⟩
def lp_put_in_0 : S := .loop .r1 (.var 2) .nop .nop (.nm 7) (.cons (.set 6 (.call "poly_times" (.cons (.var 6) (.cons (.ite (.cmp .lt (.var 7) (.var 3)) (.idx (.var 1) (.int 0)) (.idx (.var 1) (.int 1))) .nil)))) .nil)
def lp_put_in_1 : S := .loop .r1 (.bin false .add (.var 2) (.int 1)) .nop .nop (.nm 3) (.cons (.set 6 (.tup (.cons (.glo "ONE") .nil))) (.cons lp_put_in_0 (.cons (.set 4 (.call "poly_plus" (.cons (.var 4) (.cons (.call "poly_scaled" (.cons (.var 6) (.cons (.call "coefficient" (.cons (.idx (.var 0) (.int 0)) (.cons (.var 3) .nil))) .nil))) .nil)))) (.cons (.set 5 (.call "poly_plus" (.cons (.var 5) (.cons (.call "poly_scaled" (.cons (.var 6) (.cons (.call "coefficient" (.cons (.idx (.var 0) (.int 1)) (.cons (.var 3) .nil))) .nil))) .nil)))) .nil))))
def il_put_in : Ss := (.cons (.set 2 (.bin false .sub (.bf false .max (.cons (.bf false .len (.cons (.idx (.var 0) (.int 0)) .nil)) (.cons (.bf false .len (.cons (.idx (.var 0) (.int 1)) .nil)) .nil))) (.int 1))) (.cons (.par [4, 5] (.cons (.tup .nil) (.cons (.tup .nil) .nil))) (.cons lp_put_in_1 (.cons (.ret (.call "quotient" (.cons (.var 4) (.cons (.var 5) .nil)))) .nil))))
def d_put_in (st : Stmt) : DefI := ⟨"put_in", ["one", "two"], ["one", "two", "size", "k", "above", "below", "part", "step"], st, il_put_in⟩
def il_quotient : Ss := (.cons (.ite (.cmp .eq (.bf false .len (.cons (.var 1) .nil)) (.int 0)) (.cons (.raise "NoQuotient") .nil) .nil) (.cons (.set 2 (.call "poly_common" (.cons (.var 0) (.cons (.var 1) .nil)))) (.cons (.par [0, 1] (.cons (.idx (.call "poly_divided" (.cons (.var 0) (.cons (.var 2) .nil))) (.int 0)) (.cons (.idx (.call "poly_divided" (.cons (.var 1) (.cons (.var 2) .nil))) (.int 0)) .nil))) (.cons (.set 3 (.call "over" (.cons (.glo "ONE") (.cons (.idx (.var 1) (.neg (.int 1))) .nil)))) (.cons (.ret (.tup (.cons (.call "poly_scaled" (.cons (.var 0) (.cons (.var 3) .nil))) (.cons (.call "poly_scaled" (.cons (.var 1) (.cons (.var 3) .nil))) .nil)))) .nil)))))
def d_quotient (st : Stmt) : DefI := ⟨"quotient", ["above", "below"], ["above", "below", "both", "size"], st, il_quotient⟩
def lp_quotient_of_0 : S := .loop .seq (.rev false (.idx (.var 0) (.int 0))) .nop .nop (.tp [3, 4]) (.cons (.set 5 (.call "times_quotients" (.cons (.call "turn_quotient" (.cons (.var 3) .nil)) (.cons (.var 1) .nil)))) (.cons (.set 6 (.call "level_quotient" (.cons (.var 4) .nil))) (.cons (.set 1 (.call "over_quotients" (.cons (.call "plus_quotients" (.cons (.var 6) (.cons (.var 5) .nil))) (.cons (.call "plus_quotients" (.cons (.var 2) (.cons (.call "times_quotients" (.cons (.var 6) (.cons (.var 5) .nil))) .nil))) .nil)))) .nil)))
def il_quotient_of : Ss := (.cons (.set 1 (.call "level_quotient" (.cons (.idx (.var 0) (.int 1)) .nil))) (.cons (.set 2 (.call "level_quotient" (.cons (.glo "ONE") .nil))) (.cons lp_quotient_of_0 (.cons (.ret (.var 1)) .nil))))
def d_quotient_of (st : Stmt) : DefI := ⟨"quotient_of", ["ladder"], ["ladder", "found", "one", "place", "level", "here", "own"], st, il_quotient_of⟩
def cp_raised_0 : E := .comp false .seq (.var 0) .nop .nop (.tp [4, 5]) (.cmp .ne (.var 4) (.var 1)) (.tup (.cons (.var 4) (.cons (.call "lifted" (.cons (.var 2) (.cons (.call "times" (.cons (.call "turn" (.cons (.var 1) (.cons (.var 4) .nil))) (.cons (.var 5) .nil))) .nil))) .nil)))
def il_raised : Ss := (.cons (.set 3 cp_raised_0) (.cons (.ret (.call "with_point" (.cons (.bf false .tuple (.cons (.var 3) .nil)) (.cons (.var 1) (.cons (.var 2) .nil))))) .nil))
def d_raised (st : Stmt) : DefI := ⟨"raised", ["points", "place", "level"], ["points", "place", "level", "rows", "other", "value"], st, il_raised⟩
def il_range_at : Ss := (.cons (.unp [2, 3] (.call "ends_at" (.cons (.var 0) (.cons (.var 1) .nil)))) (.cons (.ret (.tup (.cons (.call "value_on" (.cons (.var 2) (.cons (.var 1) .nil))) (.cons (.call "value_on" (.cons (.var 3) (.cons (.var 1) .nil))) .nil)))) .nil))
def d_range_at (st : Stmt) : DefI := ⟨"range_at", ["points", "place"], ["points", "place", "low", "high"], st, il_range_at⟩
def cp_range_next_0 : E := .comp false .seq (.tup (.cons (.tup (.cons (.neg (.int 1)) (.cons (.int 1) .nil))) (.cons (.glo "ONE") .nil))) .nop .nop (.nm 4) (.bl true) (.idx (.call "begins" (.cons (.call "quotient_of" (.cons (.tup (.cons (.idx (.var 1) (.int 0)) (.cons (.var 4) .nil))) .nil)) (.cons (.bin false .add (.bf false .len (.cons (.var 0) .nil)) (.int 1)) .nil))) (.neg (.int 1)))
def il_range_next : Ss := (.cons (.set 1 (.call "begin_ladder" (.cons (.var 0) .nil))) (.cons (.ite (.cmp .iss (.var 1) .non) (.cons (.raise "CannotBe") .nil) .nil) (.cons (.ite (.call "is_full" (.cons (.var 1) .nil)) (.cons (.set 3 (.idx (.call "begins" (.cons (.call "quotient_of" (.cons (.var 1) .nil)) (.cons (.bin false .add (.bf false .len (.cons (.var 0) .nil)) (.int 1)) .nil))) (.neg (.int 1)))) (.cons (.ret (.tup (.cons (.var 3) (.cons (.var 3) .nil)))) .nil)) .nil) (.cons (.set 2 cp_range_next_0) (.cons (.ret (.ite (.call "less" (.cons (.idx (.var 2) (.int 1)) (.cons (.idx (.var 2) (.int 0)) .nil))) (.tup (.cons (.idx (.var 2) (.int 1)) (.cons (.idx (.var 2) (.int 0)) .nil))) (.tup (.cons (.idx (.var 2) (.int 0)) (.cons (.idx (.var 2) (.int 1)) .nil))))) .nil)))))
def d_range_next (st : Stmt) : DefI := ⟨"range_next", ["row"], ["row", "found", "ends", "number", "last"], st, il_range_next⟩
def il_rank_of : Ss := (.cons (.set 1 (.call "ladder_of" (.cons (.var 0) .nil))) (.cons (.ite (.cmp .iss (.var 1) .non) (.cons (.raise "CannotBe") .nil) .nil) (.cons (.ret (.bf false .len (.cons (.idx (.var 1) (.int 0)) .nil))) .nil)))
def d_rank_of (st : Stmt) : DefI := ⟨"rank_of", ["points"], ["points", "found"], st, il_rank_of⟩
def il_read_points : Ss := (.cons (.set 1 (.ite (.cmp .ne (.var 0) (.str "-")) (.call "read_pairs" (.cons (.var 0) .nil)) (.tup .nil))) (.cons (.ite (.not (.call "is_points" (.cons (.var 1) .nil))) (.cons (.raise "BadText") .nil) .nil) (.cons (.ret (.var 1)) .nil)))
def d_read_points (st : Stmt) : DefI := ⟨"read_points", ["text"], ["text", "found"], st, il_read_points⟩
def il_round_ladder : Ss := (.cons (.ret (.ite (.cmp .gt (.bf false .len (.cons (.var 0) .nil)) (.int 1)) (.call "begin_ladder" (.cons (.call "to_beginning" (.cons (.var 0) .nil)) .nil)) (.tup (.cons (.tup .nil) (.cons (.glo "ZERO") .nil))))) .nil)
def d_round_ladder (st : Stmt) : DefI := ⟨"round_ladder", ["row"], ["row"], st, il_round_ladder⟩
def il_round_of : Ss := (.cons (.ret (.call "to_round" (.cons (.bf false .tuple (.cons (.call "begins" (.cons (.call "quotient_of" (.cons (.var 0) .nil)) (.cons (.bin false .sub (.var 1) (.int 1)) .nil))) .nil)) .nil))) .nil)
def d_round_of (st : Stmt) : DefI := ⟨"round_of", ["ladder", "many"], ["ladder", "many"], st, il_round_of⟩
def il_round_paper : Ss := (.cons (.set 1 (.call "round_ladder" (.cons (.var 0) .nil))) (.cons (.ret (.ite (.cmp .isn (.var 1) .non) (.tup (.cons (.str "ladder") (.cons (.var 1) .nil))) (.tup (.cons (.str "row") (.cons (.call "negative_row" (.cons (.call "round_table" (.cons (.var 0) .nil)) .nil)) .nil))))) .nil))
def d_round_paper (st : Stmt) : DefI := ⟨"round_paper", ["row"], ["row", "found"], st, il_round_paper⟩
def il_round_point : Ss := (.cons (.set 2 (.call "plus" (.cons (.glo "ONE") (.cons (.call "times" (.cons (.var 0) (.cons (.var 0) .nil))) .nil)))) (.cons (.ret (.tup (.cons (.call "times" (.cons (.var 1) (.cons (.call "over" (.cons (.call "minus" (.cons (.glo "ONE") (.cons (.call "times" (.cons (.var 0) (.cons (.var 0) .nil))) .nil))) (.cons (.var 2) .nil))) .nil))) (.cons (.call "times" (.cons (.var 1) (.cons (.call "over" (.cons (.call "times" (.cons (.tup (.cons (.int 2) (.cons (.int 1) .nil))) (.cons (.var 0) .nil))) (.cons (.var 2) .nil))) .nil))) .nil)))) .nil))
def d_round_point (st : Stmt) : DefI := ⟨"round_point", ["u", "part"], ["u", "part", "size"], st, il_round_point⟩
def lp_round_products_0 : S := .loop .r1 (.bin false .sub (.bf false .len (.cons (.var 0) .nil)) (.var 3)) .nop .nop (.nm 5) (.cons (.set 4 (.call "plus" (.cons (.var 4) (.cons (.call "times" (.cons (.idx (.var 0) (.var 5)) (.cons (.idx (.var 0) (.bin false .add (.var 5) (.var 3))) .nil))) .nil)))) .nil)
def lp_round_products_1 : S := .loop .r1 (.var 1) .nop .nop (.nm 3) (.cons (.set 4 (.glo "ZERO")) (.cons lp_round_products_0 (.cons (.exp (.app (.var 2) (.var 4))) .nil)))
def il_round_products : Ss := (.cons (.set 2 (.lst true .nil)) (.cons lp_round_products_1 (.cons (.ret (.frz (.var 2))) .nil)))
def d_round_products (st : Stmt) : DefI := ⟨"round_products", ["one", "size"], ["one", "size", "found", "k", "total", "j"], st, il_round_products⟩
def cp_round_range_0 : E := .comp false .seq (.var 2) .nop .nop (.nm 4) (.bl true) (.idx (.call "to_round" (.cons (.bin false .add (.var 1) (.tup (.cons (.var 4) .nil))) .nil)) (.neg (.int 1)))
def il_round_range : Ss := (.cons (.ite (.cmp .iss (.call "round_ladder" (.cons (.var 0) .nil)) .non) (.cons (.raise "CannotBe") .nil) .nil) (.cons (.set 1 (.call "to_beginning" (.cons (.var 0) .nil))) (.cons (.set 2 (.ite (.cmp .gt (.bf false .len (.cons (.var 1) .nil)) (.int 0)) (.call "range_next" (.cons (.var 1) .nil)) (.tup (.cons (.tup (.cons (.neg (.int 1)) (.cons (.int 1) .nil))) (.cons (.glo "ONE") .nil))))) (.cons (.set 3 cp_round_range_0) (.cons (.ret (.tup (.cons (.idx (.var 3) (.int 0)) (.cons (.idx (.var 3) (.int 1)) .nil)))) .nil)))))
def d_round_range (st : Stmt) : DefI := ⟨"round_range", ["row"], ["row", "short", "ends", "more", "end"], st, il_round_range⟩
def cp_round_table_0 : E := .comp false .r1 (.var 1) .nop .nop (.nm 3) (.bl true) (.idx (.var 0) (.bf false .abs (.cons (.bin false .sub (.var 2) (.var 3)) .nil)))
def cp_round_table_1 : E := .comp false .r1 (.var 1) .nop .nop (.nm 2) (.bl true) (.bf false .tuple (.cons cp_round_table_0 .nil))
def il_round_table : Ss := (.cons (.set 1 (.bf false .len (.cons (.var 0) .nil))) (.cons (.ret (.bf false .tuple (.cons cp_round_table_1 .nil))) .nil))
def d_round_table (st : Stmt) : DefI := ⟨"round_table", ["row"], ["row", "size", "j", "k"], st, il_round_table⟩
def il_sign_at : Ss := (.cons (.set 2 (.idx (.call "poly_at" (.cons (.var 0) (.cons (.var 1) .nil))) (.int 0))) (.cons (.ret (.bin false .sub (.cmp .gt (.var 2) (.int 0)) (.cmp .lt (.var 2) (.int 0)))) .nil))
def d_sign_at (st : Stmt) : DefI := ⟨"sign_at", ["one", "x"], ["one", "x", "value"], st, il_sign_at⟩
def cp_slope_0 : E := .comp false .r2 (.int 1) (.bf false .len (.cons (.var 0) .nil)) .nop (.nm 1) (.bl true) (.call "times" (.cons (.tup (.cons (.var 1) (.cons (.int 1) .nil))) (.cons (.idx (.var 0) (.var 1)) .nil)))
def il_slope : Ss := (.cons (.ret (.call "trimmed" (.cons cp_slope_0 .nil))) .nil)
def d_slope (st : Stmt) : DefI := ⟨"slope", ["one"], ["one", "k"], st, il_slope⟩
def il_square_size : Ss := (.cons (.ret (.call "plus" (.cons (.call "times" (.cons (.idx (.var 0) (.int 0)) (.cons (.idx (.var 0) (.int 0)) .nil))) (.cons (.call "times" (.cons (.idx (.var 0) (.int 1)) (.cons (.idx (.var 0) (.int 1)) .nil))) .nil)))) .nil)
def d_square_size (st : Stmt) : DefI := ⟨"square_size", ["pair"], ["pair"], st, il_square_size⟩
def cp_stepped_0 : E := .comp false .seq (.var 0) .nop .nop (.tp [4, 5]) (.cmp .ne (.var 4) (.var 1)) (.tup (.cons (.var 4) (.cons (.call "over" (.cons (.call "lowered" (.cons (.var 2) (.cons (.var 5) .nil))) (.cons (.call "turn" (.cons (.var 1) (.cons (.var 4) .nil))) .nil))) .nil)))
def cp_stepped_1 : E := .comp false .seq (.var 3) .nop .nop (.tp [6, 5]) (.bl true) (.call "is_level" (.cons (.var 5) .nil))
def il_stepped : Ss := (.cons (.set 3 cp_stepped_0) (.cons (.ret (.ite (.bf false .all (.cons cp_stepped_1 .nil)) (.bf false .tuple (.cons (.var 3) .nil)) .non)) .nil))
def d_stepped (st : Stmt) : DefI := ⟨"stepped", ["points", "place", "level"], ["points", "place", "level", "rest", "other", "value", "_"], st, il_stepped⟩
def cp_stepped_row_0 : E := .comp false .seq (.slc false (.var 0) (.int 1) .nop) .nop .nop (.nm 7) (.bl true) (.call "minus" (.cons (.glo "ZERO") (.cons (.call "times" (.cons (.var 1) (.cons (.var 7) .nil))) .nil)))
def lp_stepped_row_1 : S := .loop .r2 (.int 1) (.var 4) .nop (.nm 6) (.cons (.set 5 (.call "minus" (.cons (.var 5) (.cons (.call "times" (.cons (.idx (.var 2) (.var 6)) (.cons (.idx (.var 3) (.bin false .sub (.bin false .sub (.var 4) (.var 6)) (.int 1))) .nil))) .nil)))) .nil)
def lp_stepped_row_2 : S := .loop .r2 (.int 1) (.bf false .len (.cons (.var 0) .nil)) .nop (.nm 4) (.cons (.set 5 (.idx (.var 0) (.var 4))) (.cons lp_stepped_row_1 (.cons (.exp (.app (.var 3) (.call "over" (.cons (.var 5) (.cons (.idx (.var 2) (.int 0)) .nil))))) .nil)))
def il_stepped_row : Ss := (.cons (.set 1 (.idx (.var 0) (.int 0))) (.cons (.set 2 (.bin false .add (.lst false (.cons (.call "minus" (.cons (.glo "ONE") (.cons (.call "times" (.cons (.var 1) (.cons (.idx (.var 0) (.int 0)) .nil))) .nil))) .nil)) cp_stepped_row_0)) (.cons (.set 3 (.lst true .nil)) (.cons lp_stepped_row_2 (.cons (.ret (.bf false .tuple (.cons (.var 3) .nil))) .nil)))))
def d_stepped_row (st : Stmt) : DefI := ⟨"stepped_row", ["row"], ["row", "level", "below", "found", "k", "here", "j", "item"], st, il_stepped_row⟩
def lp_sturm_0 : S := .whl (.cmp .gt (.bf false .len (.cons (.idx (.var 1) (.neg (.int 1))) .nil)) (.int 0)) (.cons (.exp (.app (.var 1) (.call "poly_scaled" (.cons (.idx (.call "poly_divided" (.cons (.idx (.var 1) (.neg (.int 2))) (.cons (.idx (.var 1) (.neg (.int 1))) .nil))) (.int 1)) (.cons (.tup (.cons (.neg (.int 1)) (.cons (.int 1) .nil))) .nil))))) .nil)
def il_sturm : Ss := (.cons (.set 1 (.lst true (.cons (.var 0) (.cons (.call "slope" (.cons (.var 0) .nil)) .nil)))) (.cons lp_sturm_0 (.cons (.ret (.slc false (.var 1) .nop (.neg (.int 1)))) .nil)))
def d_sturm (st : Stmt) : DefI := ⟨"sturm", ["one"], ["one", "rows"], st, il_sturm⟩
def lp_table_of_0 : S := .loop .seq (.var 0) .nop .nop (.tp [5, 6]) (.cons (.exp (.app (.var 4) (.call "over" (.cons (.call "minus" (.cons (.glo "ONE") (.cons (.call "times" (.cons (.var 3) (.cons (.var 6) .nil))) .nil))) (.cons (.call "minus" (.cons (.glo "ONE") (.cons (.call "times" (.cons (.var 2) (.cons (.var 5) .nil))) .nil))) .nil))))) .nil)
def lp_table_of_1 : S := .loop .seq (.var 0) .nop .nop (.tp [2, 3]) (.cons (.set 4 (.lst true .nil)) (.cons lp_table_of_0 (.cons (.exp (.app (.var 1) (.bf false .tuple (.cons (.var 4) .nil)))) .nil)))
def il_table_of : Ss := (.cons (.set 1 (.lst true .nil)) (.cons lp_table_of_1 (.cons (.ret (.bf false .tuple (.cons (.var 1) .nil))) .nil)))
def d_table_of (st : Stmt) : DefI := ⟨"table_of", ["points"], ["points", "found", "place", "level", "row", "other", "value"], st, il_table_of⟩
def il_times : Ss := (.cons (.ret (.call "fraction" (.cons (.bin false .mul (.idx (.var 0) (.int 0)) (.idx (.var 1) (.int 0))) (.cons (.bin false .mul (.idx (.var 0) (.int 1)) (.idx (.var 1) (.int 1))) .nil)))) .nil)
def d_times (st : Stmt) : DefI := ⟨"times", ["one", "two"], ["one", "two"], st, il_times⟩
def il_times_quotients : Ss := (.cons (.ret (.call "quotient" (.cons (.call "poly_times" (.cons (.idx (.var 0) (.int 0)) (.cons (.idx (.var 1) (.int 0)) .nil))) (.cons (.call "poly_times" (.cons (.idx (.var 0) (.int 1)) (.cons (.idx (.var 1) (.int 1)) .nil))) .nil)))) .nil)
def d_times_quotients (st : Stmt) : DefI := ⟨"times_quotients", ["one", "two"], ["one", "two"], st, il_times_quotients⟩
def lp_to_beginning_0 : S := .loop .r2 (.int 1) (.bin false .add (.var 2) (.int 1)) .nop (.nm 4) (.cons (.set 3 (.call "minus" (.cons (.var 3) (.cons (.call "times" (.cons (.idx (.var 0) (.var 4)) (.cons (.idx (.var 1) (.bin false .sub (.var 2) (.var 4))) .nil))) .nil)))) .nil)
def lp_to_beginning_1 : S := .loop .r1 (.bin false .sub (.bf false .len (.cons (.var 0) .nil)) (.int 1)) .nop .nop (.nm 2) (.cons (.set 3 (.idx (.var 0) (.bin false .add (.var 2) (.int 1)))) (.cons lp_to_beginning_0 (.cons (.exp (.app (.var 1) (.var 3))) .nil)))
def il_to_beginning : Ss := (.cons (.set 1 (.lst true .nil)) (.cons lp_to_beginning_1 (.cons (.ret (.bf false .tuple (.cons (.var 1) .nil))) .nil)))
def d_to_beginning (st : Stmt) : DefI := ⟨"to_beginning", ["row"], ["row", "found", "k", "here", "j"], st, il_to_beginning⟩
def lp_to_round_0 : S := .loop .r1 (.bin false .add (.var 2) (.int 1)) .nop .nop (.nm 4) (.cons (.set 3 (.call "plus" (.cons (.var 3) (.cons (.call "times" (.cons (.idx (.var 1) (.var 4)) (.cons (.idx (.var 0) (.bin false .sub (.var 2) (.var 4))) .nil))) .nil)))) .nil)
def lp_to_round_1 : S := .loop .r1 (.bf false .len (.cons (.var 0) .nil)) .nop .nop (.nm 2) (.cons (.set 3 (.glo "ZERO")) (.cons lp_to_round_0 (.cons (.exp (.app (.var 1) (.var 3))) .nil)))
def il_to_round : Ss := (.cons (.set 1 (.lst true (.cons (.glo "ONE") .nil))) (.cons lp_to_round_1 (.cons (.ret (.bf false .tuple (.cons (.var 1) .nil))) .nil)))
def d_to_round (st : Stmt) : DefI := ⟨"to_round", ["row"], ["row", "found", "k", "here", "j"], st, il_to_round⟩
def il_told_paper : Ss := (.cons (.set 1 (.call "ladder_of" (.cons (.var 0) .nil))) (.cons (.ret (.ite (.cmp .isn (.var 1) .non) (.tup (.cons (.str "ladder") (.cons (.var 1) .nil))) (.tup (.cons (.str "row") (.cons (.call "negative_row" (.cons (.call "table_of" (.cons (.var 0) .nil)) .nil)) .nil))))) .nil))
def d_told_paper (st : Stmt) : DefI := ⟨"told_paper", ["points"], ["points", "found"], st, il_told_paper⟩
def lp_trimmed_0 : S := .whl (.and (.cmp .gt (.var 1) (.int 0)) (.cmp .eq (.idx (.var 0) (.bin false .sub (.var 1) (.int 1))) (.glo "ZERO"))) (.cons (.aug 1 .sub (.int 1)) .nil)
def il_trimmed : Ss := (.cons (.set 1 (.bf false .len (.cons (.var 0) .nil))) (.cons lp_trimmed_0 (.cons (.ret (.bf false .tuple (.cons (.slc false (.var 0) .nop (.var 1)) .nil))) .nil)))
def d_trimmed (st : Stmt) : DefI := ⟨"trimmed", ["row"], ["row", "size"], st, il_trimmed⟩
def il_turn : Ss := (.cons (.ret (.call "over" (.cons (.call "minus" (.cons (.var 1) (.cons (.var 0) .nil))) (.cons (.call "minus" (.cons (.glo "ONE") (.cons (.call "times" (.cons (.var 0) (.cons (.var 1) .nil))) .nil))) .nil)))) .nil)
def d_turn (st : Stmt) : DefI := ⟨"turn", ["place", "x"], ["place", "x"], st, il_turn⟩
def il_turn_quotient : Ss := (.cons (.ret (.call "quotient" (.cons (.tup (.cons (.call "minus" (.cons (.glo "ZERO") (.cons (.var 0) .nil))) (.cons (.glo "ONE") .nil))) (.cons (.call "trimmed" (.cons (.tup (.cons (.glo "ONE") (.cons (.call "minus" (.cons (.glo "ZERO") (.cons (.var 0) .nil))) .nil))) .nil)) .nil)))) .nil)
def d_turn_quotient (st : Stmt) : DefI := ⟨"turn_quotient", ["place"], ["place"], st, il_turn_quotient⟩
def cp_turned_row_0 : E := .comp false .r1 (.bin false .add (.var 1) (.int 1)) .nop .nop (.nm 2) (.bl true) (.call "coefficient" (.cons (.var 0) (.cons (.bin false .sub (.var 1) (.var 2)) .nil)))
def il_turned_row : Ss := (.cons (.ret (.call "trimmed" (.cons cp_turned_row_0 .nil))) .nil)
def d_turned_row (st : Stmt) : DefI := ⟨"turned_row", ["one", "degree"], ["one", "degree", "k"], st, il_turned_row⟩
def il_value_of : Ss := (.cons (.set 2 (.call "poly_at" (.cons (.idx (.var 0) (.int 1)) (.cons (.var 1) .nil)))) (.cons (.ret (.ite (.cmp .eq (.var 2) (.glo "ZERO")) .non (.call "over" (.cons (.call "poly_at" (.cons (.idx (.var 0) (.int 0)) (.cons (.var 1) .nil))) (.cons (.var 2) .nil))))) .nil))
def d_value_of (st : Stmt) : DefI := ⟨"value_of", ["one", "x"], ["one", "x", "below"], st, il_value_of⟩
def lp_value_on_0 : S := .loop .seq (.rev false (.idx (.var 0) (.int 0))) .nop .nop (.tp [3, 4]) (.cons (.set 2 (.call "lifted" (.cons (.var 4) (.cons (.call "times" (.cons (.call "turn" (.cons (.var 3) (.cons (.var 1) .nil))) (.cons (.var 2) .nil))) .nil)))) .nil)
def il_value_on : Ss := (.cons (.set 2 (.idx (.var 0) (.int 1))) (.cons lp_value_on_0 (.cons (.ret (.var 2)) .nil)))
def d_value_on (st : Stmt) : DefI := ⟨"value_on", ["ladder", "x"], ["ladder", "x", "found", "place", "level"], st, il_value_on⟩
def cp_value_table_0 : E := .comp false .seq (.var 0) .nop .nop (.tp [5, 6]) (.bl true) (.call "over" (.cons (.call "minus" (.cons (.glo "ONE") (.cons (.call "times" (.cons (.var 3) (.cons (.var 6) .nil))) .nil))) (.cons (.call "minus" (.cons (.glo "ONE") (.cons (.call "times" (.cons (.var 2) (.cons (.var 5) .nil))) .nil))) .nil)))
def lp_value_table_1 : S := .loop .seq (.var 0) .nop .nop (.tp [2, 3]) (.cons (.set 4 cp_value_table_0) (.cons (.exp (.app (.var 1) (.bf false .tuple (.cons (.var 4) .nil)))) .nil))
def il_value_table : Ss := (.cons (.set 1 (.lst true .nil)) (.cons lp_value_table_1 (.cons (.ret (.bf false .tuple (.cons (.var 1) .nil))) .nil)))
def d_value_table (st : Stmt) : DefI := ⟨"value_table", ["rows"], ["rows", "found", "place", "value", "line", "one", "two"], st, il_value_table⟩
def cp_with_point_0 : E := .comp false .seq (.var 0) .nop .nop (.nm 4) (.call "less" (.cons (.idx (.var 4) (.int 0)) (.cons (.var 1) .nil))) (.var 4)
def cp_with_point_1 : E := .comp false .seq (.var 0) .nop .nop (.nm 4) (.call "less" (.cons (.var 1) (.cons (.idx (.var 4) (.int 0)) .nil))) (.var 4)
def il_with_point : Ss := (.cons (.set 3 cp_with_point_0) (.cons (.ret (.bin false .add (.bin false .add (.bf false .tuple (.cons (.var 3) .nil)) (.tup (.cons (.tup (.cons (.var 1) (.cons (.var 2) .nil))) .nil))) (.bf false .tuple (.cons cp_with_point_1 .nil)))) .nil))
def d_with_point (st : Stmt) : DefI := ⟨"with_point", ["points", "place", "level"], ["points", "place", "level", "low", "row"], st, il_with_point⟩
def il_within_paper : Ss := (.cons (.ret (.ite (.call "is_within" (.cons (.var 0) .nil)) (.tup (.cons (.str "within") .nil)) (.tup (.cons (.str "over") (.cons (.call "bar_of" (.cons (.var 0) .nil)) .nil))))) .nil)
def d_within_paper (st : Stmt) : DefI := ⟨"within_paper", ["one"], ["one"], st, il_within_paper⟩
def lp_worth_0 : S := .loop .r1 (.bf false .len (.cons (.var 1) .nil)) .nop .nop (.nm 4) (.cons (.set 2 (.call "plus" (.cons (.var 2) (.cons (.call "times" (.cons (.call "times" (.cons (.idx (.var 1) (.var 3)) (.cons (.idx (.var 1) (.var 4)) .nil))) (.cons (.idx (.idx (.var 0) (.var 3)) (.var 4)) .nil))) .nil)))) .nil)
def lp_worth_1 : S := .loop .r1 (.bf false .len (.cons (.var 1) .nil)) .nop .nop (.nm 3) (.cons lp_worth_0 .nil)
def il_worth : Ss := (.cons (.set 2 (.glo "ZERO")) (.cons lp_worth_1 (.cons (.ret (.var 2)) .nil)))
def d_worth (st : Stmt) : DefI := ⟨"worth", ["table", "row"], ["table", "row", "total", "j", "k"], st, il_worth⟩
def il_write_fraction : Ss := (.cons (.ret (.ite (.cmp .eq (.idx (.var 0) (.int 1)) (.int 1)) (.bf false .str (.cons (.idx (.var 0) (.int 0)) .nil)) (.bin false .add (.bin false .add (.bf false .str (.cons (.idx (.var 0) (.int 0)) .nil)) (.str "/")) (.bf false .str (.cons (.idx (.var 0) (.int 1)) .nil))))) .nil)
def d_write_fraction (st : Stmt) : DefI := ⟨"write_fraction", ["one"], ["one"], st, il_write_fraction⟩
def lp_write_poly_0 : S := .loop .r3 (.bin false .sub (.bf false .len (.cons (.var 0) .nil)) (.int 1)) (.neg (.int 1)) (.neg (.int 1)) (.nm 2) (.cons (.set 3 (.idx (.var 0) (.var 2))) (.cons (.ite (.cmp .ne (.var 3) (.glo "ZERO")) (.cons (.set 4 (.tup (.cons (.bf false .abs (.cons (.idx (.var 3) (.int 0)) .nil)) (.cons (.idx (.var 3) (.int 1)) .nil)))) (.cons (.set 5 (.ite (.cmp .eq (.var 1) (.str "")) (.ite (.cmp .lt (.idx (.var 3) (.int 0)) (.int 0)) (.str "-") (.str "")) (.ite (.cmp .lt (.idx (.var 3) (.int 0)) (.int 0)) (.str " - ") (.str " + ")))) (.cons (.aug 1 .add (.bin false .add (.var 5) (.call "part_text" (.cons (.var 4) (.cons (.var 2) .nil))))) .nil))) .nil) .nil))
def il_write_poly : Ss := (.cons (.set 1 (.str "")) (.cons lp_write_poly_0 (.cons (.ret (.ite (.cmp .ne (.var 1) (.str "")) (.var 1) (.str "0"))) .nil)))
def d_write_poly (st : Stmt) : DefI := ⟨"write_poly", ["one"], ["one", "found", "k", "number", "size", "sign"], st, il_write_poly⟩
def il_write_quotient : Ss := (.cons (.ret (.bin false .add (.bin false .add (.bin false .add (.bin false .add (.str "(") (.call "write_poly" (.cons (.idx (.var 0) (.int 0)) .nil))) (.str ")/(")) (.call "write_poly" (.cons (.idx (.var 0) (.int 1)) .nil))) (.str ")"))) .nil)
def d_write_quotient (st : Stmt) : DefI := ⟨"write_quotient", ["one"], ["one"], st, il_write_quotient⟩
end IL

namespace IL
open PySem L2
def cp_law_0 : E := .comp false .seq (.call "_law_places" (.cons (.var 1) (.cons (.int 3) .nil))) .nop .nop (.nm 13) (.bl true) (.tup (.cons (.var 13) (.cons (.call "_law_f" (.cons (.bin false .sub (.call "_law_draw" (.cons (.var 1) (.cons (.int 9) .nil))) (.int 4)) (.cons (.bin false .add (.int 1) (.call "_law_draw" (.cons (.var 1) (.cons (.int 2) .nil)))) .nil))) .nil)))
def lp_law_1 : S := .loop .r1 (.bf false .len (.cons (.var 2) .nil)) .nop .nop (.nm 4) (.cons (.ite (.cmp .gt (.call "least_bound" (.cons (.bin false .add (.slc false (.var 2) .nop (.var 4)) (.slc false (.var 2) (.bin false .add (.var 4) (.int 1)) .nop)) (.cons (.var 11) .nil))) (.var 3)) (.cons (.ret (.bl false)) .nil) .nil) .nil)
def cp_law_2 : E := .comp false .seq (.var 2) .nop .nop (.tp [13, 14]) (.bl true) (.tup (.cons (.var 13) (.cons (.call "_law_sub" (.cons (.tup (.cons (.int 0) (.cons (.int 1) .nil))) (.cons (.var 14) .nil))) .nil)))
def cp_law_3 : E := .comp false .seq (.var 2) .nop .nop (.tp [13, 14]) (.bl true) (.tup (.cons (.var 13) (.cons (.call "_law_mul" (.cons (.tup (.cons (.var 12) (.cons (.int 1) .nil))) (.cons (.var 14) .nil))) .nil)))
def lp_law_4 : S := .whl (.cmp .lt (.bin false .mul (.var 15) (.idx (.var 14) (.int 1))) (.bin false .mul (.bf false .abs (.cons (.idx (.var 14) (.int 0)) .nil)) (.var 11))) (.cons (.set 15 (.bin false .add (.var 15) (.int 1))) .nil)
def lp_law_5 : S := .loop .seq (.var 2) .nop .nop (.tp [13, 14]) (.cons (.set 15 (.int 0)) (.cons lp_law_4 (.cons (.set 7 (.bf false .max (.cons (.var 7) (.cons (.var 15) .nil)))) (.cons (.ite (.cmp .ne (.call "least_bound" (.cons (.tup (.cons (.tup (.cons (.var 13) (.cons (.var 14) .nil))) .nil)) (.cons (.var 11) .nil))) (.var 15)) (.cons (.ret (.bl false)) .nil) .nil) .nil))))
def cp_law_6 : E := .comp false .seq (.call "_law_places" (.cons (.var 1) (.cons (.int 3) .nil))) .nop .nop (.nm 13) (.bl true) (.tup (.cons (.var 13) (.cons (.call "value_on" (.cons (.var 8) (.cons (.var 13) .nil))) .nil)))
def ss_law_16 : Ss := .cons (.ret (.cmp .eq (.cmp .le (.call "least_bound" (.cons (.var 10) (.cons (.var 11) .nil))) (.var 11)) (.call "can_be_told" (.cons (.var 10) .nil)))) .nil
def ss_law_15 : Ss := .cons (.set 10 (.call "_law_points" (.cons (.var 1) (.cons (.int 3) .nil)))) ss_law_16
def ss_law_14 : Ss := .cons (.ite (.or (.cmp .gt (.call "least_bound" (.cons (.var 9) (.cons (.var 11) .nil))) (.var 11)) (.cmp .isn (.call "can_be_told" (.cons (.var 9) .nil)) (.bl true))) (.cons (.ret (.bl false)) .nil) .nil) ss_law_15
def ss_law_13 : Ss := .cons (.set 9 (.bf false .tuple (.cons cp_law_6 .nil))) ss_law_14
def ss_law_12 : Ss := .cons (.set 8 (.call "_law_ladder" (.cons (.var 1) (.cons (.int 3) .nil)))) ss_law_13
def ss_law_11 : Ss := .cons (.ite (.cmp .lt (.var 3) (.var 7)) (.cons (.ret (.bl false)) .nil) .nil) ss_law_12
def ss_law_10 : Ss := .cons lp_law_5 ss_law_11
def ss_law_9 : Ss := .cons (.set 7 (.int 0)) ss_law_10
def ss_law_8 : Ss := .cons (.ite (.or (.and (.not (.chn .lt .le (.bin false .mul (.var 12) (.bin false .sub (.var 3) (.int 1))) (.var 5) (.bin false .mul (.var 12) (.var 3)))) (.cmp .gt (.var 3) (.int 0))) (.or (.and (.cmp .eq (.var 3) (.int 0)) (.cmp .ne (.var 5) (.int 0))) (.cmp .ne (.var 6) (.var 5)))) (.cons (.ret (.bl false)) .nil) .nil) ss_law_9
def ss_law_7 : Ss := .cons (.set 6 (.call "least_bound" (.cons (.var 2) (.cons (.bin false .mul (.var 12) (.var 11)) .nil)))) ss_law_8
def ss_law_6 : Ss := .cons (.set 5 (.call "least_bound" (.cons (.bf false .tuple (.cons cp_law_3 .nil)) (.cons (.var 11) .nil)))) ss_law_7
def ss_law_5 : Ss := .cons (.ite (.cmp .ne (.call "least_bound" (.cons (.bf false .tuple (.cons cp_law_2 .nil)) (.cons (.var 11) .nil))) (.var 3)) (.cons (.ret (.bl false)) .nil) .nil) ss_law_6
def ss_law_4 : Ss := .cons lp_law_1 ss_law_5
def ss_law_3 : Ss := .cons (.set 3 (.call "least_bound" (.cons (.var 2) (.cons (.var 11) .nil)))) ss_law_4
def ss_law_2 : Ss := .cons (.par [11, 12] (.cons (.bin false .add (.int 1) (.call "_law_draw" (.cons (.var 1) (.cons (.int 3) .nil)))) (.cons (.bin false .add (.int 1) (.call "_law_draw" (.cons (.var 1) (.cons (.int 3) .nil)))) .nil))) ss_law_3
def ss_law_1 : Ss := .cons (.set 2 (.bf false .tuple (.cons cp_law_0 .nil))) ss_law_2
def il_law : Ss := .cons (.set 1 (.call "_law_pool" (.cons (.var 0) .nil))) ss_law_1
def d_law (st : Stmt) : DefI := ⟨"law", ["script"], ["script", "pool", "rows", "bound", "k", "great", "fine", "most", "ladder", "points", "drawn", "size", "m", "place", "number", "least"], st, il_law⟩
end IL

/-! how the small language runs: rules for simp -/
namespace IL
open PySem L2
section
variable {α : Type} {μ : Store} {Q : DQ} {own : Bool}
theorem g0 {a : α} {l : List α} : (a :: l)[0]? = some a := rfl
theorem g1 {a : α} {l : List α} {n : Nat} : (a :: l)[n + 1]? = l[n]? := rfl
theorem s0 {a b : α} {l : List α} : (a :: l).set 0 b = b :: l := rfl
theorem s1 {a b : α} {l : List α} {n : Nat} : (a :: l).set (n + 1) b = a :: l.set n b := rfl
theorem ex2 {β : Type} {a' : α} {p : α → β → Prop} : (∃ a b, a' = a ∧ p a b) ↔ ∃ b, p a' b := ⟨fun ⟨_, b, rfl, h⟩ => ⟨b, h⟩, fun ⟨b, h⟩ => ⟨_, b, rfl, h⟩⟩
theorem ex3 {β γ : Type} {a' : α} {p : α → β → γ → Prop} : (∃ a b c, a' = a ∧ p a b c) ↔ ∃ b c, p a' b c := ⟨fun ⟨_, b, c, rfl, h⟩ => ⟨b, c, h⟩, fun ⟨b, c, h⟩ => ⟨_, b, c, rfl, h⟩⟩
theorem pWn {e : WE} {ρ : Env} {Q : Option Int → Store → Prop} {X : XQ} : pW true e ρ μ Q X = Q none μ := rfl
theorem pWs {e : WE} {ρ : Env} {Q : Option Int → Store → Prop} {X : XQ} : pW false e ρ μ Q X = e ρ μ (fun d μ1 => ∃ i, d = .int i ∧ Q (some i) μ1) X := rfl
theorem bopS_add {i j : Int} : bopS own .add (.int i) (.int j) μ Q = Q (.int (i + j)) μ := rfl
theorem bopS_sub {i j : Int} : bopS own .sub (.int i) (.int j) μ Q = Q (.int (i - j)) μ := rfl
theorem bopS_mul {i j : Int} : bopS own .mul (.int i) (.int j) μ Q = (mulOk i j ∧ Q (.int (i * j)) μ) := rfl
theorem bopS_fdiv {i j : Int} : bopS own .fdiv (.int i) (.int j) μ Q = (divOk i j ∧ Q (.int (i.fdiv j)) μ) := rfl
theorem bopS_mod {i j : Int} : bopS own .mod (.int i) (.int j) μ Q = (j ≠ 0 ∧ Q (.int (i.fmod j)) μ) := rfl
theorem bopS_addt {xs ys : List D} : bopS own .add (.tup xs) (.tup ys) μ Q = (xs.length + ys.length ≤ sizeLine ∧ Q (.tup (xs ++ ys)) μ) := rfl
theorem copS_lt {i j : Int} : copS .lt (.int i) (.int j) μ Q ↔ Q (.bl (decide (i < j))) μ := ⟨fun ⟨_, _, h1, h2, h⟩ => by cases h1; cases h2; exact h, fun h => ⟨_, _, rfl, rfl, h⟩⟩
theorem copS_le {i j : Int} : copS .le (.int i) (.int j) μ Q ↔ Q (.bl (decide (i ≤ j))) μ := ⟨fun ⟨_, _, h1, h2, h⟩ => by cases h1; cases h2; exact h, fun h => ⟨_, _, rfl, rfl, h⟩⟩
theorem copS_gt {i j : Int} : copS .gt (.int i) (.int j) μ Q ↔ Q (.bl (decide (j < i))) μ := ⟨fun ⟨_, _, h1, h2, h⟩ => by cases h1; cases h2; exact h, fun h => ⟨_, _, rfl, rfl, h⟩⟩
theorem copS_ge {i j : Int} : copS .ge (.int i) (.int j) μ Q ↔ Q (.bl (decide (j ≤ i))) μ := ⟨fun ⟨_, _, h1, h2, h⟩ => by cases h1; cases h2; exact h, fun h => ⟨_, _, rfl, rfl, h⟩⟩
theorem ok_int {i : Int} : (D.int i).ok := ⟨by simp only [D.lay], by simp only [D.dep]; exact Nat.zero_le _⟩
theorem copS_eqi {i j : Int} : copS .eq (.int i) (.int j) μ Q ↔ Q (.bl (i == j)) μ := ⟨fun ⟨_, _, h1, h2, _, _, h⟩ => by cases h1; cases h2; simpa only [D.eqv] using h, fun h => ⟨_, _, rfl, rfl, ok_int, ok_int, by simpa only [D.eqv] using h⟩⟩
theorem copS_nei {i j : Int} : copS .ne (.int i) (.int j) μ Q ↔ Q (.bl (!(i == j))) μ := ⟨fun ⟨_, _, h1, h2, _, _, h⟩ => by cases h1; cases h2; simpa only [D.eqv] using h, fun h => ⟨_, _, rfl, rfl, ok_int, ok_int, by simpa only [D.eqv] using h⟩⟩
theorem copS_isN {x : D} : copS .iss x .non μ Q ↔ Q (.bl x.nonB) μ := ⟨fun h => h.elim (fun h => h.2) (fun ⟨_, _, _, h, _⟩ => (by cases h)), fun h => .inl ⟨rfl, h⟩⟩
theorem copS_isnN {x : D} : copS .isn x .non μ Q ↔ Q (.bl (!x.nonB)) μ := ⟨fun h => h.elim (fun h => h.2) (fun ⟨_, _, _, h, _⟩ => (by cases h)), fun h => .inl ⟨rfl, h⟩⟩
theorem bfS_lent {l : List D} : bfS own .len [.tup l] μ Q ↔ Q (.int l.length) μ := ⟨fun ⟨_, h1, h⟩ => by cases h1; exact h, fun h => ⟨_, rfl, h⟩⟩
theorem bfS_abs {i : Int} : bfS own .abs [.int i] μ Q ↔ Q (.int (if i < 0 then -i else i)) μ := .rfl
theorem bfS_max {i j : Int} : bfS own .max [.int i, .int j] μ Q ↔ Q (.int (if j > i then j else i)) μ := .rfl
theorem bfS_min {i j : Int} : bfS own .min [.int i, .int j] μ Q ↔ Q (.int (if j < i then j else i)) μ := .rfl
theorem bfS_int {i : Int} : bfS own .int [.int i] μ Q ↔ Q (.int i) μ := .rfl
theorem idxS_t {l : List D} {i : Int} : idxS (.tup l) (.int i) μ Q ↔ ∃ d, some d = atI l i ∧ Q d μ := ⟨fun ⟨_, _, d, h1, h2, h3, h⟩ => by cases h1; cases h2; exact ⟨d, h3.symm, h⟩, fun ⟨d, h1, h⟩ => ⟨_, _, d, rfl, rfl, h1.symm, h⟩⟩
theorem at2_0 {a b : D} : atI [a, b] 0 = some a := rfl
theorem at2_1 {a b : D} : atI [a, b] 1 = some b := rfl
theorem isi_int {t : Ty} {i : Int} : isiS t (.int i) μ Q ↔ Q (.bl (decide (t = .int))) μ := ⟨fun ⟨u, h1, h⟩ => by cases h1; cases t <;> exact h, fun h => ⟨_, rfl, by cases t <;> exact h⟩⟩
theorem isi_bl {t : Ty} {i : Bool} : isiS t (.bl i) μ Q ↔ Q (.bl (decide (t = .bool ∨ t = .int))) μ := ⟨fun ⟨u, h1, h⟩ => by cases h1; cases t <;> exact h, fun h => ⟨_, rfl, by cases t <;> exact h⟩⟩
theorem isi_non {t : Ty} : isiS t .non μ Q ↔ Q (.bl false) μ := .rfl
theorem isi_str {t : Ty} {i : Str} : isiS t (.str i) μ Q ↔ Q (.bl (decide (t = .str))) μ := ⟨fun ⟨u, h1, h⟩ => by cases h1; cases t <;> exact h, fun h => ⟨_, rfl, by cases t <;> exact h⟩⟩
theorem isi_tup {t : Ty} {i : List D} : isiS t (.tup i) μ Q ↔ Q (.bl (decide (t = .tuple))) μ := ⟨fun ⟨u, h1, h⟩ => by cases h1; cases t <;> exact h, fun h => ⟨_, rfl, by cases t <;> exact h⟩⟩
theorem isi_lst {t : Ty} {i : List D} : isiS t (.lst i) μ Q ↔ Q (.bl (decide (t = .list))) μ := ⟨fun ⟨u, h1, h⟩ => by cases h1; cases t <;> exact h, fun h => ⟨_, rfl, by cases t <;> exact h⟩⟩
theorem setiR {n : Nat} {i : Int} {p : Nat → List D → Int → Nat → Prop} : (∃ n' l k j, n = n' ∧ i = k ∧ μ[n']? = some (.lst l) ∧ ixN l.length k = some j ∧ p n' l k j) ↔ ∃ l, μ[n]? = some (.lst l) ∧ ∃ j, ixN l.length i = some j ∧ p n l i j :=
  ⟨fun ⟨_, l, _, j, e1, e2, h1, h2, h⟩ => by cases e1; cases e2; exact ⟨l, h1, j, h2, h⟩, fun ⟨l, h1, j, h2, h⟩ => ⟨n, l, i, j, rfl, rfl, h1, h2, h⟩⟩
theorem idxS_r {l : List D} {n : Nat} {i : Int} (hm : μ[n]? = some (.lst l)) : idxS (.ref n) (.int i) μ Q ↔ ∃ d, some d = atI l i ∧ Q d μ :=
  ⟨fun ⟨_, _, d, h1, h2, h3, h⟩ => by
    have h1 : (match μ[n]? with | some (.lst l) => some l | _ => none) = some _ := h1
    rw [hm] at h1
    cases h1; cases h2; exact ⟨d, h3.symm, h⟩, fun ⟨d, h1, h⟩ => ⟨l, i, d, by show (match μ[n]? with | some (.lst l) => some l | _ => none) = some _; rw [hm], rfl, h1.symm, h⟩⟩
theorem idxS_l {l : List D} {i : Int} : idxS (.lst l) (.int i) μ Q ↔ ∃ d, some d = atI l i ∧ Q d μ := ⟨fun ⟨_, _, d, h1, h2, h3, h⟩ => by cases h1; cases h2; exact ⟨d, h3.symm, h⟩, fun ⟨d, h1, h⟩ => ⟨_, _, d, rfl, rfl, h1.symm, h⟩⟩
theorem bfS_lenl {l : List D} : bfS own .len [.lst l] μ Q ↔ Q (.int l.length) μ := ⟨fun ⟨_, h1, h⟩ => by cases h1; exact h, fun h => ⟨_, rfl, h⟩⟩
theorem bfS_lists {l : List Int} : bfS own .list [.scr l] μ Q ↔ newL own (l.map D.int) μ Q := ⟨fun ⟨_, h1, h⟩ => by cases h1; exact h, fun h => ⟨_, rfl, h⟩⟩
theorem bfS_listt {l : List D} : bfS own .list [.tup l] μ Q ↔ newL own l μ Q := ⟨fun ⟨_, h1, h⟩ => by cases h1; exact h, fun h => ⟨_, rfl, h⟩⟩
theorem slcS_t {l : List D} {lo hi : Option Int} : slcS own (.tup l) lo hi μ Q ↔ Q (.tup (cut l lo hi)) μ := .rfl
theorem slcS_l {l : List D} {lo hi : Option Int} : slcS own (.lst l) lo hi μ Q ↔ newL own (cut l lo hi) μ Q := ⟨fun ⟨_, h1, h⟩ => by cases h1; exact h, fun h => ⟨_, rfl, h⟩⟩
theorem slcS_s {l : List Int} {lo hi : Option Int} : slcS own (.scr l) lo hi μ Q ↔ newL own (cut (l.map D.int) lo hi) μ Q := ⟨fun ⟨_, h1, h⟩ => by cases h1; exact h, fun h => ⟨_, rfl, h⟩⟩
theorem newL_f {l : List D} : newL false l μ Q ↔ l.length ≤ sizeLine ∧ Q (.lst l) μ := .rfl
theorem newL_t {l : List D} : newL true l μ Q ↔ l.length ≤ sizeLine ∧ Q (.ref μ.length) (μ ++ [.lst l]) := .rfl
theorem at5_0 {a b c d e : D} : atI [a, b, c, d, e] 0 = some a := rfl
theorem at5_1 {a b c d e : D} : atI [a, b, c, d, e] 1 = some b := rfl
theorem at5_2 {a b c d e : D} : atI [a, b, c, d, e] 2 = some c := rfl
theorem at5_3 {a b c d e : D} : atI [a, b, c, d, e] 3 = some d := rfl
theorem at5_4 {a b c d e : D} : atI [a, b, c, d, e] 4 = some e := rfl
theorem ix5_1 {a b c d e : D} : ixN [a, b, c, d, e].length 1 = some 1 := rfl
theorem ix5_2 {a b c d e : D} : ixN [a, b, c, d, e].length 2 = some 2 := rfl
theorem ix5_3 {a b c d e : D} : ixN [a, b, c, d, e].length 3 = some 3 := rfl
theorem copS_neb {i j : Bool} : copS .ne (.bl i) (.bl j) μ Q ↔ Q (.bl (!(i == j))) μ := ⟨fun ⟨_, _, h1, h2, _, _, h⟩ => by cases h1; cases h2; simpa only [D.eqv] using h, fun h => ⟨_, _, rfl, rfl, ⟨by simp only [D.lay], by simp [D.dep]⟩, ⟨by simp only [D.lay], by simp [D.dep]⟩, by simpa only [D.eqv] using h⟩⟩
theorem copS_eqb {i j : Bool} : copS .eq (.bl i) (.bl j) μ Q ↔ Q (.bl (i == j)) μ := ⟨fun ⟨_, _, h1, h2, _, _, h⟩ => by cases h1; cases h2; simpa only [D.eqv] using h, fun h => ⟨_, _, rfl, rfl, ⟨by simp only [D.lay], by simp [D.dep]⟩, ⟨by simp only [D.lay], by simp [D.dep]⟩, by simpa only [D.eqv] using h⟩⟩
theorem copS_isB {i j : Bool} : copS .iss (.bl i) (.bl j) μ Q ↔ Q (.bl (i == j)) μ := ⟨fun h => h.elim (fun h => (by cases h.1)) (fun ⟨_, _, h1, h2, h⟩ => (by cases h1; cases h2; exact h)), fun h => .inr ⟨_, _, rfl, rfl, h⟩⟩
theorem tree_lay {d : D} (h : d.lay = true) : tree μ d = some d := by cases d <;> first | rfl | (simp [D.lay] at h; done)
/-- trees are compared as they stand -/
theorem copS_eqd {x y : D} (hx : x.ok) (hy : y.ok) (h : Q (.bl (D.eqv x y)) μ) : copS .eq x y μ Q := ⟨x, y, tree_lay hx.1, tree_lay hy.1, hx, hy, h⟩
theorem copS_ned {x y : D} (hx : x.ok) (hy : y.ok) (h : Q (.bl (!D.eqv x y)) μ) : copS .ne x y μ Q := ⟨x, y, tree_lay hx.1, tree_lay hy.1, hx, hy, h⟩
end
end IL

/-! fractions: how long their numbers are -/
namespace IL
open PySem L2
def bz (q : Rat) : Nat := max (q.num.natAbs.log2 + 1) (q.den.log2 + 1)
theorem log2_le {n k : Nat} (hk : 1 ≤ k) : n.log2 + 1 ≤ k ↔ n < 2 ^ k := by
  by_cases h : n = 0
  · subst h
    rw [Nat.log2_zero]
    exact ⟨fun _ => Nat.two_pow_pos k, fun _ => hk⟩
  · rw [← Nat.log2_lt h]; omega
theorem bz_le {q : Rat} {k : Nat} (hk : 1 ≤ k) : bz q ≤ k ↔ q.num.natAbs < 2 ^ k ∧ q.den < 2 ^ k := by
  unfold bz
  rw [← log2_le hk, ← log2_le hk]; omega
theorem bz_pos (q : Rat) : 1 ≤ bz q := by unfold bz; omega
theorem bz_num (q : Rat) : q.num.natAbs < 2 ^ bz q := ((bz_le (bz_pos q)).mp (Nat.le_refl _)).1
theorem bz_den (q : Rat) : q.den < 2 ^ bz q := ((bz_le (bz_pos q)).mp (Nat.le_refl _)).2
theorem gcd_pos_r {p q : Int} (hq : q ≠ 0) : 0 < Int.gcd p q := Int.gcd_pos_of_ne_zero_right _ hq
theorem di_num {p q : Int} : (Rat.divInt p q).num.natAbs ≤ p.natAbs := by
  rw [Rat.num_divInt]
  refine Nat.le_trans (Int.natAbs_ediv_le_natAbs _ _) ?_
  rw [Int.natAbs_mul]
  have : q.sign.natAbs ≤ 1 := by
    rw [Int.natAbs_sign]; split <;> omega
  calc q.sign.natAbs * p.natAbs ≤ 1 * p.natAbs := Nat.mul_le_mul_right _ this
    _ = p.natAbs := Nat.one_mul _
theorem di_den {p q : Int} (hq : q ≠ 0) : (Rat.divInt p q).den ≤ q.natAbs := by
  rw [Rat.den_divInt, if_neg hq]
  exact Nat.div_le_self _ _
theorem bz_di {p q : Int} {k : Nat} (hk : 1 ≤ k) (hq : q ≠ 0) (h1 : p.natAbs < 2 ^ k) (h2 : q.natAbs < 2 ^ k) : bz (Rat.divInt p q) ≤ k :=
  (bz_le hk).mpr ⟨Nat.lt_of_le_of_lt di_num h1, Nat.lt_of_le_of_lt (di_den hq) h2⟩
theorem add_di (a b : Rat) : Rat.divInt (a.num * b.den + b.num * a.den) (a.den * b.den) = a + b := by
  rw [Rat.add_def', ← Rat.divInt_ofNat]; simp
theorem sub_di (a b : Rat) : Rat.divInt (a.num * b.den - b.num * a.den) (a.den * b.den) = a - b := by
  rw [Rat.sub_def', ← Rat.divInt_ofNat]; simp
theorem mul_di (a b : Rat) : Rat.divInt (a.num * b.num) (a.den * b.den) = a * b := by
  rw [Rat.mul_def', ← Rat.divInt_ofNat]; simp
theorem div_di (a b : Rat) : Rat.divInt (a.num * b.den) (a.den * b.num) = a / b := by
  rw [Rat.div_def, Rat.inv_def]
  conv => rhs; rw [← Rat.num_divInt_den a]
  rw [Rat.divInt_mul_divInt]
theorem den_ne (a : Rat) : (a.den : Int) ≠ 0 := by have := a.den_pos; omega
theorem num_ne {a : Rat} (h : a ≠ 0) : a.num ≠ 0 := fun e => h (Rat.num_eq_zero.mp e)
theorem pow_mul_lt {x y n m : Nat} (h1 : x < 2 ^ n) (h2 : y < 2 ^ m) : x * y < 2 ^ (n + m) := by
  rw [Nat.pow_add]
  exact Nat.mul_lt_mul'' h1 h2
theorem nd_lt (a b : Rat) : (a.num * b.den).natAbs < 2 ^ (bz a + bz b) := by
  rw [Int.natAbs_mul]; exact pow_mul_lt (bz_num a) (by simpa using bz_den b)
theorem nn_lt (a b : Rat) : (a.num * b.num).natAbs < 2 ^ (bz a + bz b) := by
  rw [Int.natAbs_mul]; exact pow_mul_lt (bz_num a) (bz_num b)
theorem dd_lt (a b : Rat) : ((a.den : Int) * b.den).natAbs < 2 ^ (bz a + bz b) := by
  rw [Int.natAbs_mul]; exact pow_mul_lt (by simpa using bz_den a) (by simpa using bz_den b)
theorem dn_lt (a b : Rat) : ((a.den : Int) * b.num).natAbs < 2 ^ (bz a + bz b) := by
  rw [Int.natAbs_mul]; exact pow_mul_lt (by simpa using bz_den a) (bz_num b)
theorem dd_ne (a b : Rat) : (a.den : Int) * b.den ≠ 0 := Int.mul_ne_zero (den_ne a) (den_ne b)
theorem bz_add (a b : Rat) : bz (a + b) ≤ bz a + bz b + 1 := by
  rw [← add_di]
  have h1 := nd_lt a b
  have h2 := nd_lt b a
  have h3 := dd_lt a b
  rw [Nat.add_comm (bz b)] at h2
  have e : 2 ^ (bz a + bz b + 1) = 2 * 2 ^ (bz a + bz b) := by rw [Nat.pow_succ, Nat.mul_comm]
  exact bz_di (by omega) (dd_ne a b) (by omega) (by omega)
theorem bz_sub (a b : Rat) : bz (a - b) ≤ bz a + bz b + 1 := by
  rw [← sub_di]
  have h1 := nd_lt a b
  have h2 := nd_lt b a
  have h3 := dd_lt a b
  rw [Nat.add_comm (bz b)] at h2
  have e : 2 ^ (bz a + bz b + 1) = 2 * 2 ^ (bz a + bz b) := by rw [Nat.pow_succ, Nat.mul_comm]
  exact bz_di (by omega) (dd_ne a b) (by omega) (by omega)
theorem bz_mul (a b : Rat) : bz (a * b) ≤ bz a + bz b := by
  rw [← mul_di]
  exact bz_di (by have := bz_pos a; omega) (dd_ne a b) (nn_lt a b) (dd_lt a b)
theorem bz_div (a b : Rat) : bz (a / b) ≤ bz a + bz b := by
  by_cases h : b = 0
  · subst h
    rw [Rat.div_def, Rat.inv_zero, Rat.mul_zero]
    have : bz 0 = 1 := by decide
    have := bz_pos a
    omega
  · rw [← div_di]
    exact bz_di (by have := bz_pos a; omega) (Int.mul_ne_zero (den_ne a) (num_ne h)) (nd_lt a b) (dn_lt a b)
theorem bz_neg (a : Rat) : bz (-a) = bz a := by unfold bz; simp
theorem bz_int (i : Int) : bz (i : Rat) = i.natAbs.log2 + 1 := by
  have : Nat.log2 1 = 0 := by decide
  unfold bz; simp; omega
theorem log_of {x n : Nat} (h : x < 2 ^ n) : x.log2 ≤ n := by
  by_cases h0 : x = 0
  · subst h0; simp
  · exact Nat.le_of_lt ((Nat.log2_lt h0).mpr h)
theorem mulOk_of {i j : Int} {n m : Nat} (h1 : i.natAbs < 2 ^ n) (h2 : j.natAbs < 2 ^ m) (h : n + m < 134217000) : mulOk i j := by
  have := log_of h1
  have := log_of h2
  unfold mulOk; omega
theorem mok_nd {a b : Rat} (h : bz a + bz b ≤ 100000000) : mulOk a.num b.den := mulOk_of (bz_num a) (by simpa using bz_den b) (by omega)
theorem mok_nn {a b : Rat} (h : bz a + bz b ≤ 100000000) : mulOk a.num b.num := mulOk_of (bz_num a) (bz_num b) (by omega)
theorem mok_dd {a b : Rat} (h : bz a + bz b ≤ 100000000) : mulOk a.den b.den := mulOk_of (by simpa using bz_den a) (by simpa using bz_den b) (by omega)
theorem mok_dn {a b : Rat} (h : bz a + bz b ≤ 100000000) : mulOk a.den b.num := mulOk_of (by simpa using bz_den a) (bz_num b) (by omega)
end IL

/-! rules for loops and comprehensions -/
namespace IL
open PySem L2
def Has (Φ : Str → Spec) (x : Str) (s : Spec) : Prop := ∀ ds μ P X, s ds μ P X → Φ x ds μ P X
theorem whl_rule {t : WT} {b : WS} {K : Ctl} (I : Nat → Env → Store → Prop)
    (step : ∀ m ρ μ, I m ρ μ → ∀ N : Env → Store → Prop, (∀ m' ρ' μ', m' < m → I m' ρ' μ' → N ρ' μ') → t ρ μ (fun c μ1 => if c = true then b ρ μ1 { K with nx := N, ct := N, bk := K.nx } else K.nx ρ μ1) fun x μ1 => K.ex x ρ μ1)
    {m : Nat} {ρ : Env} {μ : Store} (h : I m ρ μ) : ∃ n, whlW t b n ρ μ K := by
  have go : ∀ n m ρ μ, m < n → I m ρ μ → whlW t b n ρ μ K := by
    intro n
    induction n with
    | zero => intro m ρ μ h; omega
    | succ n ih =>
      intro m ρ μ hm h
      unfold whlW
      exact step m ρ μ h _ fun m' ρ' μ' h1 h2 => ih m' ρ' μ' (by omega) h2
  exact ⟨m + 1, go (m + 1) m ρ μ (Nat.lt_succ_self m) h⟩
theorem loop_rule {tg : Tg} {b : WS} {g : Store → Prop} {K : Ctl} {l : List D} (I : Nat → Env → Store → Prop)
    (step : ∀ i d ρ μ, l[i]? = some d → I i ρ μ → g μ ∧ tgS tg d ρ fun ρ1 => ∀ N : Env → Store → Prop, (∀ ρ' μ', I (i + 1) ρ' μ' → N ρ' μ') → b ρ1 μ { K with nx := N, ct := N, bk := K.nx })
    (fin : ∀ ρ μ, I l.length ρ μ → g μ ∧ K.nx ρ μ) {ρ : Env} {μ : Store} (h : I 0 ρ μ) : loopW tg b g l ρ μ K := by
  have go : ∀ (m : List D) (i : Nat) (ρ : Env) (μ : Store), l.drop i = m → i ≤ l.length → I i ρ μ → loopW tg b g m ρ μ K := by
    intro m
    induction m with
    | nil =>
      intro i ρ μ e hi h
      have : i = l.length := by
        have := congrArg List.length e
        rw [List.length_drop, List.length_nil] at this
        omega
      subst this
      exact fin ρ μ h
    | cons d m ih =>
      intro i ρ μ e hi h
      have hd : l[i]? = some d := by
        have := congrArg (fun z => z[0]?) e
        simpa [List.getElem?_drop] using this
      have hl : i < l.length := (List.getElem?_eq_some_iff.mp hd).1
      have ht : l.drop (i + 1) = m := by
        have := congrArg List.tail e
        simpa [List.tail_drop] using this
      obtain ⟨h1, h2⟩ := step i d ρ μ hd h
      refine ⟨h1, ?_⟩
      have q : ∀ ρ1, (∀ N : Env → Store → Prop, (∀ ρ' μ', I (i + 1) ρ' μ' → N ρ' μ') → b ρ1 μ { K with nx := N, ct := N, bk := K.nx }) → b ρ1 μ { K with nx := fun ρ2 μ2 => loopW tg b g m ρ2 μ2 K, ct := fun ρ2 μ2 => loopW tg b g m ρ2 μ2 K, bk := K.nx } :=
        fun ρ1 z => z _ fun ρ' μ' h' => ih (i + 1) ρ' μ' ht hl h'
      cases tg with
      | nm j => exact q _ h2
      | tp js =>
        obtain ⟨l', e1, e2, h3⟩ := h2
        exact ⟨l', e1, e2, q _ h3⟩
  exact go l 0 ρ μ rfl (Nat.zero_le _) h
theorem comp_rule {tg : Tg} {t e : WE} {g : Store → Prop} {ρ : Env} {l : List D} {Q : List D → Store → Prop} (I : Nat → List D → Store → Prop)
    (step : ∀ i d acc μ, l[i]? = some d → I i acc μ → g μ ∧ tgS tg d ρ fun ρ1 => ∀ N : List D → Store → Prop, (∀ acc' μ', I (i + 1) acc' μ' → N acc' μ') →
      tW t ρ1 μ (fun b μ1 => if b = true then e ρ1 μ1 (fun y μ2 => acc.length < sizeLine ∧ N (acc ++ [y]) μ2) (fun _ _ => False) else N acc μ1) (fun _ _ => False))
    (fin : ∀ acc μ, I l.length acc μ → g μ ∧ Q acc μ) {acc : List D} {μ : Store} (h : I 0 acc μ) : compW tg (tW t) e g ρ l acc μ Q := by
  have go : ∀ (m : List D) (i : Nat) (acc : List D) (μ : Store), l.drop i = m → i ≤ l.length → I i acc μ → compW tg (tW t) e g ρ m acc μ Q := by
    intro m
    induction m with
    | nil =>
      intro i acc μ e hi h
      have : i = l.length := by
        have := congrArg List.length e
        rw [List.length_drop, List.length_nil] at this
        omega
      subst this
      exact fin acc μ h
    | cons d m ih =>
      intro i acc μ e hi h
      have hd : l[i]? = some d := by
        have := congrArg (fun z => z[0]?) e
        simpa [List.getElem?_drop] using this
      have hl : i < l.length := (List.getElem?_eq_some_iff.mp hd).1
      have ht : l.drop (i + 1) = m := by
        have := congrArg List.tail e
        simpa [List.tail_drop] using this
      obtain ⟨h1, h2⟩ := step i d acc μ hd h
      refine ⟨h1, ?_⟩
      cases tg with
      | nm j => exact h2 _ fun acc' μ' h' => ih (i + 1) acc' μ' ht hl h'
      | tp js =>
        obtain ⟨l', e1, e2, h3⟩ := h2
        exact ⟨l', e1, e2, h3 _ fun acc' μ' h' => ih (i + 1) acc' μ' ht hl h'⟩
  exact go l 0 acc μ rfl (Nat.zero_le _) h
theorem tgS.imp {tg : Tg} {d : D} {ρ : Env} {Q Q' : Env → Prop} (h : ∀ ρ, Q ρ → Q' ρ) (q : tgS tg d ρ Q) : tgS tg d ρ Q' := by
  cases tg with
  | nm j => exact h _ q
  | tp js =>
    obtain ⟨l', e1, e2, h3⟩ := q
    exact ⟨l', e1, e2, h _ h3⟩
/-- a comprehension that writes nothing: what passes p, by f -/
theorem comp_pure {tg : Tg} {t e : WE} {g : Store → Prop} {ρ : Env} {l : List D} {Q : List D → Store → Prop} {μ : Store} (p : D → Bool) (f : D → D) (hg : g μ) (hl : l.length ≤ sizeLine)
    (step : ∀ (i : Nat) (d : D), l[i]? = some d → tgS tg d ρ fun ρ1 => (∀ (R : DQ) (X : XQ), R (.bl (p d)) μ → t ρ1 μ R X) ∧ (p d = true → ∀ (R : DQ) (X : XQ), R (f d) μ → e ρ1 μ R X))
    (fin : Q ((l.filter p).map f) μ) : compW tg (tW t) e g ρ l [] μ Q := by
  refine comp_rule (fun i acc μ' => μ' = μ ∧ acc = ((l.take i).filter p).map f ∧ i ≤ l.length) (fun i d acc μ' hd ⟨e1, e2, hi⟩ => ?_) (fun acc μ' ⟨e1, e2, _⟩ => ?_) ⟨rfl, by simp, Nat.zero_le _⟩
  · subst e1
    have hil : i < l.length := (List.getElem?_eq_some_iff.mp hd).1
    have ht : l.take (i + 1) = l.take i ++ [d] := by
      rw [List.take_succ, hd]; rfl
    refine ⟨hg, tgS.imp (fun ρ1 h N hN => ?_) (step i d hd)⟩
    refine h.1 _ _ ⟨_, rfl, ?_⟩
    show if p d = true then _ else _
    split
    · rename_i c
      refine h.2 c _ _ ⟨?_, hN _ _ ⟨rfl, ?_, hil⟩⟩
      · rw [e2, List.length_map]
        have := List.length_filter_le p (l.take i)
        rw [List.length_take] at this
        omega
      · rw [ht, e2, List.filter_append, List.map_append]
        simp [List.filter, c]
    · rename_i c
      refine hN _ _ ⟨rfl, ?_, hil⟩
      rw [ht, e2, List.filter_append, List.map_append]
      simp [List.filter, c]
  · subst e1
    rw [List.take_length] at e2
    rw [e2]
    exact ⟨hg, fin⟩
/-! the store's lists -/
def fr (q : Rat) : D := .tup [.int q.num, .int q.den]
theorem idx_fr0 {μ : Store} {Q : DQ} {q : Rat} : idxS (fr q) (.int 0) μ Q ↔ Q (.int q.num) μ := by
  unfold fr; rw [idxS_t]; simp [at2_0]
theorem idx_fr1 {μ : Store} {Q : DQ} {q : Rat} : idxS (fr q) (.int 1) μ Q ↔ Q (.int q.den) μ := by
  unfold fr; rw [idxS_t]; simp [at2_1]
end IL

/-! the program's fractions -/
namespace IL
open PySem L2
section
variable {Φ : Str → Spec} {C : Str → Option D} {U : Str → Str → Option Bool} {μ : Store} {P : DQ} {X : XQ} {ds : List D}
def isW : D → Bool
  | .int _ => true
  | _ => false
theorem of_isW {d : D} (h : isW d = true) : ∃ i, d = .int i := by
  cases d <;> first | exact ⟨_, rfl⟩ | (simp [isW] at h; done)
def sp_is_whole : Spec := fun ds μ P X => ∃ d, ds = [d] ∧ d.lay = true ∧ P (.bl (isW d)) μ
theorem b_is_whole (st : Stmt) (h : sp_is_whole ds μ P X) : BodyOk Φ C U (d_is_whole st) ds μ P X := by
  obtain ⟨d, rfl, hd, h⟩ := h
  refine ⟨rfl, ?_⟩
  show wSs Φ C U il_is_whole [some d] μ _
  cases d <;> simp only [il_is_whole, wSs, wS, wE, wEs, wHs, IL.g0, IL.g1, IL.s0, IL.s1, Option.some.injEq, exists_eq_left', exists_eq_left, IL.ex2, IL.ex3, and_true, true_and, isNop, IL.pWn, IL.pWs, tW, Bool.false_eq_true, if_true, if_false, D.int.injEq, D.bl.injEq, D.str.injEq, D.tup.injEq, D.lst.injEq, D.ref.injEq, setMany, bopS_add, bopS_sub, bopS_mul, bopS_fdiv, bopS_mod, bopS_addt, copS_lt, copS_le, copS_gt, copS_ge, copS_eqi, copS_nei, copS_isN, copS_isnN, bfS_lent, bfS_abs, bfS_max, bfS_min, bfS_int, decide_eq_true_eq, Bool.not_eq_true', decide_eq_false_iff_not, idxS_t, at2_0, at2_1, isi_int, isi_bl, isi_non, isi_str, isi_tup, isi_lst, reduceCtorEq, decide_false, decide_true, Bool.not_true, Bool.not_false, or_false, false_or, or_true, true_or, ite_self, setiR, idxS_l, bfS_lenl, bfS_lists, bfS_listt, slcS_t, slcS_l, slcS_s, newL_f, newL_t, at5_0, at5_1, at5_2, at5_3, at5_4, ix5_1, ix5_2, ix5_3, copS_neb, copS_eqb, copS_isB, idx_fr0, idx_fr1, Ob.lst.injEq, List.set_set] <;> first | exact .inl h | (simp [D.lay] at hd; done)
def sp_common : Spec := fun ds μ P X => ∃ a b : Int, ds = [.int a, .int b] ∧ P (.int (Int.gcd a b)) μ
theorem w_common {K : Ctl} (a b : Nat) (h : K.nx [some (.int (Nat.gcd a b)), some (.int 0)] μ) : wS Φ C U lp_common_0 [some (.int a), some (.int b)] μ K := by
  show ∃ n, whlW _ _ n _ μ K
  refine whl_rule (fun m ρ μ' => ∃ a : Nat, ρ = [some (.int a), some (.int m)] ∧ μ' = μ ∧ Nat.gcd a m = Nat.gcd a m ∧ K.nx [some (.int (Nat.gcd a m)), some (.int 0)] μ) (fun m ρ μ' ⟨a, e1, e2, _, h⟩ N hN => ?_) (m := b) ⟨a, rfl, rfl, rfl, h⟩
  subst e1 e2
  simp only [wSs, wS, wE, wEs, wHs, IL.g0, IL.g1, IL.s0, IL.s1, Option.some.injEq, exists_eq_left', exists_eq_left, IL.ex2, IL.ex3, and_true, true_and, isNop, IL.pWn, IL.pWs, tW, Bool.false_eq_true, if_true, if_false, D.int.injEq, D.bl.injEq, D.str.injEq, D.tup.injEq, D.lst.injEq, D.ref.injEq, setMany, bopS_add, bopS_sub, bopS_mul, bopS_fdiv, bopS_mod, bopS_addt, copS_lt, copS_le, copS_gt, copS_ge, copS_eqi, copS_nei, copS_isN, copS_isnN, bfS_lent, bfS_abs, bfS_max, bfS_min, bfS_int, decide_eq_true_eq, Bool.not_eq_true', decide_eq_false_iff_not, idxS_t, at2_0, at2_1, isi_int, isi_bl, isi_non, isi_str, isi_tup, isi_lst, reduceCtorEq, decide_false, decide_true, Bool.not_true, Bool.not_false, or_false, false_or, or_true, true_or, ite_self, setiR, idxS_l, bfS_lenl, bfS_lists, bfS_listt, slcS_t, slcS_l, slcS_s, newL_f, newL_t, at5_0, at5_1, at5_2, at5_3, at5_4, ix5_1, ix5_2, ix5_3, copS_neb, copS_eqb, copS_isB, idx_fr0, idx_fr1, Ob.lst.injEq, List.set_set]
  by_cases hm : m = 0
  · subst hm
    rw [if_neg (by omega)]
    simpa using h
  · rw [if_pos (by omega)]
    refine ⟨by omega, rfl, hN (a % m) _ _ (Nat.mod_lt _ (by omega)) ⟨m, ?_, rfl, rfl, ?_⟩⟩
    · rw [show (a : Int).fmod m = ((a % m : Nat) : Int) by rw [Int.fmod_eq_emod_of_nonneg _ (by omega)]; simp]
    · rw [Nat.gcd_comm, ← Nat.gcd_rec, Nat.gcd_comm]; exact h
theorem b_common (st : Stmt) (h : sp_common ds μ P X) : BodyOk Φ C U (d_common st) ds μ P X := by
  obtain ⟨a, b, rfl, h⟩ := h
  refine ⟨rfl, ?_⟩
  show wSs Φ C U il_common [some (.int a), some (.int b)] μ _
  simp only [il_common, wSs, wS, wE, wEs, wHs, IL.g0, IL.g1, IL.s0, IL.s1, Option.some.injEq, exists_eq_left', exists_eq_left, IL.ex2, IL.ex3, and_true, true_and, isNop, IL.pWn, IL.pWs, tW, Bool.false_eq_true, if_true, if_false, D.int.injEq, D.bl.injEq, D.str.injEq, D.tup.injEq, D.lst.injEq, D.ref.injEq, setMany, bopS_add, bopS_sub, bopS_mul, bopS_fdiv, bopS_mod, bopS_addt, copS_lt, copS_le, copS_gt, copS_ge, copS_eqi, copS_nei, copS_isN, copS_isnN, bfS_lent, bfS_abs, bfS_max, bfS_min, bfS_int, decide_eq_true_eq, Bool.not_eq_true', decide_eq_false_iff_not, idxS_t, at2_0, at2_1, isi_int, isi_bl, isi_non, isi_str, isi_tup, isi_lst, reduceCtorEq, decide_false, decide_true, Bool.not_true, Bool.not_false, or_false, false_or, or_true, true_or, ite_self, setiR, idxS_l, bfS_lenl, bfS_lists, bfS_listt, slcS_t, slcS_l, slcS_s, newL_f, newL_t, at5_0, at5_1, at5_2, at5_3, at5_4, ix5_1, ix5_2, ix5_3, copS_neb, copS_eqb, copS_isB, idx_fr0, idx_fr1, Ob.lst.injEq, List.set_set]
  have e : ∀ i : Int, (if i < 0 then -i else i) = (i.natAbs : Int) := fun i => by split <;> omega
  rw [e, e]
  refine ⟨rfl, w_common _ _ ?_⟩
  simp only [wSs, wS, wE, wEs, wHs, IL.g0, IL.g1, IL.s0, IL.s1, Option.some.injEq, exists_eq_left', exists_eq_left, IL.ex2, IL.ex3, and_true, true_and, isNop, IL.pWn, IL.pWs, tW, Bool.false_eq_true, if_true, if_false, D.int.injEq, D.bl.injEq, D.str.injEq, D.tup.injEq, D.lst.injEq, D.ref.injEq, setMany, bopS_add, bopS_sub, bopS_mul, bopS_fdiv, bopS_mod, bopS_addt, copS_lt, copS_le, copS_gt, copS_ge, copS_eqi, copS_nei, copS_isN, copS_isnN, bfS_lent, bfS_abs, bfS_max, bfS_min, bfS_int, decide_eq_true_eq, Bool.not_eq_true', decide_eq_false_iff_not, idxS_t, at2_0, at2_1, isi_int, isi_bl, isi_non, isi_str, isi_tup, isi_lst, reduceCtorEq, decide_false, decide_true, Bool.not_true, Bool.not_false, or_false, false_or, or_true, true_or, ite_self, setiR, idxS_l, bfS_lenl, bfS_lists, bfS_listt, slcS_t, slcS_l, slcS_s, newL_f, newL_t, at5_0, at5_1, at5_2, at5_3, at5_4, ix5_1, ix5_2, ix5_3, copS_neb, copS_eqb, copS_isB, idx_fr0, idx_fr1, Ob.lst.injEq, List.set_set]
  exact .inl h
def sp_fraction : Spec := fun ds μ P X => ∃ p q : Int, ds = [.int p, .int q] ∧ (q = 0 → X "NoQuotient" μ) ∧ (q ≠ 0 → P (fr (Rat.divInt p q)) μ)
theorem di_parts {p q : Int} (hq : q ≠ 0) : (Rat.divInt p q).num = p.fdiv (q.sign * Int.gcd p q) ∧ ((Rat.divInt p q).den : Int) = q.fdiv (q.sign * Int.gcd p q) := by
  have hg := gcd_pos_r (p := p) hq
  obtain ⟨p', hp⟩ : (Int.gcd p q : Int) ∣ p := Int.gcd_dvd_left ..
  obtain ⟨q', hq'⟩ : (Int.gcd p q : Int) ∣ q := Int.gcd_dvd_right ..
  rw [Rat.num_divInt, Rat.den_divInt, if_neg hq, Int.gcd_comm q p]
  generalize hgg : Int.gcd p q = g at *
  have hg0 : (g : Int) ≠ 0 := by omega
  rcases Int.lt_or_gt_of_ne hq with h | h
  · rw [Int.sign_eq_neg_one_of_neg h]
    constructor
    · rw [Int.fdiv_eq_ediv_of_dvd ⟨-p', by rw [hp]; grind⟩, show (-1 : Int) * g = -g by omega, Int.ediv_neg, hp, Int.mul_ediv_cancel_left _ hg0, show (-1 : Int) * (g * p') = g * (-p') by grind, Int.mul_ediv_cancel_left _ hg0]
    · rw [Int.fdiv_eq_ediv_of_dvd ⟨-q', by rw [hq']; grind⟩, show (-1 : Int) * g = -g by omega, Int.ediv_neg]
      rw [Int.natCast_ediv, show ((q.natAbs : Nat) : Int) = -q by omega, hq', show -((g : Int) * q') = g * (-q') by grind, Int.mul_ediv_cancel_left _ hg0, Int.mul_ediv_cancel_left _ hg0]
  · rw [Int.sign_eq_one_of_pos h, Int.one_mul, Int.one_mul]
    constructor
    · rw [Int.fdiv_eq_ediv_of_dvd ⟨p', hp⟩]
    · rw [Int.fdiv_eq_ediv_of_dvd ⟨q', hq'⟩, Int.natCast_ediv, show ((q.natAbs : Nat) : Int) = q by omega]
theorem divOk_g {p q i : Int} (hq : q ≠ 0) : divOk i (q.sign * Int.gcd p q) := by
  have h2 := gcd_pos_r (p := p) hq
  exact Int.mul_ne_zero (fun e => hq (Int.sign_eq_zero_iff_zero.mp e)) (by omega)
theorem b_fraction (st : Stmt) (h1 : Has Φ "common" sp_common) (h : sp_fraction ds μ P X) : BodyOk Φ C U (d_fraction st) ds μ P X := by
  obtain ⟨p, q, rfl, hx, h⟩ := h
  refine ⟨rfl, ?_⟩
  show wSs Φ C U il_fraction [some (.int p), some (.int q), none] μ _
  simp only [il_fraction, wSs, wS, wE, wEs, wHs, IL.g0, IL.g1, IL.s0, IL.s1, Option.some.injEq, exists_eq_left', exists_eq_left, IL.ex2, IL.ex3, and_true, true_and, isNop, IL.pWn, IL.pWs, tW, Bool.false_eq_true, if_true, if_false, D.int.injEq, D.bl.injEq, D.str.injEq, D.tup.injEq, D.lst.injEq, D.ref.injEq, setMany, bopS_add, bopS_sub, bopS_mul, bopS_fdiv, bopS_mod, bopS_addt, copS_lt, copS_le, copS_gt, copS_ge, copS_eqi, copS_nei, copS_isN, copS_isnN, bfS_lent, bfS_abs, bfS_max, bfS_min, bfS_int, decide_eq_true_eq, Bool.not_eq_true', decide_eq_false_iff_not, idxS_t, at2_0, at2_1, isi_int, isi_bl, isi_non, isi_str, isi_tup, isi_lst, reduceCtorEq, decide_false, decide_true, Bool.not_true, Bool.not_false, or_false, false_or, or_true, true_or, ite_self, setiR, idxS_l, bfS_lenl, bfS_lists, bfS_listt, slcS_t, slcS_l, slcS_s, newL_f, newL_t, at5_0, at5_1, at5_2, at5_3, at5_4, ix5_1, ix5_2, ix5_3, copS_neb, copS_eqb, copS_isB, idx_fr0, idx_fr1, Ob.lst.injEq, List.set_set]
  by_cases hq : q = 0
  · rw [if_pos (by simpa using hq)]
    exact .inl (hx hq)
  · have h3 := h hq
    rw [if_neg (by simpa using hq)]
    obtain ⟨e1, e2⟩ := di_parts (p := p) hq
    have ok : ∀ i, divOk i (q.sign * Int.gcd p q) := fun i => divOk_g hq
    unfold fr at h3
    rw [e1, e2] at h3
    split
    · rename_i c
      rw [Int.sign_eq_one_of_pos c, Int.one_mul] at ok h3
      exact h1 _ _ _ _ ⟨p, q, rfl, ok p, ok q, (show 2 ≤ sizeLine by decide), .inl h3⟩
    · rename_i c
      rw [Int.sign_eq_neg_one_of_neg (by omega), show (-1 : Int) * (Int.gcd p q : Int) = -(Int.gcd p q : Int) by omega] at ok h3
      exact h1 _ _ _ _ ⟨p, q, rfl, _, rfl, ok p, ok q, (show 2 ≤ sizeLine by decide), .inl h3⟩
def sp_plus : Spec := fun ds μ P X => ∃ a b, ds = [fr a, fr b] ∧ bz a + bz b ≤ 100000000 ∧ P (fr (a + b)) μ
theorem b_plus (st : Stmt) (h1 : Has Φ "fraction" sp_fraction) (h : sp_plus ds μ P X) : BodyOk Φ C U (d_plus st) ds μ P X := by
  obtain ⟨a, b, rfl, hz, h⟩ := h
  refine ⟨rfl, ?_⟩
  show wSs Φ C U il_plus [some (fr a), some (fr b)] μ _
  simp only [il_plus, fr, wSs, wS, wE, wEs, wHs, IL.g0, IL.g1, IL.s0, IL.s1, Option.some.injEq, exists_eq_left', exists_eq_left, IL.ex2, IL.ex3, and_true, true_and, isNop, IL.pWn, IL.pWs, tW, Bool.false_eq_true, if_true, if_false, D.int.injEq, D.bl.injEq, D.str.injEq, D.tup.injEq, D.lst.injEq, D.ref.injEq, setMany, bopS_add, bopS_sub, bopS_mul, bopS_fdiv, bopS_mod, bopS_addt, copS_lt, copS_le, copS_gt, copS_ge, copS_eqi, copS_nei, copS_isN, copS_isnN, bfS_lent, bfS_abs, bfS_max, bfS_min, bfS_int, decide_eq_true_eq, Bool.not_eq_true', decide_eq_false_iff_not, idxS_t, at2_0, at2_1, isi_int, isi_bl, isi_non, isi_str, isi_tup, isi_lst, reduceCtorEq, decide_false, decide_true, Bool.not_true, Bool.not_false, or_false, false_or, or_true, true_or, ite_self, setiR, idxS_l, bfS_lenl, bfS_lists, bfS_listt, slcS_t, slcS_l, slcS_s, newL_f, newL_t, at5_0, at5_1, at5_2, at5_3, at5_4, ix5_1, ix5_2, ix5_3, copS_neb, copS_eqb, copS_isB, idx_fr0, idx_fr1, Ob.lst.injEq, List.set_set]
  refine ⟨mok_nd hz, mok_nd (by omega), mok_dd hz, h1 _ _ _ _ ⟨_, _, rfl, fun e => absurd e (dd_ne a b), fun _ => .inl ?_⟩⟩
  rw [add_di]; exact h
def sp_minus : Spec := fun ds μ P X => ∃ a b, ds = [fr a, fr b] ∧ bz a + bz b ≤ 100000000 ∧ P (fr (a - b)) μ
theorem b_minus (st : Stmt) (h1 : Has Φ "fraction" sp_fraction) (h : sp_minus ds μ P X) : BodyOk Φ C U (d_minus st) ds μ P X := by
  obtain ⟨a, b, rfl, hz, h⟩ := h
  refine ⟨rfl, ?_⟩
  show wSs Φ C U il_minus [some (fr a), some (fr b)] μ _
  simp only [il_minus, fr, wSs, wS, wE, wEs, wHs, IL.g0, IL.g1, IL.s0, IL.s1, Option.some.injEq, exists_eq_left', exists_eq_left, IL.ex2, IL.ex3, and_true, true_and, isNop, IL.pWn, IL.pWs, tW, Bool.false_eq_true, if_true, if_false, D.int.injEq, D.bl.injEq, D.str.injEq, D.tup.injEq, D.lst.injEq, D.ref.injEq, setMany, bopS_add, bopS_sub, bopS_mul, bopS_fdiv, bopS_mod, bopS_addt, copS_lt, copS_le, copS_gt, copS_ge, copS_eqi, copS_nei, copS_isN, copS_isnN, bfS_lent, bfS_abs, bfS_max, bfS_min, bfS_int, decide_eq_true_eq, Bool.not_eq_true', decide_eq_false_iff_not, idxS_t, at2_0, at2_1, isi_int, isi_bl, isi_non, isi_str, isi_tup, isi_lst, reduceCtorEq, decide_false, decide_true, Bool.not_true, Bool.not_false, or_false, false_or, or_true, true_or, ite_self, setiR, idxS_l, bfS_lenl, bfS_lists, bfS_listt, slcS_t, slcS_l, slcS_s, newL_f, newL_t, at5_0, at5_1, at5_2, at5_3, at5_4, ix5_1, ix5_2, ix5_3, copS_neb, copS_eqb, copS_isB, idx_fr0, idx_fr1, Ob.lst.injEq, List.set_set]
  refine ⟨mok_nd hz, mok_nd (by omega), mok_dd hz, h1 _ _ _ _ ⟨_, _, rfl, fun e => absurd e (dd_ne a b), fun _ => .inl ?_⟩⟩
  rw [sub_di]; exact h
def sp_times : Spec := fun ds μ P X => ∃ a b, ds = [fr a, fr b] ∧ bz a + bz b ≤ 100000000 ∧ P (fr (a * b)) μ
theorem b_times (st : Stmt) (h1 : Has Φ "fraction" sp_fraction) (h : sp_times ds μ P X) : BodyOk Φ C U (d_times st) ds μ P X := by
  obtain ⟨a, b, rfl, hz, h⟩ := h
  refine ⟨rfl, ?_⟩
  show wSs Φ C U il_times [some (fr a), some (fr b)] μ _
  simp only [il_times, fr, wSs, wS, wE, wEs, wHs, IL.g0, IL.g1, IL.s0, IL.s1, Option.some.injEq, exists_eq_left', exists_eq_left, IL.ex2, IL.ex3, and_true, true_and, isNop, IL.pWn, IL.pWs, tW, Bool.false_eq_true, if_true, if_false, D.int.injEq, D.bl.injEq, D.str.injEq, D.tup.injEq, D.lst.injEq, D.ref.injEq, setMany, bopS_add, bopS_sub, bopS_mul, bopS_fdiv, bopS_mod, bopS_addt, copS_lt, copS_le, copS_gt, copS_ge, copS_eqi, copS_nei, copS_isN, copS_isnN, bfS_lent, bfS_abs, bfS_max, bfS_min, bfS_int, decide_eq_true_eq, Bool.not_eq_true', decide_eq_false_iff_not, idxS_t, at2_0, at2_1, isi_int, isi_bl, isi_non, isi_str, isi_tup, isi_lst, reduceCtorEq, decide_false, decide_true, Bool.not_true, Bool.not_false, or_false, false_or, or_true, true_or, ite_self, setiR, idxS_l, bfS_lenl, bfS_lists, bfS_listt, slcS_t, slcS_l, slcS_s, newL_f, newL_t, at5_0, at5_1, at5_2, at5_3, at5_4, ix5_1, ix5_2, ix5_3, copS_neb, copS_eqb, copS_isB, idx_fr0, idx_fr1, Ob.lst.injEq, List.set_set]
  refine ⟨mok_nn hz, mok_dd hz, h1 _ _ _ _ ⟨_, _, rfl, fun e => absurd e (dd_ne a b), fun _ => .inl ?_⟩⟩
  rw [mul_di]; exact h
def sp_over : Spec := fun ds μ P X => ∃ a b, ds = [fr a, fr b] ∧ bz a + bz b ≤ 100000000 ∧ (b = 0 → X "NoQuotient" μ) ∧ (b ≠ 0 → P (fr (a / b)) μ)
theorem b_over (st : Stmt) (h1 : Has Φ "fraction" sp_fraction) (h : sp_over ds μ P X) : BodyOk Φ C U (d_over st) ds μ P X := by
  obtain ⟨a, b, rfl, hz, hx, h⟩ := h
  refine ⟨rfl, ?_⟩
  show wSs Φ C U il_over [some (fr a), some (fr b)] μ _
  simp only [il_over, fr, wSs, wS, wE, wEs, wHs, IL.g0, IL.g1, IL.s0, IL.s1, Option.some.injEq, exists_eq_left', exists_eq_left, IL.ex2, IL.ex3, and_true, true_and, isNop, IL.pWn, IL.pWs, tW, Bool.false_eq_true, if_true, if_false, D.int.injEq, D.bl.injEq, D.str.injEq, D.tup.injEq, D.lst.injEq, D.ref.injEq, setMany, bopS_add, bopS_sub, bopS_mul, bopS_fdiv, bopS_mod, bopS_addt, copS_lt, copS_le, copS_gt, copS_ge, copS_eqi, copS_nei, copS_isN, copS_isnN, bfS_lent, bfS_abs, bfS_max, bfS_min, bfS_int, decide_eq_true_eq, Bool.not_eq_true', decide_eq_false_iff_not, idxS_t, at2_0, at2_1, isi_int, isi_bl, isi_non, isi_str, isi_tup, isi_lst, reduceCtorEq, decide_false, decide_true, Bool.not_true, Bool.not_false, or_false, false_or, or_true, true_or, ite_self, setiR, idxS_l, bfS_lenl, bfS_lists, bfS_listt, slcS_t, slcS_l, slcS_s, newL_f, newL_t, at5_0, at5_1, at5_2, at5_3, at5_4, ix5_1, ix5_2, ix5_3, copS_neb, copS_eqb, copS_isB, idx_fr0, idx_fr1, Ob.lst.injEq, List.set_set]
  refine ⟨mok_nd hz, mok_dn hz, h1 _ _ _ _ ⟨_, _, rfl, fun e => .inl (hx ?_), fun e => .inl ?_⟩⟩
  · rcases Int.mul_eq_zero.mp e with e | e
    · exact absurd e (den_ne a)
    · exact Rat.num_eq_zero.mp e
  · rw [div_di]; exact h fun z => e (by subst z; simp)
def sp_less : Spec := fun ds μ P X => ∃ a b, ds = [fr a, fr b] ∧ bz a + bz b ≤ 100000000 ∧ P (.bl (decide (a < b))) μ
theorem b_less (st : Stmt) (h : sp_less ds μ P X) : BodyOk Φ C U (d_less st) ds μ P X := by
  obtain ⟨a, b, rfl, hz, h⟩ := h
  refine ⟨rfl, ?_⟩
  show wSs Φ C U il_less [some (fr a), some (fr b)] μ _
  simp only [il_less, fr, wSs, wS, wE, wEs, wHs, IL.g0, IL.g1, IL.s0, IL.s1, Option.some.injEq, exists_eq_left', exists_eq_left, IL.ex2, IL.ex3, and_true, true_and, isNop, IL.pWn, IL.pWs, tW, Bool.false_eq_true, if_true, if_false, D.int.injEq, D.bl.injEq, D.str.injEq, D.tup.injEq, D.lst.injEq, D.ref.injEq, setMany, bopS_add, bopS_sub, bopS_mul, bopS_fdiv, bopS_mod, bopS_addt, copS_lt, copS_le, copS_gt, copS_ge, copS_eqi, copS_nei, copS_isN, copS_isnN, bfS_lent, bfS_abs, bfS_max, bfS_min, bfS_int, decide_eq_true_eq, Bool.not_eq_true', decide_eq_false_iff_not, idxS_t, at2_0, at2_1, isi_int, isi_bl, isi_non, isi_str, isi_tup, isi_lst, reduceCtorEq, decide_false, decide_true, Bool.not_true, Bool.not_false, or_false, false_or, or_true, true_or, ite_self, setiR, idxS_l, bfS_lenl, bfS_lists, bfS_listt, slcS_t, slcS_l, slcS_s, newL_f, newL_t, at5_0, at5_1, at5_2, at5_3, at5_4, ix5_1, ix5_2, ix5_3, copS_neb, copS_eqb, copS_isB, idx_fr0, idx_fr1, Ob.lst.injEq, List.set_set]
  refine ⟨mok_nd hz, mok_nd (by omega), .inl ?_⟩
  rw [decide_eq_decide.mpr (Rat.lt_iff a b).symm]; exact h
/-- the form of a fraction -/
def isFr : D → Bool
  | .tup [.int p, .int q] => decide (0 < q) && decide (Int.gcd p q = 1)
  | _ => false
theorem isFr_fr (q : Rat) : isFr (fr q) = true := by
  simp only [fr, isFr, Bool.and_eq_true, decide_eq_true_eq]
  refine ⟨by have := q.den_pos; omega, ?_⟩
  have := q.reduced
  rw [Int.gcd_eq_natAbs_gcd_natAbs]
  simpa [Nat.Coprime] using this
theorem of_isFr {d : D} (h : isFr d = true) : ∃ q, d = fr q := by
  unfold isFr at h
  split at h
  · rename_i p q
    simp only [Bool.and_eq_true, decide_eq_true_eq] at h
    obtain ⟨h1, h2⟩ := h
    refine ⟨⟨p, q.natAbs, by omega, ?_⟩, ?_⟩
    · rw [Int.gcd_eq_natAbs_gcd_natAbs] at h2
      exact h2
    · simp only [fr]
      rw [show ((q.natAbs : Nat) : Int) = q by omega]
  · cases h
def sp_is_fraction : Spec := fun ds μ P X => ∃ d, ds = [d] ∧ d.lay = true ∧ P (.bl (isFr d)) μ
theorem lay_cons {a : D} {l : List D} (h : D.lays (a :: l) = true) : a.lay = true ∧ D.lays l = true := by
  simpa only [D.lays, Bool.and_eq_true] using h
theorem b_is_fraction (st : Stmt) (h1 : Has Φ "is_whole" sp_is_whole) (h2 : Has Φ "common" sp_common) (h : sp_is_fraction ds μ P X) : BodyOk Φ C U (d_is_fraction st) ds μ P X := by
  obtain ⟨d, rfl, hd, h⟩ := h
  refine ⟨rfl, ?_⟩
  show wSs Φ C U il_is_fraction [some d] μ _
  cases d with
  | tup l =>
    simp only [il_is_fraction, wSs, wS, wE, wEs, wHs, IL.g0, IL.g1, IL.s0, IL.s1, Option.some.injEq, exists_eq_left', exists_eq_left, IL.ex2, IL.ex3, and_true, true_and, isNop, IL.pWn, IL.pWs, tW, Bool.false_eq_true, if_true, if_false, D.int.injEq, D.bl.injEq, D.str.injEq, D.tup.injEq, D.lst.injEq, D.ref.injEq, setMany, bopS_add, bopS_sub, bopS_mul, bopS_fdiv, bopS_mod, bopS_addt, copS_lt, copS_le, copS_gt, copS_ge, copS_eqi, copS_nei, copS_isN, copS_isnN, bfS_lent, bfS_abs, bfS_max, bfS_min, bfS_int, decide_eq_true_eq, Bool.not_eq_true', decide_eq_false_iff_not, idxS_t, at2_0, at2_1, isi_int, isi_bl, isi_non, isi_str, isi_tup, isi_lst, reduceCtorEq, decide_false, decide_true, Bool.not_true, Bool.not_false, or_false, false_or, or_true, true_or, ite_self, setiR, idxS_l, bfS_lenl, bfS_lists, bfS_listt, slcS_t, slcS_l, slcS_s, newL_f, newL_t, at5_0, at5_1, at5_2, at5_3, at5_4, ix5_1, ix5_2, ix5_3, copS_neb, copS_eqb, copS_isB, idx_fr0, idx_fr1, Ob.lst.injEq, List.set_set]
    match l, hd, h with
    | [], hd, h => simp only [List.length_nil, isFr] at *; exact .inl h
    | [a], hd, h => simp only [List.length_cons, List.length_nil, isFr] at *; exact .inl h
    | a :: b :: c :: r, hd, h =>
      have e : (((a :: b :: c :: r).length : Int) == 2) = false := by
        simp only [List.length_cons, beq_eq_false_iff_ne]; omega
      rw [e]
      exact .inl (by simpa [isFr] using h)
    | [a, b], hd, h =>
      simp only [D.lay] at hd
      obtain ⟨ha, hb⟩ := lay_cons hd
      obtain ⟨hb, _⟩ := lay_cons hb
      simp only [List.length_cons, List.length_nil]
      refine ⟨a, rfl, h1 _ _ _ _ ⟨a, rfl, ha, isW a, rfl, ?_⟩⟩
      cases ea : isW a with
      | false =>
        rw [if_pos (by rfl)]
        refine .inl ?_
        cases a <;> first | (simp [isW] at ea; done) | simpa [isFr] using h
      | true =>
        rw [if_neg (by decide)]
        refine ⟨b, rfl, h1 _ _ _ _ ⟨b, rfl, hb, isW b, rfl, ?_⟩⟩
        cases eb : isW b with
        | false =>
          rw [if_pos (by rfl)]
          refine .inl ?_
          cases b <;> first | (simp [isW] at eb; done) | (cases a <;> simpa [isFr] using h)
        | true =>
          rw [if_neg (by decide)]
          obtain ⟨p, rfl⟩ := of_isW ea
          obtain ⟨q, rfl⟩ := of_isW eb
          refine ⟨_, rfl, (copS_gt).mpr ⟨_, rfl, ?_⟩⟩
          split
          · rename_i c
            refine ⟨_, rfl, _, rfl, h2 _ _ _ _ ⟨p, q, rfl, copS_eqi.mpr (.inl ?_)⟩⟩
            simp only [isFr] at h
            have c : 0 < q := by simpa using c
            simp only [c, decide_true, Bool.true_and] at h
            rw [show ((Int.gcd p q : Int) == 1) = decide (Int.gcd p q = 1) by
              rw [Bool.eq_iff_iff]; simp; omega]
            exact h
          · rename_i c
            simp only [isFr] at h
            have c : ¬ 0 < q := by simpa using c
            simp only [c, decide_false, Bool.false_and] at h
            exact .inl h
  | _ => simp only [il_is_fraction, wSs, wS, wE, wEs, wHs, IL.g0, IL.g1, IL.s0, IL.s1, Option.some.injEq, exists_eq_left', exists_eq_left, IL.ex2, IL.ex3, and_true, true_and, isNop, IL.pWn, IL.pWs, tW, Bool.false_eq_true, if_true, if_false, D.int.injEq, D.bl.injEq, D.str.injEq, D.tup.injEq, D.lst.injEq, D.ref.injEq, setMany, bopS_add, bopS_sub, bopS_mul, bopS_fdiv, bopS_mod, bopS_addt, copS_lt, copS_le, copS_gt, copS_ge, copS_eqi, copS_nei, copS_isN, copS_isnN, bfS_lent, bfS_abs, bfS_max, bfS_min, bfS_int, decide_eq_true_eq, Bool.not_eq_true', decide_eq_false_iff_not, idxS_t, at2_0, at2_1, isi_int, isi_bl, isi_non, isi_str, isi_tup, isi_lst, reduceCtorEq, decide_false, decide_true, Bool.not_true, Bool.not_false, or_false, false_or, or_true, true_or, ite_self, setiR, idxS_l, bfS_lenl, bfS_lists, bfS_listt, slcS_t, slcS_l, slcS_s, newL_f, newL_t, at5_0, at5_1, at5_2, at5_3, at5_4, ix5_1, ix5_2, ix5_3, copS_neb, copS_eqb, copS_isB, idx_fr0, idx_fr1, Ob.lst.injEq, List.set_set]; first | exact .inl h | (simp [D.lay] at hd; done)
def isPl (d : D) : Bool := match d with
  | .tup [.int p, .int q] => isFr d && decide (-q < p ∧ p < q)
  | _ => false
def isLv (d : D) : Bool := match d with
  | .tup [.int p, .int q] => isFr d && decide (-q ≤ p ∧ p ≤ q)
  | _ => false
def sp_is_place : Spec := fun ds μ P X => ∃ d, ds = [d] ∧ d.lay = true ∧ P (.bl (isPl d)) μ
def sp_is_level : Spec := fun ds μ P X => ∃ d, ds = [d] ∧ d.lay = true ∧ P (.bl (isLv d)) μ
theorem isPl_no {d : D} (h : isFr d = false) : isPl d = false := by
  unfold isPl; split
  · rw [h]; rfl
  · rfl
theorem isLv_no {d : D} (h : isFr d = false) : isLv d = false := by
  unfold isLv; split
  · rw [h]; rfl
  · rfl
theorem b_is_place (st : Stmt) (h1 : Has Φ "is_fraction" sp_is_fraction) (h : sp_is_place ds μ P X) : BodyOk Φ C U (d_is_place st) ds μ P X := by
  obtain ⟨d, rfl, hd, h⟩ := h
  refine ⟨rfl, ?_⟩
  show wSs Φ C U il_is_place [some d] μ _
  simp only [il_is_place, wSs, wS, wE, wEs, wHs, IL.g0, IL.g1, IL.s0, IL.s1, Option.some.injEq, exists_eq_left', exists_eq_left, IL.ex2, IL.ex3, and_true, true_and, isNop, IL.pWn, IL.pWs, tW, Bool.false_eq_true, if_true, if_false, D.int.injEq, D.bl.injEq, D.str.injEq, D.tup.injEq, D.lst.injEq, D.ref.injEq, setMany, bopS_add, bopS_sub, bopS_mul, bopS_fdiv, bopS_mod, bopS_addt, copS_lt, copS_le, copS_gt, copS_ge, copS_eqi, copS_nei, copS_isN, copS_isnN, bfS_lent, bfS_abs, bfS_max, bfS_min, bfS_int, decide_eq_true_eq, Bool.not_eq_true', decide_eq_false_iff_not, idxS_t, at2_0, at2_1, isi_int, isi_bl, isi_non, isi_str, isi_tup, isi_lst, reduceCtorEq, decide_false, decide_true, Bool.not_true, Bool.not_false, or_false, false_or, or_true, true_or, ite_self, setiR, idxS_l, bfS_lenl, bfS_lists, bfS_listt, slcS_t, slcS_l, slcS_s, newL_f, newL_t, at5_0, at5_1, at5_2, at5_3, at5_4, ix5_1, ix5_2, ix5_3, copS_neb, copS_eqb, copS_isB, idx_fr0, idx_fr1, Ob.lst.injEq, List.set_set]
  refine h1 _ _ _ _ ⟨d, rfl, hd, _, rfl, ?_⟩
  cases e : isFr d with
  | false => rw [if_neg (by decide)]; rw [isPl_no e] at h; exact .inl h
  | true =>
    rw [if_pos rfl]
    obtain ⟨q, rfl⟩ := of_isFr e
    simp only [isPl, fr, show isFr (.tup [.int q.num, .int q.den]) = true from isFr_fr q, Bool.true_and] at h
    simp only [fr, wSs, wS, wE, wEs, wHs, IL.g0, IL.g1, IL.s0, IL.s1, Option.some.injEq, exists_eq_left', exists_eq_left, IL.ex2, IL.ex3, and_true, true_and, isNop, IL.pWn, IL.pWs, tW, Bool.false_eq_true, if_true, if_false, D.int.injEq, D.bl.injEq, D.str.injEq, D.tup.injEq, D.lst.injEq, D.ref.injEq, setMany, bopS_add, bopS_sub, bopS_mul, bopS_fdiv, bopS_mod, bopS_addt, copS_lt, copS_le, copS_gt, copS_ge, copS_eqi, copS_nei, copS_isN, copS_isnN, bfS_lent, bfS_abs, bfS_max, bfS_min, bfS_int, decide_eq_true_eq, Bool.not_eq_true', decide_eq_false_iff_not, idxS_t, at2_0, at2_1, isi_int, isi_bl, isi_non, isi_str, isi_tup, isi_lst, reduceCtorEq, decide_false, decide_true, Bool.not_true, Bool.not_false, or_false, false_or, or_true, true_or, ite_self, setiR, idxS_l, bfS_lenl, bfS_lists, bfS_listt, slcS_t, slcS_l, slcS_s, newL_f, newL_t, at5_0, at5_1, at5_2, at5_3, at5_4, ix5_1, ix5_2, ix5_3, copS_neb, copS_eqb, copS_isB, idx_fr0, idx_fr1, Ob.lst.injEq, List.set_set]
    by_cases c : -(q.den : Int) < q.num
    · rw [if_pos c]; simp only [c, true_and] at h; exact .inl h
    · rw [if_neg c]; simp only [c, false_and, decide_false] at h; exact .inl h
theorem b_is_level (st : Stmt) (h1 : Has Φ "is_fraction" sp_is_fraction) (h : sp_is_level ds μ P X) : BodyOk Φ C U (d_is_level st) ds μ P X := by
  obtain ⟨d, rfl, hd, h⟩ := h
  refine ⟨rfl, ?_⟩
  show wSs Φ C U il_is_level [some d] μ _
  simp only [il_is_level, wSs, wS, wE, wEs, wHs, IL.g0, IL.g1, IL.s0, IL.s1, Option.some.injEq, exists_eq_left', exists_eq_left, IL.ex2, IL.ex3, and_true, true_and, isNop, IL.pWn, IL.pWs, tW, Bool.false_eq_true, if_true, if_false, D.int.injEq, D.bl.injEq, D.str.injEq, D.tup.injEq, D.lst.injEq, D.ref.injEq, setMany, bopS_add, bopS_sub, bopS_mul, bopS_fdiv, bopS_mod, bopS_addt, copS_lt, copS_le, copS_gt, copS_ge, copS_eqi, copS_nei, copS_isN, copS_isnN, bfS_lent, bfS_abs, bfS_max, bfS_min, bfS_int, decide_eq_true_eq, Bool.not_eq_true', decide_eq_false_iff_not, idxS_t, at2_0, at2_1, isi_int, isi_bl, isi_non, isi_str, isi_tup, isi_lst, reduceCtorEq, decide_false, decide_true, Bool.not_true, Bool.not_false, or_false, false_or, or_true, true_or, ite_self, setiR, idxS_l, bfS_lenl, bfS_lists, bfS_listt, slcS_t, slcS_l, slcS_s, newL_f, newL_t, at5_0, at5_1, at5_2, at5_3, at5_4, ix5_1, ix5_2, ix5_3, copS_neb, copS_eqb, copS_isB, idx_fr0, idx_fr1, Ob.lst.injEq, List.set_set]
  refine h1 _ _ _ _ ⟨d, rfl, hd, _, rfl, ?_⟩
  cases e : isFr d with
  | false => rw [if_neg (by decide)]; rw [isLv_no e] at h; exact .inl h
  | true =>
    rw [if_pos rfl]
    obtain ⟨q, rfl⟩ := of_isFr e
    simp only [isLv, fr, show isFr (.tup [.int q.num, .int q.den]) = true from isFr_fr q, Bool.true_and] at h
    simp only [fr, wSs, wS, wE, wEs, wHs, IL.g0, IL.g1, IL.s0, IL.s1, Option.some.injEq, exists_eq_left', exists_eq_left, IL.ex2, IL.ex3, and_true, true_and, isNop, IL.pWn, IL.pWs, tW, Bool.false_eq_true, if_true, if_false, D.int.injEq, D.bl.injEq, D.str.injEq, D.tup.injEq, D.lst.injEq, D.ref.injEq, setMany, bopS_add, bopS_sub, bopS_mul, bopS_fdiv, bopS_mod, bopS_addt, copS_lt, copS_le, copS_gt, copS_ge, copS_eqi, copS_nei, copS_isN, copS_isnN, bfS_lent, bfS_abs, bfS_max, bfS_min, bfS_int, decide_eq_true_eq, Bool.not_eq_true', decide_eq_false_iff_not, idxS_t, at2_0, at2_1, isi_int, isi_bl, isi_non, isi_str, isi_tup, isi_lst, reduceCtorEq, decide_false, decide_true, Bool.not_true, Bool.not_false, or_false, false_or, or_true, true_or, ite_self, setiR, idxS_l, bfS_lenl, bfS_lists, bfS_listt, slcS_t, slcS_l, slcS_s, newL_f, newL_t, at5_0, at5_1, at5_2, at5_3, at5_4, ix5_1, ix5_2, ix5_3, copS_neb, copS_eqb, copS_isB, idx_fr0, idx_fr1, Ob.lst.injEq, List.set_set]
    by_cases c : -(q.den : Int) ≤ q.num
    · rw [if_pos c]; simp only [c, true_and] at h; exact .inl h
    · rw [if_neg c]; simp only [c, false_and, decide_false] at h; exact .inl h
def turnQ (p x : Rat) : Rat := (x - p) / (1 - p * x)
def sp_turn : Spec := fun ds μ P X => ∃ p x, ds = [fr p, fr x] ∧ bz p + bz x ≤ 40000000 ∧ (1 - p * x = 0 → X "NoQuotient" μ) ∧ (1 - p * x ≠ 0 → P (fr (turnQ p x)) μ)
theorem bz_one : bz 1 = 1 := by decide
theorem bz_zero : bz 0 = 1 := by decide
theorem fr_one : D.tup [.int 1, .int 1] = fr 1 := rfl
theorem b_turn (st : Stmt) (hC : C "ONE" = some (.tup [.int 1, .int 1])) (h1 : Has Φ "minus" sp_minus) (h2 : Has Φ "times" sp_times) (h3 : Has Φ "over" sp_over) (h : sp_turn ds μ P X) : BodyOk Φ C U (d_turn st) ds μ P X := by
  obtain ⟨p, x, rfl, hz, hx, h⟩ := h
  refine ⟨rfl, ?_⟩
  show wSs Φ C U il_turn [some (fr p), some (fr x)] μ _
  simp only [il_turn, wSs, wS, wE, wEs, wHs, IL.g0, IL.g1, IL.s0, IL.s1, Option.some.injEq, exists_eq_left', exists_eq_left, IL.ex2, IL.ex3, and_true, true_and, isNop, IL.pWn, IL.pWs, tW, Bool.false_eq_true, if_true, if_false, D.int.injEq, D.bl.injEq, D.str.injEq, D.tup.injEq, D.lst.injEq, D.ref.injEq, setMany, bopS_add, bopS_sub, bopS_mul, bopS_fdiv, bopS_mod, bopS_addt, copS_lt, copS_le, copS_gt, copS_ge, copS_eqi, copS_nei, copS_isN, copS_isnN, bfS_lent, bfS_abs, bfS_max, bfS_min, bfS_int, decide_eq_true_eq, Bool.not_eq_true', decide_eq_false_iff_not, idxS_t, at2_0, at2_1, isi_int, isi_bl, isi_non, isi_str, isi_tup, isi_lst, reduceCtorEq, decide_false, decide_true, Bool.not_true, Bool.not_false, or_false, false_or, or_true, true_or, ite_self, setiR, idxS_l, bfS_lenl, bfS_lists, bfS_listt, slcS_t, slcS_l, slcS_s, newL_f, newL_t, at5_0, at5_1, at5_2, at5_3, at5_4, ix5_1, ix5_2, ix5_3, copS_neb, copS_eqb, copS_isB, idx_fr0, idx_fr1, Ob.lst.injEq, List.set_set, hC, fr_one]
  have z1 := bz_sub x p
  have z2 := bz_mul p x
  have z3 := bz_sub 1 (p * x)
  rw [bz_one] at z3
  exact h1 _ _ _ _ ⟨x, p, rfl, by omega, h2 _ _ _ _ ⟨p, x, rfl, by omega, h1 _ _ _ _ ⟨1, _, rfl, by rw [bz_one]; omega, h3 _ _ _ _ ⟨_, _, rfl, by omega, fun e => .inl (hx e), fun e => .inl (h e)⟩⟩⟩⟩
def sp_apart : Spec := fun ds μ P X => ∃ p x, ds = [fr p, fr x] ∧ bz p + bz x ≤ 40000000 ∧ (1 - p * x = 0 → X "NoQuotient" μ) ∧ (1 - p * x ≠ 0 → P (fr (if turnQ p x < 0 then -turnQ p x else turnQ p x)) μ)
theorem num_neg_iff (q : Rat) : q.num < 0 ↔ q < 0 := by
  have := Rat.num_nonneg (q := q)
  rw [← Rat.not_le, ← this]; omega
theorem fr_abs (q : Rat) : D.tup [.int (if q.num < 0 then -q.num else q.num), .int q.den] = fr (if q < 0 then -q else q) := by
  have := num_neg_iff q
  by_cases c : q < 0
  · rw [if_pos c, if_pos (this.mpr c)]; rfl
  · rw [if_neg c, if_neg fun z => c (this.mp z)]; rfl
theorem b_apart (st : Stmt) (h1 : Has Φ "turn" sp_turn) (h : sp_apart ds μ P X) : BodyOk Φ C U (d_apart st) ds μ P X := by
  obtain ⟨p, x, rfl, hz, hx, h⟩ := h
  refine ⟨rfl, ?_⟩
  show wSs Φ C U il_apart [some (fr p), some (fr x), none] μ _
  simp only [il_apart, wSs, wS, wE, wEs, wHs, IL.g0, IL.g1, IL.s0, IL.s1, Option.some.injEq, exists_eq_left', exists_eq_left, IL.ex2, IL.ex3, and_true, true_and, isNop, IL.pWn, IL.pWs, tW, Bool.false_eq_true, if_true, if_false, D.int.injEq, D.bl.injEq, D.str.injEq, D.tup.injEq, D.lst.injEq, D.ref.injEq, setMany, bopS_add, bopS_sub, bopS_mul, bopS_fdiv, bopS_mod, bopS_addt, copS_lt, copS_le, copS_gt, copS_ge, copS_eqi, copS_nei, copS_isN, copS_isnN, bfS_lent, bfS_abs, bfS_max, bfS_min, bfS_int, decide_eq_true_eq, Bool.not_eq_true', decide_eq_false_iff_not, idxS_t, at2_0, at2_1, isi_int, isi_bl, isi_non, isi_str, isi_tup, isi_lst, reduceCtorEq, decide_false, decide_true, Bool.not_true, Bool.not_false, or_false, false_or, or_true, true_or, ite_self, setiR, idxS_l, bfS_lenl, bfS_lists, bfS_listt, slcS_t, slcS_l, slcS_s, newL_f, newL_t, at5_0, at5_1, at5_2, at5_3, at5_4, ix5_1, ix5_2, ix5_3, copS_neb, copS_eqb, copS_isB, idx_fr0, idx_fr1, Ob.lst.injEq, List.set_set]
  refine h1 _ _ _ _ ⟨p, x, rfl, hz, fun e => .inl (hx e), fun e => ?_⟩
  simp only [fr, wSs, wS, wE, wEs, wHs, IL.g0, IL.g1, IL.s0, IL.s1, Option.some.injEq, exists_eq_left', exists_eq_left, IL.ex2, IL.ex3, and_true, true_and, isNop, IL.pWn, IL.pWs, tW, Bool.false_eq_true, if_true, if_false, D.int.injEq, D.bl.injEq, D.str.injEq, D.tup.injEq, D.lst.injEq, D.ref.injEq, setMany, bopS_add, bopS_sub, bopS_mul, bopS_fdiv, bopS_mod, bopS_addt, copS_lt, copS_le, copS_gt, copS_ge, copS_eqi, copS_nei, copS_isN, copS_isnN, bfS_lent, bfS_abs, bfS_max, bfS_min, bfS_int, decide_eq_true_eq, Bool.not_eq_true', decide_eq_false_iff_not, idxS_t, at2_0, at2_1, isi_int, isi_bl, isi_non, isi_str, isi_tup, isi_lst, reduceCtorEq, decide_false, decide_true, Bool.not_true, Bool.not_false, or_false, false_or, or_true, true_or, ite_self, setiR, idxS_l, bfS_lenl, bfS_lists, bfS_listt, slcS_t, slcS_l, slcS_s, newL_f, newL_t, at5_0, at5_1, at5_2, at5_3, at5_4, ix5_1, ix5_2, ix5_3, copS_neb, copS_eqb, copS_isB, idx_fr0, idx_fr1, Ob.lst.injEq, List.set_set]
  rw [fr_abs]
  exact ⟨(show 2 ≤ sizeLine by decide), .inl (h e)⟩
end
end IL

/-! the laws' pool of draws -/
namespace IL
open PySem L2
section
variable {Φ : Str → Spec} {C : Str → Option D} {U : Str → Str → Option Bool} {μ : Store} {P : DQ} {X : XQ} {ds : List D}
/-- a pool of which at most c draws were made -/
def Pool (c : Nat) (o : Ob) : Prop := ∃ (cells : List Int) (i : Nat) (v : Int) (k salt : Nat), o = .lst [.lst (cells.map D.int), .int i, .int v, .int k, .int salt] ∧ k ≤ c ∧ salt < 1000003
theorem Pool.mono {c c' : Nat} {o : Ob} (h : Pool c o) (hc : c ≤ c') : Pool c' o := by
  obtain ⟨cells, i, v, k, salt, e, h1, h2⟩ := h
  exact ⟨cells, i, v, k, salt, e, Nat.le_trans h1 hc, h2⟩
def sp_spread : Spec := fun ds μ P X => ∃ i : Int, ds = [.int i] ∧ ∀ w : Int, P (.int w) μ
def sp_draw : Spec := fun ds μ P X => ∃ n many c o, ds = [.ref n, .int many] ∧ 0 < many ∧ many < 2 ^ 62 ∧ μ[n]? = some o ∧ Pool c o ∧ c < 2 ^ 64 ∧ ∀ v o', 0 ≤ v → v < many → Pool (c + 1) o' → P (.int v) (μ.set n o')
theorem get_of {n : Nat} {o : Ob} (h : μ[n]? = some o) : n < μ.length := (List.getElem?_eq_some_iff.mp h).1
theorem gs_of {n : Nat} {o : Ob} (h : μ[n]? = some o) (o' : Ob) : (μ.set n o')[n]? = some o' := List.getElem?_set_self (get_of h)
theorem mok_s {i j : Int} (h1 : i.natAbs < 2 ^ 200) (h2 : j.natAbs < 2 ^ 200) : mulOk i j := mulOk_of h1 h2 (by decide)
theorem fm_of (a : Int) {b : Int} (hb : 0 < b) : 0 ≤ a.fmod b ∧ a.fmod b < b := ⟨Int.fmod_nonneg_of_pos _ hb, Int.fmod_lt_of_pos _ hb⟩
theorem dok_s {i j : Int} (h0 : j ≠ 0) (h : j.natAbs < 2 ^ 200) : divOk i j := h0
theorem b_law_draw (st : Stmt) (h1 : Has Φ "_law_spread" sp_spread) (h : sp_draw ds μ P X) : BodyOk Φ C U (d_law_draw st) ds μ P X := by
  obtain ⟨n, many, c, o, rfl, hm0, hm1, hμ, ⟨cells, i, v, k, salt, rfl, hk, hs⟩, hc, h⟩ := h
  refine ⟨rfl, ?_⟩
  show wSs Φ C U il_law_draw [some (.ref n), some (.int many), none, none, none] μ _
  have gs := gs_of hμ
  have m1 : mulOk (salt : Int) 48271 := mok_s (by omega) (by decide)
  have m2 : mulOk ((k : Int) + 1) 69621 := mok_s (by omega) (by decide)
  have m3 : ∀ a : Int, mulOk (a.fmod 2147483647) 16807 := fun a => mok_s (by have := fm_of a (b := 2147483647) (by decide); omega) (by decide)
  have m4 : ∀ a : Int, divOk a 5 := fun a => dok_s (by decide) (by decide)
  have m5 : ∀ a : Int, divOk a many := fun a => dok_s (by omega) (by omega)
  have fin : ∀ (a : Int) (i : Nat) (v : Int), Trn P μ (.int (a.fmod many)) (μ.set n (.lst [.lst (cells.map D.int), .int i, .int v, .int ((k : Int) + 1), .int salt])) := fun a i v =>
    .inl (h _ _ (fm_of a hm0).1 (fm_of a hm0).2 ⟨cells, i, v, k + 1, salt, by simp, by omega, hs⟩)
  have fin2 : ∀ (a : Int) (i : Nat) (v : Int), Trn P μ (.int (a.fmod many)) (μ.set n (.lst [.lst (cells.map D.int), .int ((i : Int) + 1), .int v, .int ((k : Int) + 1), .int salt])) := fun a i v => fin a (i + 1) v
  simp only [il_law_draw, wSs, wS, wE, wEs, wHs, IL.g0, IL.g1, IL.s0, IL.s1, Option.some.injEq, exists_eq_left', exists_eq_left, IL.ex2, IL.ex3, and_true, true_and, isNop, IL.pWn, IL.pWs, tW, Bool.false_eq_true, if_true, if_false, D.int.injEq, D.bl.injEq, D.str.injEq, D.tup.injEq, D.lst.injEq, D.ref.injEq, setMany, bopS_add, bopS_sub, bopS_mul, bopS_fdiv, bopS_mod, bopS_addt, copS_lt, copS_le, copS_gt, copS_ge, copS_eqi, copS_nei, copS_isN, copS_isnN, bfS_lent, bfS_abs, bfS_max, bfS_min, bfS_int, decide_eq_true_eq, Bool.not_eq_true', decide_eq_false_iff_not, idxS_t, at2_0, at2_1, isi_int, isi_bl, isi_non, isi_str, isi_tup, isi_lst, reduceCtorEq, decide_false, decide_true, Bool.not_true, Bool.not_false, or_false, false_or, or_true, true_or, ite_self, setiR, idxS_l, bfS_lenl, bfS_lists, bfS_listt, slcS_t, slcS_l, slcS_s, newL_f, newL_t, at5_0, at5_1, at5_2, at5_3, at5_4, ix5_1, ix5_2, ix5_3, copS_neb, copS_eqb, copS_isB, idx_fr0, idx_fr1, Ob.lst.injEq, List.set_set, idxS_r hμ, hμ, gs, idxS_r (gs _)]
  split
  · split
    · rename_i hl
      have hl : i < cells.length := by simpa using hl
      refine ⟨.int cells[i], ?_, ?_⟩
      · unfold atI
        rw [List.length_map, show ixN cells.length (i : Int) = some i by unfold ixN; simp [hl]]
        simp [hl]
      · simp only [wSs, wS, wE, wEs, wHs, IL.g0, IL.g1, IL.s0, IL.s1, Option.some.injEq, exists_eq_left', exists_eq_left, IL.ex2, IL.ex3, and_true, true_and, isNop, IL.pWn, IL.pWs, tW, Bool.false_eq_true, if_true, if_false, D.int.injEq, D.bl.injEq, D.str.injEq, D.tup.injEq, D.lst.injEq, D.ref.injEq, setMany, bopS_add, bopS_sub, bopS_mul, bopS_fdiv, bopS_mod, bopS_addt, copS_lt, copS_le, copS_gt, copS_ge, copS_eqi, copS_nei, copS_isN, copS_isnN, bfS_lent, bfS_abs, bfS_max, bfS_min, bfS_int, decide_eq_true_eq, Bool.not_eq_true', decide_eq_false_iff_not, idxS_t, at2_0, at2_1, isi_int, isi_bl, isi_non, isi_str, isi_tup, isi_lst, reduceCtorEq, decide_false, decide_true, Bool.not_true, Bool.not_false, or_false, false_or, or_true, true_or, ite_self, setiR, idxS_l, bfS_lenl, bfS_lists, bfS_listt, slcS_t, slcS_l, slcS_s, newL_f, newL_t, at5_0, at5_1, at5_2, at5_3, at5_4, ix5_1, ix5_2, ix5_3, copS_neb, copS_eqb, copS_isB, idx_fr0, idx_fr1, Ob.lst.injEq, List.set_set]
        split
        · refine h1 _ _ _ _ ⟨_, rfl, fun w => ?_⟩
          simp only [wSs, wS, wE, wEs, wHs, IL.g0, IL.g1, IL.s0, IL.s1, Option.some.injEq, exists_eq_left', exists_eq_left, IL.ex2, IL.ex3, and_true, true_and, isNop, IL.pWn, IL.pWs, tW, Bool.false_eq_true, if_true, if_false, D.int.injEq, D.bl.injEq, D.str.injEq, D.tup.injEq, D.lst.injEq, D.ref.injEq, setMany, bopS_add, bopS_sub, bopS_mul, bopS_fdiv, bopS_mod, bopS_addt, copS_lt, copS_le, copS_gt, copS_ge, copS_eqi, copS_nei, copS_isN, copS_isnN, bfS_lent, bfS_abs, bfS_max, bfS_min, bfS_int, decide_eq_true_eq, Bool.not_eq_true', decide_eq_false_iff_not, idxS_t, at2_0, at2_1, isi_int, isi_bl, isi_non, isi_str, isi_tup, isi_lst, reduceCtorEq, decide_false, decide_true, Bool.not_true, Bool.not_false, or_false, false_or, or_true, true_or, ite_self, setiR, idxS_l, bfS_lenl, bfS_lists, bfS_listt, slcS_t, slcS_l, slcS_s, newL_f, newL_t, at5_0, at5_1, at5_2, at5_3, at5_4, ix5_1, ix5_2, ix5_3, copS_neb, copS_eqb, copS_isB, idx_fr0, idx_fr1, Ob.lst.injEq, List.set_set, gs, idxS_r (gs _)]
          split
          · exact ⟨m1, m2, by decide, m3 _, by decide, m4 _, by omega, fin2 _ _ _⟩
          · exact ⟨by omega, m5 _, fin2 _ _ _⟩
        · simp only [wSs, wS, wE, wEs, wHs, IL.g0, IL.g1, IL.s0, IL.s1, Option.some.injEq, exists_eq_left', exists_eq_left, IL.ex2, IL.ex3, and_true, true_and, isNop, IL.pWn, IL.pWs, tW, Bool.false_eq_true, if_true, if_false, D.int.injEq, D.bl.injEq, D.str.injEq, D.tup.injEq, D.lst.injEq, D.ref.injEq, setMany, bopS_add, bopS_sub, bopS_mul, bopS_fdiv, bopS_mod, bopS_addt, copS_lt, copS_le, copS_gt, copS_ge, copS_eqi, copS_nei, copS_isN, copS_isnN, bfS_lent, bfS_abs, bfS_max, bfS_min, bfS_int, decide_eq_true_eq, Bool.not_eq_true', decide_eq_false_iff_not, idxS_t, at2_0, at2_1, isi_int, isi_bl, isi_non, isi_str, isi_tup, isi_lst, reduceCtorEq, decide_false, decide_true, Bool.not_true, Bool.not_false, or_false, false_or, or_true, true_or, ite_self, setiR, idxS_l, bfS_lenl, bfS_lists, bfS_listt, slcS_t, slcS_l, slcS_s, newL_f, newL_t, at5_0, at5_1, at5_2, at5_3, at5_4, ix5_1, ix5_2, ix5_3, copS_neb, copS_eqb, copS_isB, idx_fr0, idx_fr1, Ob.lst.injEq, List.set_set, gs, idxS_r (gs _)]
          split
          · exact ⟨m1, m2, by decide, m3 _, by decide, m4 _, by omega, fin2 _ _ _⟩
          · exact ⟨by omega, m5 _, fin2 _ _ _⟩
    · exact ⟨m1, m2, by decide, m3 _, by decide, m4 _, by omega, fin _ _ _⟩
  · exact ⟨by omega, m5 _, fin _ _ _⟩
theorem b_law_spread (st : Stmt) (h : sp_spread ds μ P X) : BodyOk Φ C U (d_law_spread st) ds μ P X := by
  obtain ⟨i, rfl, h⟩ := h
  refine ⟨rfl, ?_⟩
  show wSs Φ C U il_law_spread [some (.int i), none, none, none] μ _
  simp only [il_law_spread, wSs, wS, wE, wEs, wHs, IL.g0, IL.g1, IL.s0, IL.s1, Option.some.injEq, exists_eq_left', exists_eq_left, IL.ex2, IL.ex3, and_true, true_and, isNop, IL.pWn, IL.pWs, tW, Bool.false_eq_true, if_true, if_false, D.int.injEq, D.bl.injEq, D.str.injEq, D.tup.injEq, D.lst.injEq, D.ref.injEq, setMany, bopS_add, bopS_sub, bopS_mul, bopS_fdiv, bopS_mod, bopS_addt, copS_lt, copS_le, copS_gt, copS_ge, copS_eqi, copS_nei, copS_isN, copS_isnN, bfS_lent, bfS_abs, bfS_max, bfS_min, bfS_int, decide_eq_true_eq, Bool.not_eq_true', decide_eq_false_iff_not, idxS_t, at2_0, at2_1, isi_int, isi_bl, isi_non, isi_str, isi_tup, isi_lst, reduceCtorEq, decide_false, decide_true, Bool.not_true, Bool.not_false, or_false, false_or, or_true, true_or, ite_self, setiR, idxS_l, bfS_lenl, bfS_lists, bfS_listt, slcS_t, slcS_l, slcS_s, newL_f, newL_t, at5_0, at5_1, at5_2, at5_3, at5_4, ix5_1, ix5_2, ix5_3, copS_neb, copS_eqb, copS_isB, idx_fr0, idx_fr1, Ob.lst.injEq, List.set_set]
  refine ⟨by decide, ?_⟩
  simp only [lp_law_spread_0, itW, itS, wSs, wS, wE, wEs, wHs, IL.g0, IL.g1, IL.s0, IL.s1, Option.some.injEq, exists_eq_left', exists_eq_left, IL.ex2, IL.ex3, and_true, true_and, isNop, IL.pWn, IL.pWs, tW, Bool.false_eq_true, if_true, if_false, D.int.injEq, D.bl.injEq, D.str.injEq, D.tup.injEq, D.lst.injEq, D.ref.injEq, setMany, bopS_add, bopS_sub, bopS_mul, bopS_fdiv, bopS_mod, bopS_addt, copS_lt, copS_le, copS_gt, copS_ge, copS_eqi, copS_nei, copS_isN, copS_isnN, bfS_lent, bfS_abs, bfS_max, bfS_min, bfS_int, decide_eq_true_eq, Bool.not_eq_true', decide_eq_false_iff_not, idxS_t, at2_0, at2_1, isi_int, isi_bl, isi_non, isi_str, isi_tup, isi_lst, reduceCtorEq, decide_false, decide_true, Bool.not_true, Bool.not_false, or_false, false_or, or_true, true_or, ite_self, setiR, idxS_l, bfS_lenl, bfS_lists, bfS_listt, slcS_t, slcS_l, slcS_s, newL_f, newL_t, at5_0, at5_1, at5_2, at5_3, at5_4, ix5_1, ix5_2, ix5_3, copS_neb, copS_eqb, copS_isB, idx_fr0, idx_fr1, Ob.lst.injEq, List.set_set]
  refine ⟨by decide, by decide, loop_rule (fun j ρ μ' => μ' = μ ∧ ∃ (b w : Int) (x : Option D), ρ = [some (.int i), some (.int b), some (.int w), x] ∧ 0 ≤ b ∧ b < 2147483647 ∧ 0 ≤ w ∧ w.natAbs < 2 ^ (32 * j + 1)) (fun j d ρ μ' hd ⟨e1, b, w, x, e2, h1, h2, h3, h4⟩ => ⟨trivial, ?_⟩) (fun ρ μ' ⟨e1, b, w, x, e2, _⟩ => ⟨trivial, ?_⟩) ⟨rfl, _, 1, none, rfl, (fm_of i (by decide)).1, (fm_of i (by decide)).2, by decide, by decide⟩⟩
  · subst e1 e2
    have hj : j < 4 := by
      have := (List.getElem?_eq_some_iff.mp hd).1
      simpa [rngD] using this
    have ed : d = .int j := by
      have : (rngD 0 (4 : Int).toNat)[j]? = some (.int j) := by
        unfold rngD
        rw [List.getElem?_map, List.getElem?_range (by simpa using hj)]
        simp
      rw [this] at hd
      exact (Option.some.inj hd).symm
    subst ed
    intro N hN
    simp only [wSs, wS, wE, wEs, wHs, IL.g0, IL.g1, IL.s0, IL.s1, Option.some.injEq, exists_eq_left', exists_eq_left, IL.ex2, IL.ex3, and_true, true_and, isNop, IL.pWn, IL.pWs, tW, Bool.false_eq_true, if_true, if_false, D.int.injEq, D.bl.injEq, D.str.injEq, D.tup.injEq, D.lst.injEq, D.ref.injEq, setMany, bopS_add, bopS_sub, bopS_mul, bopS_fdiv, bopS_mod, bopS_addt, copS_lt, copS_le, copS_gt, copS_ge, copS_eqi, copS_nei, copS_isN, copS_isnN, bfS_lent, bfS_abs, bfS_max, bfS_min, bfS_int, decide_eq_true_eq, Bool.not_eq_true', decide_eq_false_iff_not, idxS_t, at2_0, at2_1, isi_int, isi_bl, isi_non, isi_str, isi_tup, isi_lst, reduceCtorEq, decide_false, decide_true, Bool.not_true, Bool.not_false, or_false, false_or, or_true, true_or, ite_self, setiR, idxS_l, bfS_lenl, bfS_lists, bfS_listt, slcS_t, slcS_l, slcS_s, newL_f, newL_t, at5_0, at5_1, at5_2, at5_3, at5_4, ix5_1, ix5_2, ix5_3, copS_neb, copS_eqb, copS_isB, idx_fr0, idx_fr1, Ob.lst.injEq, List.set_set]
    have p0 : (2 : Nat) ^ (32 * j + 1) ≤ 2 ^ 150 := Nat.pow_le_pow_right (by decide) (by omega)
    have f := fm_of (b * 48271 + 12345 + j) (b := 2147483647) (by decide)
    refine ⟨mok_s (by omega) (by decide), by decide, mok_s (by omega) (by decide), hN _ _ ⟨rfl, _, _, _, rfl, f.1, f.2, ?_, ?_⟩⟩
    · have := Int.mul_nonneg h3 (b := 2147483647) (by decide); omega
    · have e : (2 : Nat) ^ (32 * (j + 1) + 1) = 2 ^ 32 * 2 ^ (32 * j + 1) := by rw [← Nat.pow_add]; congr 1; omega
      rw [e]
      have : 1 ≤ (2 : Nat) ^ (32 * j + 1) := Nat.one_le_two_pow
      omega
  · subst e1 e2
    simp only [wSs, wS, wE, wEs, wHs, IL.g0, IL.g1, IL.s0, IL.s1, Option.some.injEq, exists_eq_left', exists_eq_left, IL.ex2, IL.ex3, and_true, true_and, isNop, IL.pWn, IL.pWs, tW, Bool.false_eq_true, if_true, if_false, D.int.injEq, D.bl.injEq, D.str.injEq, D.tup.injEq, D.lst.injEq, D.ref.injEq, setMany, bopS_add, bopS_sub, bopS_mul, bopS_fdiv, bopS_mod, bopS_addt, copS_lt, copS_le, copS_gt, copS_ge, copS_eqi, copS_nei, copS_isN, copS_isnN, bfS_lent, bfS_abs, bfS_max, bfS_min, bfS_int, decide_eq_true_eq, Bool.not_eq_true', decide_eq_false_iff_not, idxS_t, at2_0, at2_1, isi_int, isi_bl, isi_non, isi_str, isi_tup, isi_lst, reduceCtorEq, decide_false, decide_true, Bool.not_true, Bool.not_false, or_false, false_or, or_true, true_or, ite_self, setiR, idxS_l, bfS_lenl, bfS_lists, bfS_listt, slcS_t, slcS_l, slcS_s, newL_f, newL_t, at5_0, at5_1, at5_2, at5_3, at5_4, ix5_1, ix5_2, ix5_3, copS_neb, copS_eqb, copS_isB, idx_fr0, idx_fr1, Ob.lst.injEq, List.set_set]
    exact .inl (h w)
def sp_pool : Spec := fun ds μ P X => ∃ ns : List Int, ds = [.scr ns] ∧ ns.length ≤ 63 ∧ ∀ o, Pool 0 o → P (.ref μ.length) (μ ++ [o])
theorem sxZ (n : Nat) (i : Int) : HT.sIx n 0 (some i) ≤ n ∨ True := .inr trivial
theorem b_law_pool (st : Stmt) (h : sp_pool ds μ P X) : BodyOk Φ C U (d_law_pool st) ds μ P X := by
  obtain ⟨ns, rfl, hl, h⟩ := h
  refine ⟨rfl, ?_⟩
  show wSs Φ C U il_law_pool [some (.scr ns), none, none] μ _
  have hz : ns.length ≤ sizeLine := Nat.le_trans hl (by decide)
  have hc : (cut (ns.map D.int) none (some 63)).length ≤ ns.length := by
    unfold cut
    rw [List.length_take, List.length_drop, List.length_map]
    omega
  simp only [il_law_pool, wSs, wS, wE, wEs, wHs, IL.g0, IL.g1, IL.s0, IL.s1, Option.some.injEq, exists_eq_left', exists_eq_left, IL.ex2, IL.ex3, and_true, true_and, isNop, IL.pWn, IL.pWs, tW, Bool.false_eq_true, if_true, if_false, D.int.injEq, D.bl.injEq, D.str.injEq, D.tup.injEq, D.lst.injEq, D.ref.injEq, setMany, bopS_add, bopS_sub, bopS_mul, bopS_fdiv, bopS_mod, bopS_addt, copS_lt, copS_le, copS_gt, copS_ge, copS_eqi, copS_nei, copS_isN, copS_isnN, bfS_lent, bfS_abs, bfS_max, bfS_min, bfS_int, decide_eq_true_eq, Bool.not_eq_true', decide_eq_false_iff_not, idxS_t, at2_0, at2_1, isi_int, isi_bl, isi_non, isi_str, isi_tup, isi_lst, reduceCtorEq, decide_false, decide_true, Bool.not_true, Bool.not_false, or_false, false_or, or_true, true_or, ite_self, setiR, idxS_l, bfS_lenl, bfS_lists, bfS_listt, slcS_t, slcS_l, slcS_s, newL_f, newL_t, at5_0, at5_1, at5_2, at5_3, at5_4, ix5_1, ix5_2, ix5_3, copS_neb, copS_eqb, copS_isB, idx_fr0, idx_fr1, Ob.lst.injEq, List.set_set]
  simp only [lp_law_pool_0, itW, itS, wSs, wS, wE, wEs, wHs, IL.g0, IL.g1, IL.s0, IL.s1, Option.some.injEq, exists_eq_left', exists_eq_left, IL.ex2, IL.ex3, and_true, true_and, isNop, IL.pWn, IL.pWs, tW, Bool.false_eq_true, if_true, if_false, D.int.injEq, D.bl.injEq, D.str.injEq, D.tup.injEq, D.lst.injEq, D.ref.injEq, setMany, bopS_add, bopS_sub, bopS_mul, bopS_fdiv, bopS_mod, bopS_addt, copS_lt, copS_le, copS_gt, copS_ge, copS_eqi, copS_nei, copS_isN, copS_isnN, bfS_lent, bfS_abs, bfS_max, bfS_min, bfS_int, decide_eq_true_eq, Bool.not_eq_true', decide_eq_false_iff_not, idxS_t, at2_0, at2_1, isi_int, isi_bl, isi_non, isi_str, isi_tup, isi_lst, reduceCtorEq, decide_false, decide_true, Bool.not_true, Bool.not_false, or_false, false_or, or_true, true_or, ite_self, setiR, idxS_l, bfS_lenl, bfS_lists, bfS_listt, slcS_t, slcS_l, slcS_s, newL_f, newL_t, at5_0, at5_1, at5_2, at5_3, at5_4, ix5_1, ix5_2, ix5_3, copS_neb, copS_eqb, copS_isB, idx_fr0, idx_fr1, Ob.lst.injEq, List.set_set]
  refine ⟨Nat.le_trans hc hz, _, rfl, loop_rule (fun j ρ μ' => μ' = μ ∧ ∃ (s : Nat) (x : Option D), ρ = [some (.scr ns), some (.int s), x] ∧ s < 1000003) (fun j d ρ μ' hd ⟨e1, s, x, e2, hs⟩ => ⟨trivial, ?_⟩) (fun ρ μ' ⟨e1, s, x, e2, hs⟩ => ⟨trivial, ?_⟩) ⟨rfl, 7, none, rfl, by decide⟩⟩
  · subst e1 e2
    obtain ⟨i, rfl⟩ : ∃ i, d = .int i := by
      have := List.mem_of_getElem? hd
      have := List.mem_of_mem_drop (List.mem_of_mem_take this)
      obtain ⟨i, _, e⟩ := List.mem_map.mp this
      exact ⟨i, e.symm⟩
    intro N hN
    simp only [wSs, wS, wE, wEs, wHs, IL.g0, IL.g1, IL.s0, IL.s1, Option.some.injEq, exists_eq_left', exists_eq_left, IL.ex2, IL.ex3, and_true, true_and, isNop, IL.pWn, IL.pWs, tW, Bool.false_eq_true, if_true, if_false, D.int.injEq, D.bl.injEq, D.str.injEq, D.tup.injEq, D.lst.injEq, D.ref.injEq, setMany, bopS_add, bopS_sub, bopS_mul, bopS_fdiv, bopS_mod, bopS_addt, copS_lt, copS_le, copS_gt, copS_ge, copS_eqi, copS_nei, copS_isN, copS_isnN, bfS_lent, bfS_abs, bfS_max, bfS_min, bfS_int, decide_eq_true_eq, Bool.not_eq_true', decide_eq_false_iff_not, idxS_t, at2_0, at2_1, isi_int, isi_bl, isi_non, isi_str, isi_tup, isi_lst, reduceCtorEq, decide_false, decide_true, Bool.not_true, Bool.not_false, or_false, false_or, or_true, true_or, ite_self, setiR, idxS_l, bfS_lenl, bfS_lists, bfS_listt, slcS_t, slcS_l, slcS_s, newL_f, newL_t, at5_0, at5_1, at5_2, at5_3, at5_4, ix5_1, ix5_2, ix5_3, copS_neb, copS_eqb, copS_isB, idx_fr0, idx_fr1, Ob.lst.injEq, List.set_set]
    have f := fm_of (s * 31 + i) (b := 1000003) (by decide)
    refine ⟨mok_s (by omega) (by decide), by decide, hN _ _ ⟨rfl, ((s * 31 + i : Int).fmod 1000003).toNat, some (.int i), ?_, by omega⟩⟩
    rw [Int.toNat_of_nonneg f.1]
  · subst e1 e2
    simp only [wSs, wS, wE, wEs, wHs, IL.g0, IL.g1, IL.s0, IL.s1, Option.some.injEq, exists_eq_left', exists_eq_left, IL.ex2, IL.ex3, and_true, true_and, isNop, IL.pWn, IL.pWs, tW, Bool.false_eq_true, if_true, if_false, D.int.injEq, D.bl.injEq, D.str.injEq, D.tup.injEq, D.lst.injEq, D.ref.injEq, setMany, bopS_add, bopS_sub, bopS_mul, bopS_fdiv, bopS_mod, bopS_addt, copS_lt, copS_le, copS_gt, copS_ge, copS_eqi, copS_nei, copS_isN, copS_isnN, bfS_lent, bfS_abs, bfS_max, bfS_min, bfS_int, decide_eq_true_eq, Bool.not_eq_true', decide_eq_false_iff_not, idxS_t, at2_0, at2_1, isi_int, isi_bl, isi_non, isi_str, isi_tup, isi_lst, reduceCtorEq, decide_false, decide_true, Bool.not_true, Bool.not_false, or_false, false_or, or_true, true_or, ite_self, setiR, idxS_l, bfS_lenl, bfS_lists, bfS_listt, slcS_t, slcS_l, slcS_s, newL_f, newL_t, at5_0, at5_1, at5_2, at5_3, at5_4, ix5_1, ix5_2, ix5_3, copS_neb, copS_eqb, copS_isB, idx_fr0, idx_fr1, Ob.lst.injEq, List.set_set]
    refine ⟨by rw [List.length_map]; exact hz, (show 5 ≤ sizeLine by decide), .inl (h _ ⟨ns, 0, 0, 0, s, rfl, Nat.le_refl _, hs⟩)⟩
end
end IL

/-! the laws' own fractions -/
namespace IL
open PySem L2
section
variable {Φ : Str → Spec} {C : Str → Option D} {U : Str → Str → Option Bool} {μ : Store} {P : DQ} {X : XQ} {ds : List D}
theorem w_law_gcd {K : Ctl} (a b : Nat) (h : K.nx [some (.int (Nat.gcd a b)), some (.int 0)] μ) : wS Φ C U lp_law_gcd_0 [some (.int a), some (.int b)] μ K := by
  show ∃ n, whlW _ _ n _ μ K
  refine whl_rule (fun m ρ μ' => ∃ a : Nat, ρ = [some (.int a), some (.int m)] ∧ μ' = μ ∧ K.nx [some (.int (Nat.gcd a m)), some (.int 0)] μ) (fun m ρ μ' ⟨a, e1, e2, h⟩ N hN => ?_) (m := b) ⟨a, rfl, rfl, h⟩
  subst e1 e2
  simp only [wSs, wS, wE, wEs, wHs, IL.g0, IL.g1, IL.s0, IL.s1, Option.some.injEq, exists_eq_left', exists_eq_left, IL.ex2, IL.ex3, and_true, true_and, isNop, IL.pWn, IL.pWs, tW, Bool.false_eq_true, if_true, if_false, D.int.injEq, D.bl.injEq, D.str.injEq, D.tup.injEq, D.lst.injEq, D.ref.injEq, setMany, bopS_add, bopS_sub, bopS_mul, bopS_fdiv, bopS_mod, bopS_addt, copS_lt, copS_le, copS_gt, copS_ge, copS_eqi, copS_nei, copS_isN, copS_isnN, bfS_lent, bfS_abs, bfS_max, bfS_min, bfS_int, decide_eq_true_eq, Bool.not_eq_true', decide_eq_false_iff_not, idxS_t, at2_0, at2_1, isi_int, isi_bl, isi_non, isi_str, isi_tup, isi_lst, reduceCtorEq, decide_false, decide_true, Bool.not_true, Bool.not_false, or_false, false_or, or_true, true_or, ite_self, setiR, idxS_l, bfS_lenl, bfS_lists, bfS_listt, slcS_t, slcS_l, slcS_s, newL_f, newL_t, at5_0, at5_1, at5_2, at5_3, at5_4, ix5_1, ix5_2, ix5_3, copS_neb, copS_eqb, copS_isB, idx_fr0, idx_fr1, Ob.lst.injEq, List.set_set]
  by_cases hm : m = 0
  · subst hm
    rw [if_neg (by omega)]
    simpa using h
  · rw [if_pos (by omega)]
    refine ⟨by omega, rfl, hN (a % m) _ _ (Nat.mod_lt _ (by omega)) ⟨m, ?_, rfl, ?_⟩⟩
    · rw [show (a : Int).fmod m = ((a % m : Nat) : Int) by rw [Int.fmod_eq_emod_of_nonneg _ (by omega)]; simp]
    · rw [Nat.gcd_comm, ← Nat.gcd_rec, Nat.gcd_comm]; exact h
theorem b_law_gcd (st : Stmt) (h : sp_common ds μ P X) : BodyOk Φ C U (d_law_gcd st) ds μ P X := by
  obtain ⟨a, b, rfl, h⟩ := h
  refine ⟨rfl, ?_⟩
  show wSs Φ C U il_law_gcd [some (.int a), some (.int b)] μ _
  simp only [il_law_gcd, wSs, wS, wE, wEs, wHs, IL.g0, IL.g1, IL.s0, IL.s1, Option.some.injEq, exists_eq_left', exists_eq_left, IL.ex2, IL.ex3, and_true, true_and, isNop, IL.pWn, IL.pWs, tW, Bool.false_eq_true, if_true, if_false, D.int.injEq, D.bl.injEq, D.str.injEq, D.tup.injEq, D.lst.injEq, D.ref.injEq, setMany, bopS_add, bopS_sub, bopS_mul, bopS_fdiv, bopS_mod, bopS_addt, copS_lt, copS_le, copS_gt, copS_ge, copS_eqi, copS_nei, copS_isN, copS_isnN, bfS_lent, bfS_abs, bfS_max, bfS_min, bfS_int, decide_eq_true_eq, Bool.not_eq_true', decide_eq_false_iff_not, idxS_t, at2_0, at2_1, isi_int, isi_bl, isi_non, isi_str, isi_tup, isi_lst, reduceCtorEq, decide_false, decide_true, Bool.not_true, Bool.not_false, or_false, false_or, or_true, true_or, ite_self, setiR, idxS_l, bfS_lenl, bfS_lists, bfS_listt, slcS_t, slcS_l, slcS_s, newL_f, newL_t, at5_0, at5_1, at5_2, at5_3, at5_4, ix5_1, ix5_2, ix5_3, copS_neb, copS_eqb, copS_isB, idx_fr0, idx_fr1, Ob.lst.injEq, List.set_set]
  have e : ∀ i : Int, (if i < 0 then -i else i) = (i.natAbs : Int) := fun i => by split <;> omega
  rw [e, e]
  refine ⟨rfl, w_law_gcd _ _ ?_⟩
  simp only [wSs, wS, wE, wEs, wHs, IL.g0, IL.g1, IL.s0, IL.s1, Option.some.injEq, exists_eq_left', exists_eq_left, IL.ex2, IL.ex3, and_true, true_and, isNop, IL.pWn, IL.pWs, tW, Bool.false_eq_true, if_true, if_false, D.int.injEq, D.bl.injEq, D.str.injEq, D.tup.injEq, D.lst.injEq, D.ref.injEq, setMany, bopS_add, bopS_sub, bopS_mul, bopS_fdiv, bopS_mod, bopS_addt, copS_lt, copS_le, copS_gt, copS_ge, copS_eqi, copS_nei, copS_isN, copS_isnN, bfS_lent, bfS_abs, bfS_max, bfS_min, bfS_int, decide_eq_true_eq, Bool.not_eq_true', decide_eq_false_iff_not, idxS_t, at2_0, at2_1, isi_int, isi_bl, isi_non, isi_str, isi_tup, isi_lst, reduceCtorEq, decide_false, decide_true, Bool.not_true, Bool.not_false, or_false, false_or, or_true, true_or, ite_self, setiR, idxS_l, bfS_lenl, bfS_lists, bfS_listt, slcS_t, slcS_l, slcS_s, newL_f, newL_t, at5_0, at5_1, at5_2, at5_3, at5_4, ix5_1, ix5_2, ix5_3, copS_neb, copS_eqb, copS_isB, idx_fr0, idx_fr1, Ob.lst.injEq, List.set_set]
  exact .inl h
def sp_f : Spec := fun ds μ P X => ∃ p q : Int, ds = [.int p, .int q] ∧ q ≠ 0 ∧ P (fr (Rat.divInt p q)) μ
theorem f_end {p q : Int} (hq : 0 < q) (h3 : P (fr (Rat.divInt p q)) μ) :
    divOk p (if (Int.gcd p q : Int) > 1 then (Int.gcd p q : Int) else 1) ∧ divOk q (if (Int.gcd p q : Int) > 1 then (Int.gcd p q : Int) else 1) ∧ P (.tup [.int (p.fdiv (if (Int.gcd p q : Int) > 1 then (Int.gcd p q : Int) else 1)), .int (q.fdiv (if (Int.gcd p q : Int) > 1 then (Int.gcd p q : Int) else 1))]) μ := by
  have hg := gcd_pos_r (p := p) (q := q) (by omega)
  rw [show (if (Int.gcd p q : Int) > 1 then (Int.gcd p q : Int) else 1) = Int.gcd p q by split <;> omega]
  obtain ⟨e1, e2⟩ := di_parts (p := p) (q := q) (by omega)
  have ok : ∀ i, divOk i (q.sign * Int.gcd p q) := fun i => divOk_g (by omega)
  unfold fr at h3
  rw [e1, e2] at h3
  rw [Int.sign_eq_one_of_pos hq, Int.one_mul] at ok h3
  exact ⟨ok p, ok q, h3⟩
theorem b_law_f (st : Stmt) (h1 : Has Φ "_law_gcd" sp_common) (h : sp_f ds μ P X) : BodyOk Φ C U (d_law_f st) ds μ P X := by
  obtain ⟨p, q, rfl, hq, h3⟩ := h
  refine ⟨rfl, ?_⟩
  show wSs Φ C U il_law_f [some (.int p), some (.int q), none] μ _
  simp only [il_law_f, wSs, wS, wE, wEs, wHs, IL.g0, IL.g1, IL.s0, IL.s1, Option.some.injEq, exists_eq_left', exists_eq_left, IL.ex2, IL.ex3, and_true, true_and, isNop, IL.pWn, IL.pWs, tW, Bool.false_eq_true, if_true, if_false, D.int.injEq, D.bl.injEq, D.str.injEq, D.tup.injEq, D.lst.injEq, D.ref.injEq, setMany, bopS_add, bopS_sub, bopS_mul, bopS_fdiv, bopS_mod, bopS_addt, copS_lt, copS_le, copS_gt, copS_ge, copS_eqi, copS_nei, copS_isN, copS_isnN, bfS_lent, bfS_abs, bfS_max, bfS_min, bfS_int, decide_eq_true_eq, Bool.not_eq_true', decide_eq_false_iff_not, idxS_t, at2_0, at2_1, isi_int, isi_bl, isi_non, isi_str, isi_tup, isi_lst, reduceCtorEq, decide_false, decide_true, Bool.not_true, Bool.not_false, or_false, false_or, or_true, true_or, ite_self, setiR, idxS_l, bfS_lenl, bfS_lists, bfS_listt, slcS_t, slcS_l, slcS_s, newL_f, newL_t, at5_0, at5_1, at5_2, at5_3, at5_4, ix5_1, ix5_2, ix5_3, copS_neb, copS_eqb, copS_isB, idx_fr0, idx_fr1, Ob.lst.injEq, List.set_set]
  split
  · refine ⟨rfl, h1 _ _ _ _ ⟨_, _, rfl, ?_⟩⟩
    rw [show (0 : Int) - p = -p by omega, show (0 : Int) - q = -q by omega]
    have := f_end (p := -p) (q := -q) (P := P) (μ := μ) (by omega) (by rw [Rat.neg_divInt_neg]; exact h3)
    exact ⟨this.1, this.2.1, (show 2 ≤ sizeLine by decide), .inl this.2.2⟩
  · refine h1 _ _ _ _ ⟨_, _, rfl, ?_⟩
    have := f_end (p := p) (q := q) (P := P) (μ := μ) (by omega) h3
    exact ⟨this.1, this.2.1, (show 2 ≤ sizeLine by decide), .inl this.2.2⟩
theorem b_law_add (st : Stmt) (h1 : Has Φ "_law_f" sp_f) (h : sp_plus ds μ P X) : BodyOk Φ C U (d_law_add st) ds μ P X := by
  obtain ⟨a, b, rfl, hz, h⟩ := h
  refine ⟨rfl, ?_⟩
  show wSs Φ C U il_law_add [some (fr a), some (fr b)] μ _
  simp only [il_law_add, fr, wSs, wS, wE, wEs, wHs, IL.g0, IL.g1, IL.s0, IL.s1, Option.some.injEq, exists_eq_left', exists_eq_left, IL.ex2, IL.ex3, and_true, true_and, isNop, IL.pWn, IL.pWs, tW, Bool.false_eq_true, if_true, if_false, D.int.injEq, D.bl.injEq, D.str.injEq, D.tup.injEq, D.lst.injEq, D.ref.injEq, setMany, bopS_add, bopS_sub, bopS_mul, bopS_fdiv, bopS_mod, bopS_addt, copS_lt, copS_le, copS_gt, copS_ge, copS_eqi, copS_nei, copS_isN, copS_isnN, bfS_lent, bfS_abs, bfS_max, bfS_min, bfS_int, decide_eq_true_eq, Bool.not_eq_true', decide_eq_false_iff_not, idxS_t, at2_0, at2_1, isi_int, isi_bl, isi_non, isi_str, isi_tup, isi_lst, reduceCtorEq, decide_false, decide_true, Bool.not_true, Bool.not_false, or_false, false_or, or_true, true_or, ite_self, setiR, idxS_l, bfS_lenl, bfS_lists, bfS_listt, slcS_t, slcS_l, slcS_s, newL_f, newL_t, at5_0, at5_1, at5_2, at5_3, at5_4, ix5_1, ix5_2, ix5_3, copS_neb, copS_eqb, copS_isB, idx_fr0, idx_fr1, Ob.lst.injEq, List.set_set]
  refine ⟨mok_nd hz, mok_nd (by omega), mok_dd hz, h1 _ _ _ _ ⟨_, _, rfl, dd_ne a b, .inl ?_⟩⟩
  rw [add_di]; exact h
theorem b_law_sub (st : Stmt) (h1 : Has Φ "_law_f" sp_f) (h : sp_minus ds μ P X) : BodyOk Φ C U (d_law_sub st) ds μ P X := by
  obtain ⟨a, b, rfl, hz, h⟩ := h
  refine ⟨rfl, ?_⟩
  show wSs Φ C U il_law_sub [some (fr a), some (fr b)] μ _
  simp only [il_law_sub, fr, wSs, wS, wE, wEs, wHs, IL.g0, IL.g1, IL.s0, IL.s1, Option.some.injEq, exists_eq_left', exists_eq_left, IL.ex2, IL.ex3, and_true, true_and, isNop, IL.pWn, IL.pWs, tW, Bool.false_eq_true, if_true, if_false, D.int.injEq, D.bl.injEq, D.str.injEq, D.tup.injEq, D.lst.injEq, D.ref.injEq, setMany, bopS_add, bopS_sub, bopS_mul, bopS_fdiv, bopS_mod, bopS_addt, copS_lt, copS_le, copS_gt, copS_ge, copS_eqi, copS_nei, copS_isN, copS_isnN, bfS_lent, bfS_abs, bfS_max, bfS_min, bfS_int, decide_eq_true_eq, Bool.not_eq_true', decide_eq_false_iff_not, idxS_t, at2_0, at2_1, isi_int, isi_bl, isi_non, isi_str, isi_tup, isi_lst, reduceCtorEq, decide_false, decide_true, Bool.not_true, Bool.not_false, or_false, false_or, or_true, true_or, ite_self, setiR, idxS_l, bfS_lenl, bfS_lists, bfS_listt, slcS_t, slcS_l, slcS_s, newL_f, newL_t, at5_0, at5_1, at5_2, at5_3, at5_4, ix5_1, ix5_2, ix5_3, copS_neb, copS_eqb, copS_isB, idx_fr0, idx_fr1, Ob.lst.injEq, List.set_set]
  refine ⟨mok_nd hz, mok_nd (by omega), mok_dd hz, h1 _ _ _ _ ⟨_, _, rfl, dd_ne a b, .inl ?_⟩⟩
  rw [sub_di]; exact h
theorem b_law_mul (st : Stmt) (h1 : Has Φ "_law_f" sp_f) (h : sp_times ds μ P X) : BodyOk Φ C U (d_law_mul st) ds μ P X := by
  obtain ⟨a, b, rfl, hz, h⟩ := h
  refine ⟨rfl, ?_⟩
  show wSs Φ C U il_law_mul [some (fr a), some (fr b)] μ _
  simp only [il_law_mul, fr, wSs, wS, wE, wEs, wHs, IL.g0, IL.g1, IL.s0, IL.s1, Option.some.injEq, exists_eq_left', exists_eq_left, IL.ex2, IL.ex3, and_true, true_and, isNop, IL.pWn, IL.pWs, tW, Bool.false_eq_true, if_true, if_false, D.int.injEq, D.bl.injEq, D.str.injEq, D.tup.injEq, D.lst.injEq, D.ref.injEq, setMany, bopS_add, bopS_sub, bopS_mul, bopS_fdiv, bopS_mod, bopS_addt, copS_lt, copS_le, copS_gt, copS_ge, copS_eqi, copS_nei, copS_isN, copS_isnN, bfS_lent, bfS_abs, bfS_max, bfS_min, bfS_int, decide_eq_true_eq, Bool.not_eq_true', decide_eq_false_iff_not, idxS_t, at2_0, at2_1, isi_int, isi_bl, isi_non, isi_str, isi_tup, isi_lst, reduceCtorEq, decide_false, decide_true, Bool.not_true, Bool.not_false, or_false, false_or, or_true, true_or, ite_self, setiR, idxS_l, bfS_lenl, bfS_lists, bfS_listt, slcS_t, slcS_l, slcS_s, newL_f, newL_t, at5_0, at5_1, at5_2, at5_3, at5_4, ix5_1, ix5_2, ix5_3, copS_neb, copS_eqb, copS_isB, idx_fr0, idx_fr1, Ob.lst.injEq, List.set_set]
  refine ⟨mok_nn hz, mok_dd hz, h1 _ _ _ _ ⟨_, _, rfl, dd_ne a b, .inl ?_⟩⟩
  rw [mul_di]; exact h
def sp_ldiv : Spec := fun ds μ P X => ∃ a b, ds = [fr a, fr b] ∧ bz a + bz b ≤ 100000000 ∧ b ≠ 0 ∧ P (fr (a / b)) μ
theorem b_law_div (st : Stmt) (h1 : Has Φ "_law_f" sp_f) (h : sp_ldiv ds μ P X) : BodyOk Φ C U (d_law_div st) ds μ P X := by
  obtain ⟨a, b, rfl, hz, hb, h⟩ := h
  refine ⟨rfl, ?_⟩
  show wSs Φ C U il_law_div [some (fr a), some (fr b)] μ _
  simp only [il_law_div, fr, wSs, wS, wE, wEs, wHs, IL.g0, IL.g1, IL.s0, IL.s1, Option.some.injEq, exists_eq_left', exists_eq_left, IL.ex2, IL.ex3, and_true, true_and, isNop, IL.pWn, IL.pWs, tW, Bool.false_eq_true, if_true, if_false, D.int.injEq, D.bl.injEq, D.str.injEq, D.tup.injEq, D.lst.injEq, D.ref.injEq, setMany, bopS_add, bopS_sub, bopS_mul, bopS_fdiv, bopS_mod, bopS_addt, copS_lt, copS_le, copS_gt, copS_ge, copS_eqi, copS_nei, copS_isN, copS_isnN, bfS_lent, bfS_abs, bfS_max, bfS_min, bfS_int, decide_eq_true_eq, Bool.not_eq_true', decide_eq_false_iff_not, idxS_t, at2_0, at2_1, isi_int, isi_bl, isi_non, isi_str, isi_tup, isi_lst, reduceCtorEq, decide_false, decide_true, Bool.not_true, Bool.not_false, or_false, false_or, or_true, true_or, ite_self, setiR, idxS_l, bfS_lenl, bfS_lists, bfS_listt, slcS_t, slcS_l, slcS_s, newL_f, newL_t, at5_0, at5_1, at5_2, at5_3, at5_4, ix5_1, ix5_2, ix5_3, copS_neb, copS_eqb, copS_isB, idx_fr0, idx_fr1, Ob.lst.injEq, List.set_set]
  refine ⟨mok_nd hz, mok_dn hz, h1 _ _ _ _ ⟨_, _, rfl, Int.mul_ne_zero (den_ne a) (num_ne hb), .inl ?_⟩⟩
  rw [div_di]; exact h
theorem b_law_less (st : Stmt) (h : sp_less ds μ P X) : BodyOk Φ C U (d_law_less st) ds μ P X := by
  obtain ⟨a, b, rfl, hz, h⟩ := h
  refine ⟨rfl, ?_⟩
  show wSs Φ C U il_law_less [some (fr a), some (fr b)] μ _
  simp only [il_law_less, fr, wSs, wS, wE, wEs, wHs, IL.g0, IL.g1, IL.s0, IL.s1, Option.some.injEq, exists_eq_left', exists_eq_left, IL.ex2, IL.ex3, and_true, true_and, isNop, IL.pWn, IL.pWs, tW, Bool.false_eq_true, if_true, if_false, D.int.injEq, D.bl.injEq, D.str.injEq, D.tup.injEq, D.lst.injEq, D.ref.injEq, setMany, bopS_add, bopS_sub, bopS_mul, bopS_fdiv, bopS_mod, bopS_addt, copS_lt, copS_le, copS_gt, copS_ge, copS_eqi, copS_nei, copS_isN, copS_isnN, bfS_lent, bfS_abs, bfS_max, bfS_min, bfS_int, decide_eq_true_eq, Bool.not_eq_true', decide_eq_false_iff_not, idxS_t, at2_0, at2_1, isi_int, isi_bl, isi_non, isi_str, isi_tup, isi_lst, reduceCtorEq, decide_false, decide_true, Bool.not_true, Bool.not_false, or_false, false_or, or_true, true_or, ite_self, setiR, idxS_l, bfS_lenl, bfS_lists, bfS_listt, slcS_t, slcS_l, slcS_s, newL_f, newL_t, at5_0, at5_1, at5_2, at5_3, at5_4, ix5_1, ix5_2, ix5_3, copS_neb, copS_eqb, copS_isB, idx_fr0, idx_fr1, Ob.lst.injEq, List.set_set]
  refine ⟨mok_nd hz, mok_nd (by omega), .inl ?_⟩
  rw [decide_eq_decide.mpr (Rat.lt_iff a b).symm]; exact h
def sp_swing : Spec := fun ds μ P X => ∃ p x, ds = [fr p, fr x] ∧ bz p + bz x ≤ 40000000 ∧ 1 - p * x ≠ 0 ∧ P (fr (turnQ p x)) μ
theorem b_law_swing (st : Stmt) (h1 : Has Φ "_law_sub" sp_minus) (h2 : Has Φ "_law_mul" sp_times) (h3 : Has Φ "_law_div" sp_ldiv) (h : sp_swing ds μ P X) : BodyOk Φ C U (d_law_swing st) ds μ P X := by
  obtain ⟨p, x, rfl, hz, hx, h⟩ := h
  refine ⟨rfl, ?_⟩
  show wSs Φ C U il_law_swing [some (fr p), some (fr x)] μ _
  have z1 := bz_sub x p
  have z2 := bz_mul p x
  have z3 := bz_sub 1 (p * x)
  rw [bz_one] at z3
  simp only [il_law_swing, wSs, wS, wE, wEs, wHs, IL.g0, IL.g1, IL.s0, IL.s1, Option.some.injEq, exists_eq_left', exists_eq_left, IL.ex2, IL.ex3, and_true, true_and, isNop, IL.pWn, IL.pWs, tW, Bool.false_eq_true, if_true, if_false, D.int.injEq, D.bl.injEq, D.str.injEq, D.tup.injEq, D.lst.injEq, D.ref.injEq, setMany, bopS_add, bopS_sub, bopS_mul, bopS_fdiv, bopS_mod, bopS_addt, copS_lt, copS_le, copS_gt, copS_ge, copS_eqi, copS_nei, copS_isN, copS_isnN, bfS_lent, bfS_abs, bfS_max, bfS_min, bfS_int, decide_eq_true_eq, Bool.not_eq_true', decide_eq_false_iff_not, idxS_t, at2_0, at2_1, isi_int, isi_bl, isi_non, isi_str, isi_tup, isi_lst, reduceCtorEq, decide_false, decide_true, Bool.not_true, Bool.not_false, or_false, false_or, or_true, true_or, ite_self, setiR, idxS_l, bfS_lenl, bfS_lists, bfS_listt, slcS_t, slcS_l, slcS_s, newL_f, newL_t, at5_0, at5_1, at5_2, at5_3, at5_4, ix5_1, ix5_2, ix5_3, copS_neb, copS_eqb, copS_isB, idx_fr0, idx_fr1, Ob.lst.injEq, List.set_set, fr_one]
  exact h1 _ _ _ _ ⟨x, p, rfl, by omega, (show 2 ≤ sizeLine by decide), h2 _ _ _ _ ⟨p, x, rfl, by omega, h1 _ _ _ _ ⟨1, _, rfl, by rw [bz_one]; omega, h3 _ _ _ _ ⟨_, _, rfl, by omega, hx, .inl h⟩⟩⟩⟩
/-! drawn fractions -/
theorem bz_fr {p q : Int} {k : Nat} (hk : 1 ≤ k) (hq : 0 < q) (h1 : p.natAbs < 2 ^ k) (h2 : q < 2 ^ k) : bz (Rat.divInt p q) ≤ k :=
  bz_di hk (by omega) h1 (by have : ((2 ^ k : Nat) : Int) = 2 ^ k := by simp
                             omega)
theorem di_lt {p q a : Int} (hq : 0 < q) : Rat.divInt p q < a ↔ p < a * q := by
  have hq' : (0 : Rat) < q := Rat.intCast_pos.mpr hq
  rw [Rat.divInt_eq_div, Rat.div_lt_iff hq', ← Rat.intCast_mul, Rat.intCast_lt_intCast]
theorem lt_di {p q a : Int} (hq : 0 < q) : a < Rat.divInt p q ↔ a * q < p := by
  have hq' : (0 : Rat) < q := Rat.intCast_pos.mpr hq
  rw [Rat.divInt_eq_div, Rat.lt_div_iff hq', ← Rat.intCast_mul, Rat.intCast_lt_intCast]
def sp_place : Spec := fun ds μ P X => ∃ n c o, ds = [.ref n] ∧ μ[n]? = some o ∧ Pool c o ∧ c + 100 < 2 ^ 64 ∧ ∀ q o', -1 < q → q < 1 → bz q ≤ 3 → Pool (c + 2) o' → P (fr q) (μ.set n o')
theorem b_law_place (st : Stmt) (h1 : Has Φ "_law_draw" sp_draw) (h2 : Has Φ "_law_f" sp_f) (h : sp_place ds μ P X) : BodyOk Φ C U (d_law_place st) ds μ P X := by
  obtain ⟨n, c, o, rfl, hμ, hp, hc, h⟩ := h
  refine ⟨rfl, ?_⟩
  show wSs Φ C U il_law_place [some (.ref n), none] μ _
  simp only [il_law_place, wSs, wS, wE, wEs, wHs, IL.g0, IL.g1, IL.s0, IL.s1, Option.some.injEq, exists_eq_left', exists_eq_left, IL.ex2, IL.ex3, and_true, true_and, isNop, IL.pWn, IL.pWs, tW, Bool.false_eq_true, if_true, if_false, D.int.injEq, D.bl.injEq, D.str.injEq, D.tup.injEq, D.lst.injEq, D.ref.injEq, setMany, bopS_add, bopS_sub, bopS_mul, bopS_fdiv, bopS_mod, bopS_addt, copS_lt, copS_le, copS_gt, copS_ge, copS_eqi, copS_nei, copS_isN, copS_isnN, bfS_lent, bfS_abs, bfS_max, bfS_min, bfS_int, decide_eq_true_eq, Bool.not_eq_true', decide_eq_false_iff_not, idxS_t, at2_0, at2_1, isi_int, isi_bl, isi_non, isi_str, isi_tup, isi_lst, reduceCtorEq, decide_false, decide_true, Bool.not_true, Bool.not_false, or_false, false_or, or_true, true_or, ite_self, setiR, idxS_l, bfS_lenl, bfS_lists, bfS_listt, slcS_t, slcS_l, slcS_s, newL_f, newL_t, at5_0, at5_1, at5_2, at5_3, at5_4, ix5_1, ix5_2, ix5_3, copS_neb, copS_eqb, copS_isB, idx_fr0, idx_fr1, Ob.lst.injEq, List.set_set]
  refine h1 _ _ _ _ ⟨n, 6, c, o, rfl, by decide, by decide, hμ, hp, by omega, fun v o' hv0 hv1 hp' => ?_⟩
  refine ⟨mok_s (by decide) (by omega), h1 _ _ _ _ ⟨n, _, _, _, rfl, by omega, by omega, gs_of hμ o', hp', by omega, fun u o'' hu0 hu1 hp'' => h2 _ _ _ _ ⟨_, _, rfl, by omega, ?_⟩⟩⟩
  rw [List.set_set]
  refine .inl (h _ _ ?_ ?_ (bz_fr (by decide) (by omega) (by omega) (by omega)) hp'')
  · exact (lt_di (a := -1) (by omega)).mpr (by omega)
  · exact (di_lt (a := 1) (by omega)).mpr (by omega)
def sp_level : Spec := fun ds μ P X => ∃ n c o, ds = [.ref n] ∧ μ[n]? = some o ∧ Pool c o ∧ c + 100 < 2 ^ 64 ∧ ∀ q o', ¬ q < -1 → ¬ 1 < q → bz q ≤ 3 → Pool (c + 2) o' → P (fr q) (μ.set n o')
theorem b_law_level (st : Stmt) (h1 : Has Φ "_law_draw" sp_draw) (h2 : Has Φ "_law_f" sp_f) (h : sp_level ds μ P X) : BodyOk Φ C U (d_law_level st) ds μ P X := by
  obtain ⟨n, c, o, rfl, hμ, hp, hc, h⟩ := h
  refine ⟨rfl, ?_⟩
  show wSs Φ C U il_law_level [some (.ref n), none] μ _
  simp only [il_law_level, wSs, wS, wE, wEs, wHs, IL.g0, IL.g1, IL.s0, IL.s1, Option.some.injEq, exists_eq_left', exists_eq_left, IL.ex2, IL.ex3, and_true, true_and, isNop, IL.pWn, IL.pWs, tW, Bool.false_eq_true, if_true, if_false, D.int.injEq, D.bl.injEq, D.str.injEq, D.tup.injEq, D.lst.injEq, D.ref.injEq, setMany, bopS_add, bopS_sub, bopS_mul, bopS_fdiv, bopS_mod, bopS_addt, copS_lt, copS_le, copS_gt, copS_ge, copS_eqi, copS_nei, copS_isN, copS_isnN, bfS_lent, bfS_abs, bfS_max, bfS_min, bfS_int, decide_eq_true_eq, Bool.not_eq_true', decide_eq_false_iff_not, idxS_t, at2_0, at2_1, isi_int, isi_bl, isi_non, isi_str, isi_tup, isi_lst, reduceCtorEq, decide_false, decide_true, Bool.not_true, Bool.not_false, or_false, false_or, or_true, true_or, ite_self, setiR, idxS_l, bfS_lenl, bfS_lists, bfS_listt, slcS_t, slcS_l, slcS_s, newL_f, newL_t, at5_0, at5_1, at5_2, at5_3, at5_4, ix5_1, ix5_2, ix5_3, copS_neb, copS_eqb, copS_isB, idx_fr0, idx_fr1, Ob.lst.injEq, List.set_set]
  refine h1 _ _ _ _ ⟨n, 6, c, o, rfl, by decide, by decide, hμ, hp, by omega, fun v o' hv0 hv1 hp' => ?_⟩
  refine ⟨mok_s (by decide) (by omega), h1 _ _ _ _ ⟨n, _, _, _, rfl, by omega, by omega, gs_of hμ o', hp', by omega, fun u o'' hu0 hu1 hp'' => h2 _ _ _ _ ⟨_, _, rfl, by omega, ?_⟩⟩⟩
  rw [List.set_set]
  refine .inl (h _ _ (fun z => ?_) (fun z => ?_) (bz_fr (by decide) (by omega) (by omega) (by omega)) hp'')
  · have := (di_lt (a := -1) (by omega)).mp z; omega
  · have := (lt_di (a := 1) (by omega)).mp z; omega
def sp_any : Spec := fun ds μ P X => ∃ n c o, ds = [.ref n] ∧ μ[n]? = some o ∧ Pool c o ∧ c + 100 < 2 ^ 64 ∧ ∀ q o', bz q ≤ 4 → Pool (c + 2) o' → P (fr q) (μ.set n o')
theorem b_law_any (st : Stmt) (h1 : Has Φ "_law_draw" sp_draw) (h2 : Has Φ "_law_f" sp_f) (h : sp_any ds μ P X) : BodyOk Φ C U (d_law_any st) ds μ P X := by
  obtain ⟨n, c, o, rfl, hμ, hp, hc, h⟩ := h
  refine ⟨rfl, ?_⟩
  show wSs Φ C U il_law_any [some (.ref n)] μ _
  simp only [il_law_any, wSs, wS, wE, wEs, wHs, IL.g0, IL.g1, IL.s0, IL.s1, Option.some.injEq, exists_eq_left', exists_eq_left, IL.ex2, IL.ex3, and_true, true_and, isNop, IL.pWn, IL.pWs, tW, Bool.false_eq_true, if_true, if_false, D.int.injEq, D.bl.injEq, D.str.injEq, D.tup.injEq, D.lst.injEq, D.ref.injEq, setMany, bopS_add, bopS_sub, bopS_mul, bopS_fdiv, bopS_mod, bopS_addt, copS_lt, copS_le, copS_gt, copS_ge, copS_eqi, copS_nei, copS_isN, copS_isnN, bfS_lent, bfS_abs, bfS_max, bfS_min, bfS_int, decide_eq_true_eq, Bool.not_eq_true', decide_eq_false_iff_not, idxS_t, at2_0, at2_1, isi_int, isi_bl, isi_non, isi_str, isi_tup, isi_lst, reduceCtorEq, decide_false, decide_true, Bool.not_true, Bool.not_false, or_false, false_or, or_true, true_or, ite_self, setiR, idxS_l, bfS_lenl, bfS_lists, bfS_listt, slcS_t, slcS_l, slcS_s, newL_f, newL_t, at5_0, at5_1, at5_2, at5_3, at5_4, ix5_1, ix5_2, ix5_3, copS_neb, copS_eqb, copS_isB, idx_fr0, idx_fr1, Ob.lst.injEq, List.set_set]
  refine h1 _ _ _ _ ⟨n, 21, c, o, rfl, by decide, by decide, hμ, hp, by omega, fun v o' hv0 hv1 hp' => ?_⟩
  refine h1 _ _ _ _ ⟨n, _, _, _, rfl, by omega, by omega, gs_of hμ o', hp', by omega, fun u o'' hu0 hu1 hp'' => h2 _ _ _ _ ⟨_, _, rfl, by omega, ?_⟩⟩
  rw [List.set_set]
  exact .inl (h _ _ (bz_fr (by decide) (by omega) (by omega) (by omega)) hp'')
end
end IL

/-! trees compared, bent -/
namespace IL
open PySem L2
mutual
def D.sml : D → Bool
  | .tup l => decide (l.length ≤ 1000000) && D.smls l
  | .lst l => decide (l.length ≤ 1000000) && D.smls l
  | _ => true
def D.smls : List D → Bool
  | [] => true
  | d :: ds => d.sml && D.smls ds
end
theorem lays_iff : ∀ l : List D, D.lays l = true ↔ ∀ x ∈ l, x.lay = true
  | [] => by simp [D.lays]
  | d :: l => by simp [D.lays, lays_iff l]
theorem smls_iff : ∀ l : List D, D.smls l = true ↔ ∀ x ∈ l, x.sml = true
  | [] => by simp [D.smls]
  | d :: l => by simp [D.smls, smls_iff l]
theorem dep_mem : ∀ {l : List D} {x : D}, x ∈ l → x.dep ≤ D.deps l
  | d :: l, x, h => by
    simp only [D.deps]
    rcases List.mem_cons.mp h with rfl | h
    · omega
    · have := dep_mem h; omega
/-- a tree of less than n storeys -/
structure Tr (n : Nat) (d : D) : Prop where
  l : d.lay = true
  s : d.sml = true
  d : d.dep < n
theorem Tr.tup {n : Nat} {l : List D} (h : Tr (n + 1) (.tup l)) : l.length ≤ 1000000 ∧ ∀ x ∈ l, Tr n x := by
  obtain ⟨h1, h2, h3⟩ := h
  simp only [D.lay, D.sml, D.dep, Bool.and_eq_true, decide_eq_true_eq] at h1 h2 h3
  exact ⟨h2.1, fun x hx => ⟨(lays_iff l).mp h1 x hx, (smls_iff l).mp h2.2 x hx, by have := dep_mem hx; omega⟩⟩
theorem Tr.lst {n : Nat} {l : List D} (h : Tr (n + 1) (.lst l)) : l.length ≤ 1000000 ∧ ∀ x ∈ l, Tr n x := by
  obtain ⟨h1, h2, h3⟩ := h
  simp only [D.lay, D.sml, D.dep, Bool.and_eq_true, decide_eq_true_eq] at h1 h2 h3
  exact ⟨h2.1, fun x hx => ⟨(lays_iff l).mp h1 x hx, (smls_iff l).mp h2.2 x hx, by have := dep_mem hx; omega⟩⟩
theorem Tr.mk_tup {n : Nat} {l : List D} (h0 : 0 < n) (h1 : l.length ≤ 1000000) (h2 : ∀ x ∈ l, Tr n x) : Tr (n + 1) (.tup l) := by
  refine ⟨?_, ?_, ?_⟩
  · simp only [D.lay]; exact (lays_iff l).mpr fun x hx => (h2 x hx).l
  · simp only [D.sml, Bool.and_eq_true, decide_eq_true_eq]; exact ⟨h1, (smls_iff l).mpr fun x hx => (h2 x hx).s⟩
  · have : ∀ l : List D, (∀ x ∈ l, Tr n x) → D.deps l < n := by
      intro l
      induction l with
      | nil => intro _; simpa [D.deps] using h0
      | cons d l ih =>
        intro h
        have := (h d (List.mem_cons_self ..)).d
        have := ih fun x hx => h x (List.mem_cons_of_mem _ hx)
        simp only [D.deps]; omega
    have := this l h2
    simp only [D.dep]; omega
theorem Tr.int {n : Nat} (i : Int) : Tr (n + 1) (.int i) := ⟨by simp only [D.lay], by simp only [D.sml], by simp only [D.dep]; omega⟩
theorem Tr.bl {n : Nat} (i : Bool) : Tr (n + 1) (.bl i) := ⟨by simp only [D.lay], by simp only [D.sml], by simp only [D.dep]; omega⟩
theorem Tr.fr {n : Nat} (q : Rat) : Tr (n + 2) (fr q) := .mk_tup (by omega) (by simp) (by simp [Tr.int])
theorem Tr.mono {n m : Nat} {d : D} (h : Tr n d) (hm : n ≤ m) : Tr m d := ⟨h.l, h.s, Nat.lt_of_lt_of_le h.d hm⟩
section
variable {Φ : Str → Spec} {C : Str → Option D} {U : Str → Str → Option Bool} {μ : Store} {P : DQ} {X : XQ} {ds : List D}
theorem atI_nat {α : Type} {l : List α} {i : Nat} (h : i < l.length) : atI l (i : Int) = some l[i] := by
  unfold atI
  rw [show ixN l.length (i : Int) = some i by unfold ixN; simp [h]]
  simp [h]
def sp_same (n : Nat) : Spec := fun ds μ P X => ∃ d, ds = [d, d] ∧ Tr n d ∧ P (.bl true) μ
theorem rng_at {n i : Nat} {d : D} (h : (rngD 0 n)[i]? = some d) : d = .int i ∧ i < n := by
  have hj : i < n := by
    have := (List.getElem?_eq_some_iff.mp h).1
    simpa [rngD] using this
  refine ⟨?_, hj⟩
  unfold rngD at h
  rw [List.getElem?_map, List.getElem?_range hj] at h
  simpa using h.symm
theorem w_cp_same {n : Nat} (h1 : Has Φ "_law_same" (sp_same n)) {d : D} {l : List D} (hl : l.length ≤ 1000000) (ht : ∀ x ∈ l, Tr n x) (hd : d = .tup l ∨ d = .lst l) {Q : DQ} (h : Q (.lst []) μ) : wE Φ C cp_law_same_0 [some d, some d, none] μ Q X := by
  have hi : ∀ i (hi : i < l.length) (R : DQ) (d' : D), R l[i] μ → idxS d (.int i) μ R := fun i hi R d' hR => by
    rcases hd with rfl | rfl
    · exact idxS_t.mpr ⟨_, (atI_nat hi).symm, hR⟩
    · exact idxS_l.mpr ⟨_, (atI_nat hi).symm, hR⟩
  have hlen : ∀ R : DQ, R (.int l.length) μ → bfS false .len [d] μ R := fun R hR => by
    rcases hd with rfl | rfl
    · exact bfS_lent.mpr hR
    · exact bfS_lenl.mpr hR
  simp only [cp_law_same_0, itW, itS, wSs, wS, wE, wEs, wHs, IL.g0, IL.g1, IL.s0, IL.s1, Option.some.injEq, exists_eq_left', exists_eq_left, IL.ex2, IL.ex3, and_true, true_and, isNop, IL.pWn, IL.pWs, tW, Bool.false_eq_true, if_true, if_false, D.int.injEq, D.bl.injEq, D.str.injEq, D.tup.injEq, D.lst.injEq, D.ref.injEq, setMany, bopS_add, bopS_sub, bopS_mul, bopS_fdiv, bopS_mod, bopS_addt, copS_lt, copS_le, copS_gt, copS_ge, copS_eqi, copS_nei, copS_isN, copS_isnN, bfS_lent, bfS_abs, bfS_max, bfS_min, bfS_int, decide_eq_true_eq, Bool.not_eq_true', decide_eq_false_iff_not, idxS_t, at2_0, at2_1, isi_int, isi_bl, isi_non, isi_str, isi_tup, isi_lst, reduceCtorEq, decide_false, decide_true, Bool.not_true, Bool.not_false, or_false, false_or, or_true, true_or, ite_self, setiR, idxS_l, bfS_lenl, bfS_lists, bfS_listt, slcS_t, slcS_l, slcS_s, newL_f, newL_t, at5_0, at5_1, at5_2, at5_3, at5_4, ix5_1, ix5_2, ix5_3, copS_neb, copS_eqb, copS_isB, idx_fr0, idx_fr1, Ob.lst.injEq, List.set_set]
  refine hlen _ ⟨_, rfl, by omega, by omega, comp_pure (fun _ => false) id trivial (by simp [rngD]; exact Nat.le_trans hl (by decide)) (fun i e he => ?_) ?_⟩
  · rw [Int.toNat_natCast] at he
    obtain ⟨rfl, hil⟩ := rng_at he
    refine ⟨fun R X' hR => ?_, fun z => by cases z⟩
    simp only [wipeD, Tg.slots, wSs, wS, wE, wEs, wHs, IL.g0, IL.g1, IL.s0, IL.s1, Option.some.injEq, exists_eq_left', exists_eq_left, IL.ex2, IL.ex3, and_true, true_and, isNop, IL.pWn, IL.pWs, tW, Bool.false_eq_true, if_true, if_false, D.int.injEq, D.bl.injEq, D.str.injEq, D.tup.injEq, D.lst.injEq, D.ref.injEq, setMany, bopS_add, bopS_sub, bopS_mul, bopS_fdiv, bopS_mod, bopS_addt, copS_lt, copS_le, copS_gt, copS_ge, copS_eqi, copS_nei, copS_isN, copS_isnN, bfS_lent, bfS_abs, bfS_max, bfS_min, bfS_int, decide_eq_true_eq, Bool.not_eq_true', decide_eq_false_iff_not, idxS_t, at2_0, at2_1, isi_int, isi_bl, isi_non, isi_str, isi_tup, isi_lst, reduceCtorEq, decide_false, decide_true, Bool.not_true, Bool.not_false, or_false, false_or, or_true, true_or, ite_self, setiR, idxS_l, bfS_lenl, bfS_lists, bfS_listt, slcS_t, slcS_l, slcS_s, newL_f, newL_t, at5_0, at5_1, at5_2, at5_3, at5_4, ix5_1, ix5_2, ix5_3, copS_neb, copS_eqb, copS_isB, idx_fr0, idx_fr1, Ob.lst.injEq, List.set_set]
    exact hi i hil _ d (hi i hil _ d (h1 _ _ _ _ ⟨_, rfl, ht _ (List.getElem_mem _), true, rfl, hR⟩))
  · rw [show (rngD 0 ((l.length : Int)).toNat).filter (fun _ => false) = [] from List.filter_eq_nil_iff.mpr (by simp), List.map_nil]
    exact ⟨by decide, h⟩
theorem str_eqv (x : Str) : (x == x) = true := by simp
theorem b_law_same {n : Nat} (st : Stmt) (h1 : Has Φ "_law_same" (sp_same n)) (h : sp_same (n + 1) ds μ P X) : BodyOk Φ C U (d_law_same st) ds μ P X := by
  obtain ⟨d, rfl, hd, h⟩ := h
  refine ⟨rfl, ?_⟩
  show wSs Φ C U il_law_same [some d, some d, none] μ _
  cases d with
  | tup l =>
    simp only [il_law_same, wSs, wS, wE, wEs, wHs, IL.g0, IL.g1, IL.s0, IL.s1, Option.some.injEq, exists_eq_left', exists_eq_left, IL.ex2, IL.ex3, and_true, true_and, isNop, IL.pWn, IL.pWs, tW, Bool.false_eq_true, if_true, if_false, D.int.injEq, D.bl.injEq, D.str.injEq, D.tup.injEq, D.lst.injEq, D.ref.injEq, setMany, bopS_add, bopS_sub, bopS_mul, bopS_fdiv, bopS_mod, bopS_addt, copS_lt, copS_le, copS_gt, copS_ge, copS_eqi, copS_nei, copS_isN, copS_isnN, bfS_lent, bfS_abs, bfS_max, bfS_min, bfS_int, decide_eq_true_eq, Bool.not_eq_true', decide_eq_false_iff_not, idxS_t, at2_0, at2_1, isi_int, isi_bl, isi_non, isi_str, isi_tup, isi_lst, reduceCtorEq, decide_false, decide_true, Bool.not_true, Bool.not_false, or_false, false_or, or_true, true_or, ite_self, setiR, idxS_l, bfS_lenl, bfS_lists, bfS_listt, slcS_t, slcS_l, slcS_s, newL_f, newL_t, at5_0, at5_1, at5_2, at5_3, at5_4, ix5_1, ix5_2, ix5_3, copS_neb, copS_eqb, copS_isB, idx_fr0, idx_fr1, Ob.lst.injEq, List.set_set, beq_self_eq_true]
    exact w_cp_same h1 hd.tup.1 hd.tup.2 (.inl rfl) (bfS_lenl.mpr (copS_eqi.mpr (.inl h)))
  | lst l =>
    simp only [il_law_same, wSs, wS, wE, wEs, wHs, IL.g0, IL.g1, IL.s0, IL.s1, Option.some.injEq, exists_eq_left', exists_eq_left, IL.ex2, IL.ex3, and_true, true_and, isNop, IL.pWn, IL.pWs, tW, Bool.false_eq_true, if_true, if_false, D.int.injEq, D.bl.injEq, D.str.injEq, D.tup.injEq, D.lst.injEq, D.ref.injEq, setMany, bopS_add, bopS_sub, bopS_mul, bopS_fdiv, bopS_mod, bopS_addt, copS_lt, copS_le, copS_gt, copS_ge, copS_eqi, copS_nei, copS_isN, copS_isnN, bfS_lent, bfS_abs, bfS_max, bfS_min, bfS_int, decide_eq_true_eq, Bool.not_eq_true', decide_eq_false_iff_not, idxS_t, at2_0, at2_1, isi_int, isi_bl, isi_non, isi_str, isi_tup, isi_lst, reduceCtorEq, decide_false, decide_true, Bool.not_true, Bool.not_false, or_false, false_or, or_true, true_or, ite_self, setiR, idxS_l, bfS_lenl, bfS_lists, bfS_listt, slcS_t, slcS_l, slcS_s, newL_f, newL_t, at5_0, at5_1, at5_2, at5_3, at5_4, ix5_1, ix5_2, ix5_3, copS_neb, copS_eqb, copS_isB, idx_fr0, idx_fr1, Ob.lst.injEq, List.set_set, beq_self_eq_true]
    exact w_cp_same h1 hd.lst.1 hd.lst.2 (.inr rfl) (bfS_lenl.mpr (copS_eqi.mpr (.inl h)))
  | str x =>
    simp only [il_law_same, wSs, wS, wE, wEs, wHs, IL.g0, IL.g1, IL.s0, IL.s1, Option.some.injEq, exists_eq_left', exists_eq_left, IL.ex2, IL.ex3, and_true, true_and, isNop, IL.pWn, IL.pWs, tW, Bool.false_eq_true, if_true, if_false, D.int.injEq, D.bl.injEq, D.str.injEq, D.tup.injEq, D.lst.injEq, D.ref.injEq, setMany, bopS_add, bopS_sub, bopS_mul, bopS_fdiv, bopS_mod, bopS_addt, copS_lt, copS_le, copS_gt, copS_ge, copS_eqi, copS_nei, copS_isN, copS_isnN, bfS_lent, bfS_abs, bfS_max, bfS_min, bfS_int, decide_eq_true_eq, Bool.not_eq_true', decide_eq_false_iff_not, idxS_t, at2_0, at2_1, isi_int, isi_bl, isi_non, isi_str, isi_tup, isi_lst, reduceCtorEq, decide_false, decide_true, Bool.not_true, Bool.not_false, or_false, false_or, or_true, true_or, ite_self, setiR, idxS_l, bfS_lenl, bfS_lists, bfS_listt, slcS_t, slcS_l, slcS_s, newL_f, newL_t, at5_0, at5_1, at5_2, at5_3, at5_4, ix5_1, ix5_2, ix5_3, copS_neb, copS_eqb, copS_isB, idx_fr0, idx_fr1, Ob.lst.injEq, List.set_set, D.nonB, beq_self_eq_true]
    refine copS_eqd ⟨hd.l, by simp [D.dep]⟩ ⟨hd.l, by simp [D.dep]⟩ ?_
    simp only [D.eqv, str_eqv]
    exact .inl h
  | non => simp only [il_law_same, wSs, wS, wE, wEs, wHs, IL.g0, IL.g1, IL.s0, IL.s1, Option.some.injEq, exists_eq_left', exists_eq_left, IL.ex2, IL.ex3, and_true, true_and, isNop, IL.pWn, IL.pWs, tW, Bool.false_eq_true, if_true, if_false, D.int.injEq, D.bl.injEq, D.str.injEq, D.tup.injEq, D.lst.injEq, D.ref.injEq, setMany, bopS_add, bopS_sub, bopS_mul, bopS_fdiv, bopS_mod, bopS_addt, copS_lt, copS_le, copS_gt, copS_ge, copS_eqi, copS_nei, copS_isN, copS_isnN, bfS_lent, bfS_abs, bfS_max, bfS_min, bfS_int, decide_eq_true_eq, Bool.not_eq_true', decide_eq_false_iff_not, idxS_t, at2_0, at2_1, isi_int, isi_bl, isi_non, isi_str, isi_tup, isi_lst, reduceCtorEq, decide_false, decide_true, Bool.not_true, Bool.not_false, or_false, false_or, or_true, true_or, ite_self, setiR, idxS_l, bfS_lenl, bfS_lists, bfS_listt, slcS_t, slcS_l, slcS_s, newL_f, newL_t, at5_0, at5_1, at5_2, at5_3, at5_4, ix5_1, ix5_2, ix5_3, copS_neb, copS_eqb, copS_isB, idx_fr0, idx_fr1, Ob.lst.injEq, List.set_set, D.nonB, beq_self_eq_true]; exact .inl h
  | bl b => simp only [il_law_same, wSs, wS, wE, wEs, wHs, IL.g0, IL.g1, IL.s0, IL.s1, Option.some.injEq, exists_eq_left', exists_eq_left, IL.ex2, IL.ex3, and_true, true_and, isNop, IL.pWn, IL.pWs, tW, Bool.false_eq_true, if_true, if_false, D.int.injEq, D.bl.injEq, D.str.injEq, D.tup.injEq, D.lst.injEq, D.ref.injEq, setMany, bopS_add, bopS_sub, bopS_mul, bopS_fdiv, bopS_mod, bopS_addt, copS_lt, copS_le, copS_gt, copS_ge, copS_eqi, copS_nei, copS_isN, copS_isnN, bfS_lent, bfS_abs, bfS_max, bfS_min, bfS_int, decide_eq_true_eq, Bool.not_eq_true', decide_eq_false_iff_not, idxS_t, at2_0, at2_1, isi_int, isi_bl, isi_non, isi_str, isi_tup, isi_lst, reduceCtorEq, decide_false, decide_true, Bool.not_true, Bool.not_false, or_false, false_or, or_true, true_or, ite_self, setiR, idxS_l, bfS_lenl, bfS_lists, bfS_listt, slcS_t, slcS_l, slcS_s, newL_f, newL_t, at5_0, at5_1, at5_2, at5_3, at5_4, ix5_1, ix5_2, ix5_3, copS_neb, copS_eqb, copS_isB, idx_fr0, idx_fr1, Ob.lst.injEq, List.set_set, D.nonB, beq_self_eq_true]; exact .inl h
  | int b => simp only [il_law_same, wSs, wS, wE, wEs, wHs, IL.g0, IL.g1, IL.s0, IL.s1, Option.some.injEq, exists_eq_left', exists_eq_left, IL.ex2, IL.ex3, and_true, true_and, isNop, IL.pWn, IL.pWs, tW, Bool.false_eq_true, if_true, if_false, D.int.injEq, D.bl.injEq, D.str.injEq, D.tup.injEq, D.lst.injEq, D.ref.injEq, setMany, bopS_add, bopS_sub, bopS_mul, bopS_fdiv, bopS_mod, bopS_addt, copS_lt, copS_le, copS_gt, copS_ge, copS_eqi, copS_nei, copS_isN, copS_isnN, bfS_lent, bfS_abs, bfS_max, bfS_min, bfS_int, decide_eq_true_eq, Bool.not_eq_true', decide_eq_false_iff_not, idxS_t, at2_0, at2_1, isi_int, isi_bl, isi_non, isi_str, isi_tup, isi_lst, reduceCtorEq, decide_false, decide_true, Bool.not_true, Bool.not_false, or_false, false_or, or_true, true_or, ite_self, setiR, idxS_l, bfS_lenl, bfS_lists, bfS_listt, slcS_t, slcS_l, slcS_s, newL_f, newL_t, at5_0, at5_1, at5_2, at5_3, at5_4, ix5_1, ix5_2, ix5_3, copS_neb, copS_eqb, copS_isB, idx_fr0, idx_fr1, Ob.lst.injEq, List.set_set, D.nonB, beq_self_eq_true]; exact .inl h
  | _ => have := hd.l; simp [D.lay] at this
end
end IL

/-! bent trees -/
namespace IL
open PySem L2
mutual
def D.num : D → Bool
  | .int _ => true
  | .str _ => true
  | .tup l => D.nums l
  | _ => false
def D.nums : List D → Bool
  | [] => true
  | d :: ds => d.num && D.nums ds
end
theorem nums_iff : ∀ l : List D, D.nums l = true ↔ ∀ x ∈ l, x.num = true
  | [] => by simp [D.nums]
  | d :: l => by simp [D.nums, nums_iff l]
theorem fr_num (q : Rat) : (fr q).num = true := by simp [fr, D.num, D.nums]
section
variable {Φ : Str → Spec} {C : Str → Option D} {U : Str → Str → Option Bool} {μ : Store} {P : DQ} {X : XQ} {ds : List D}
def sp_odd : Spec := fun ds μ P X => ds = [] ∧ ∀ l : List D, l.length = 18 → (∀ x ∈ l, x.lay = true) → P (.lst l) μ
theorem b_law_odd_values (st : Stmt) (h : sp_odd ds μ P X) : BodyOk Φ C U (d_law_odd_values st) ds μ P X := by
  obtain ⟨rfl, h⟩ := h
  refine ⟨rfl, ?_⟩
  show wSs Φ C U il_law_odd_values [] μ _
  simp only [il_law_odd_values, wSs, wS, wE, wEs, wHs, IL.g0, IL.g1, IL.s0, IL.s1, Option.some.injEq, exists_eq_left', exists_eq_left, IL.ex2, IL.ex3, and_true, true_and, isNop, IL.pWn, IL.pWs, tW, Bool.false_eq_true, if_true, if_false, D.int.injEq, D.bl.injEq, D.str.injEq, D.tup.injEq, D.lst.injEq, D.ref.injEq, setMany, bopS_add, bopS_sub, bopS_mul, bopS_fdiv, bopS_mod, bopS_addt, copS_lt, copS_le, copS_gt, copS_ge, copS_eqi, copS_nei, copS_isN, copS_isnN, bfS_lent, bfS_abs, bfS_max, bfS_min, bfS_int, decide_eq_true_eq, Bool.not_eq_true', decide_eq_false_iff_not, idxS_t, at2_0, at2_1, isi_int, isi_bl, isi_non, isi_str, isi_tup, isi_lst, reduceCtorEq, decide_false, decide_true, Bool.not_true, Bool.not_false, or_false, false_or, or_true, true_or, ite_self, setiR, idxS_l, bfS_lenl, bfS_lists, bfS_listt, slcS_t, slcS_l, slcS_s, newL_f, newL_t, at5_0, at5_1, at5_2, at5_3, at5_4, ix5_1, ix5_2, ix5_3, copS_neb, copS_eqb, copS_isB, idx_fr0, idx_fr1, Ob.lst.injEq, List.set_set]
  refine ⟨(show 0 ≤ sizeLine by decide), (show 0 ≤ sizeLine by decide), (show 1 ≤ sizeLine by decide), (show 2 ≤ sizeLine by decide), (show 2 ≤ sizeLine by decide), (show 2 ≤ sizeLine by decide), (show 2 ≤ sizeLine by decide), (show 2 ≤ sizeLine by decide), (show 1 ≤ sizeLine by decide), (show 1 ≤ sizeLine by decide), (show 1 ≤ sizeLine by decide), (show 18 ≤ sizeLine by decide), .inl (h _ rfl ?_)⟩
  have e : ∀ l : List D, D.lays l = true → ∀ x ∈ l, x.lay = true := fun l => (lays_iff l).mp
  exact e _ (by simp only [D.lays, D.lay, Bool.true_and, Bool.and_true]; decide +kernel)
def sp_lisfr : Spec := fun ds μ P X => ∃ d, ds = [d] ∧ d.lay = true ∧ P (.bl (isFr d)) μ
theorem w_cp_isfr {a b : D} (ha : a.lay = true) (hb : b.lay = true) {Q : DQ} (h : Q (.lst ([a, b].filter fun d => !isW d)) μ) : wE Φ C cp_law_is_fraction_0 [some (.tup [a, b]), none] μ Q X := by
  simp only [cp_law_is_fraction_0, itW, itS, wSs, wS, wE, wEs, wHs, IL.g0, IL.g1, IL.s0, IL.s1, Option.some.injEq, exists_eq_left', exists_eq_left, IL.ex2, IL.ex3, and_true, true_and, isNop, IL.pWn, IL.pWs, tW, Bool.false_eq_true, if_true, if_false, D.int.injEq, D.bl.injEq, D.str.injEq, D.tup.injEq, D.lst.injEq, D.ref.injEq, setMany, bopS_add, bopS_sub, bopS_mul, bopS_fdiv, bopS_mod, bopS_addt, copS_lt, copS_le, copS_gt, copS_ge, copS_eqi, copS_nei, copS_isN, copS_isnN, bfS_lent, bfS_abs, bfS_max, bfS_min, bfS_int, decide_eq_true_eq, Bool.not_eq_true', decide_eq_false_iff_not, idxS_t, at2_0, at2_1, isi_int, isi_bl, isi_non, isi_str, isi_tup, isi_lst, reduceCtorEq, decide_false, decide_true, Bool.not_true, Bool.not_false, or_false, false_or, or_true, true_or, ite_self, setiR, idxS_l, bfS_lenl, bfS_lists, bfS_listt, slcS_t, slcS_l, slcS_s, newL_f, newL_t, at5_0, at5_1, at5_2, at5_3, at5_4, ix5_1, ix5_2, ix5_3, copS_neb, copS_eqb, copS_isB, idx_fr0, idx_fr1, Ob.lst.injEq, List.set_set]
  refine ⟨_, rfl, comp_pure (fun d => !isW d) id trivial (show 2 ≤ sizeLine by decide) (fun i d hd => ?_) ?_⟩
  · have hl : d.lay = true := by
      have := List.mem_of_getElem? hd
      simp only [List.mem_cons, List.not_mem_nil, or_false] at this
      rcases this with rfl | rfl <;> assumption
    show _ ∧ _
    refine ⟨fun R X' hR => ?_, fun _ R X' hR => ?_⟩
    · simp only [wipeD, Tg.slots, wSs, wS, wE, wEs, wHs, IL.g0, IL.g1, IL.s0, IL.s1, Option.some.injEq, exists_eq_left', exists_eq_left, IL.ex2, IL.ex3, and_true, true_and, isNop, IL.pWn, IL.pWs, tW, Bool.false_eq_true, if_true, if_false, D.int.injEq, D.bl.injEq, D.str.injEq, D.tup.injEq, D.lst.injEq, D.ref.injEq, setMany, bopS_add, bopS_sub, bopS_mul, bopS_fdiv, bopS_mod, bopS_addt, copS_lt, copS_le, copS_gt, copS_ge, copS_eqi, copS_nei, copS_isN, copS_isnN, bfS_lent, bfS_abs, bfS_max, bfS_min, bfS_int, decide_eq_true_eq, Bool.not_eq_true', decide_eq_false_iff_not, idxS_t, at2_0, at2_1, isi_int, isi_bl, isi_non, isi_str, isi_tup, isi_lst, reduceCtorEq, decide_false, decide_true, Bool.not_true, Bool.not_false, or_false, false_or, or_true, true_or, ite_self, setiR, idxS_l, bfS_lenl, bfS_lists, bfS_listt, slcS_t, slcS_l, slcS_s, newL_f, newL_t, at5_0, at5_1, at5_2, at5_3, at5_4, ix5_1, ix5_2, ix5_3, copS_neb, copS_eqb, copS_isB, idx_fr0, idx_fr1, Ob.lst.injEq, List.set_set]
      cases d <;> (try simp only [wSs, wS, wE, wEs, wHs, IL.g0, IL.g1, IL.s0, IL.s1, Option.some.injEq, exists_eq_left', exists_eq_left, IL.ex2, IL.ex3, and_true, true_and, isNop, IL.pWn, IL.pWs, tW, Bool.false_eq_true, if_true, if_false, D.int.injEq, D.bl.injEq, D.str.injEq, D.tup.injEq, D.lst.injEq, D.ref.injEq, setMany, bopS_add, bopS_sub, bopS_mul, bopS_fdiv, bopS_mod, bopS_addt, copS_lt, copS_le, copS_gt, copS_ge, copS_eqi, copS_nei, copS_isN, copS_isnN, bfS_lent, bfS_abs, bfS_max, bfS_min, bfS_int, decide_eq_true_eq, Bool.not_eq_true', decide_eq_false_iff_not, idxS_t, at2_0, at2_1, isi_int, isi_bl, isi_non, isi_str, isi_tup, isi_lst, reduceCtorEq, decide_false, decide_true, Bool.not_true, Bool.not_false, or_false, false_or, or_true, true_or, ite_self, setiR, idxS_l, bfS_lenl, bfS_lists, bfS_listt, slcS_t, slcS_l, slcS_s, newL_f, newL_t, at5_0, at5_1, at5_2, at5_3, at5_4, ix5_1, ix5_2, ix5_3, copS_neb, copS_eqb, copS_isB, idx_fr0, idx_fr1, Ob.lst.injEq, List.set_set]) <;> first | exact hR | (simp [D.lay] at hl; done)
    · simp only [wipeD, Tg.slots, wSs, wS, wE, wEs, wHs, IL.g0, IL.g1, IL.s0, IL.s1, Option.some.injEq, exists_eq_left', exists_eq_left, IL.ex2, IL.ex3, and_true, true_and, isNop, IL.pWn, IL.pWs, tW, Bool.false_eq_true, if_true, if_false, D.int.injEq, D.bl.injEq, D.str.injEq, D.tup.injEq, D.lst.injEq, D.ref.injEq, setMany, bopS_add, bopS_sub, bopS_mul, bopS_fdiv, bopS_mod, bopS_addt, copS_lt, copS_le, copS_gt, copS_ge, copS_eqi, copS_nei, copS_isN, copS_isnN, bfS_lent, bfS_abs, bfS_max, bfS_min, bfS_int, decide_eq_true_eq, Bool.not_eq_true', decide_eq_false_iff_not, idxS_t, at2_0, at2_1, isi_int, isi_bl, isi_non, isi_str, isi_tup, isi_lst, reduceCtorEq, decide_false, decide_true, Bool.not_true, Bool.not_false, or_false, false_or, or_true, true_or, ite_self, setiR, idxS_l, bfS_lenl, bfS_lists, bfS_listt, slcS_t, slcS_l, slcS_s, newL_f, newL_t, at5_0, at5_1, at5_2, at5_3, at5_4, ix5_1, ix5_2, ix5_3, copS_neb, copS_eqb, copS_isB, idx_fr0, idx_fr1, Ob.lst.injEq, List.set_set]
      exact hR
  · rw [List.map_id]
    exact ⟨Nat.le_trans (List.length_filter_le _ _) (show 2 ≤ sizeLine by decide), h⟩
theorem b_law_is_fraction (st : Stmt) (h2 : Has Φ "_law_gcd" sp_common) (h : sp_lisfr ds μ P X) : BodyOk Φ C U (d_law_is_fraction st) ds μ P X := by
  obtain ⟨d, rfl, hd, h⟩ := h
  refine ⟨rfl, ?_⟩
  show wSs Φ C U il_law_is_fraction [some d, none] μ _
  cases d with
  | tup l =>
    simp only [il_law_is_fraction, wSs, wS, wE, wEs, wHs, IL.g0, IL.g1, IL.s0, IL.s1, Option.some.injEq, exists_eq_left', exists_eq_left, IL.ex2, IL.ex3, and_true, true_and, isNop, IL.pWn, IL.pWs, tW, Bool.false_eq_true, if_true, if_false, D.int.injEq, D.bl.injEq, D.str.injEq, D.tup.injEq, D.lst.injEq, D.ref.injEq, setMany, bopS_add, bopS_sub, bopS_mul, bopS_fdiv, bopS_mod, bopS_addt, copS_lt, copS_le, copS_gt, copS_ge, copS_eqi, copS_nei, copS_isN, copS_isnN, bfS_lent, bfS_abs, bfS_max, bfS_min, bfS_int, decide_eq_true_eq, Bool.not_eq_true', decide_eq_false_iff_not, idxS_t, at2_0, at2_1, isi_int, isi_bl, isi_non, isi_str, isi_tup, isi_lst, reduceCtorEq, decide_false, decide_true, Bool.not_true, Bool.not_false, or_false, false_or, or_true, true_or, ite_self, setiR, idxS_l, bfS_lenl, bfS_lists, bfS_listt, slcS_t, slcS_l, slcS_s, newL_f, newL_t, at5_0, at5_1, at5_2, at5_3, at5_4, ix5_1, ix5_2, ix5_3, copS_neb, copS_eqb, copS_isB, idx_fr0, idx_fr1, Ob.lst.injEq, List.set_set]
    match l, hd, h with
    | [], hd, h => simp only [List.length_nil, isFr] at *; exact .inl h
    | [a], hd, h => simp only [List.length_cons, List.length_nil, isFr] at *; exact .inl h
    | a :: b :: c :: r, hd, h =>
      have e : (((a :: b :: c :: r).length : Int) == 2) = false := by
        simp only [List.length_cons, beq_eq_false_iff_ne]; omega
      rw [e]
      exact .inl (by simpa [isFr] using h)
    | [a, b], hd, h =>
      simp only [D.lay] at hd
      obtain ⟨ha, hb⟩ := lay_cons hd
      obtain ⟨hb, _⟩ := lay_cons hb
      simp only [List.length_cons, List.length_nil]
      refine w_cp_isfr (X := X) ha hb (bfS_lenl.mpr (copS_gt.mpr ⟨_, rfl, ?_⟩))
      cases ea : isW a with
      | false =>
        rw [if_pos (by cases eb : isW b <;> simp [ea, eb, List.filter] <;> omega)]
        refine .inl ?_
        cases a <;> first | (simp [isW] at ea; done) | simpa [isFr] using h
      | true =>
        cases eb : isW b with
        | false =>
          rw [if_pos (by simp [ea, eb, List.filter])]
          refine .inl ?_
          cases b <;> first | (simp [isW] at eb; done) | (cases a <;> simpa [isFr] using h)
        | true =>
          rw [if_neg (by simp [ea, eb, List.filter])]
          obtain ⟨p, rfl⟩ := of_isW ea
          obtain ⟨q, rfl⟩ := of_isW eb
          refine ⟨_, rfl, (copS_gt).mpr ⟨_, rfl, ?_⟩⟩
          split
          · rename_i c
            refine ⟨_, rfl, _, rfl, h2 _ _ _ _ ⟨p, q, rfl, copS_eqi.mpr (.inl ?_)⟩⟩
            simp only [isFr] at h
            have c : 0 < q := by simpa using c
            simp only [c, decide_true, Bool.true_and] at h
            rw [show ((Int.gcd p q : Int) == 1) = decide (Int.gcd p q = 1) by
              rw [Bool.eq_iff_iff]; simp; omega]
            exact h
          · rename_i c
            simp only [isFr] at h
            have c : ¬ 0 < q := by simpa using c
            simp only [c, decide_false, Bool.false_and] at h
            exact .inl h
  | _ => simp only [il_law_is_fraction, wSs, wS, wE, wEs, wHs, IL.g0, IL.g1, IL.s0, IL.s1, Option.some.injEq, exists_eq_left', exists_eq_left, IL.ex2, IL.ex3, and_true, true_and, isNop, IL.pWn, IL.pWs, tW, Bool.false_eq_true, if_true, if_false, D.int.injEq, D.bl.injEq, D.str.injEq, D.tup.injEq, D.lst.injEq, D.ref.injEq, setMany, bopS_add, bopS_sub, bopS_mul, bopS_fdiv, bopS_mod, bopS_addt, copS_lt, copS_le, copS_gt, copS_ge, copS_eqi, copS_nei, copS_isN, copS_isnN, bfS_lent, bfS_abs, bfS_max, bfS_min, bfS_int, decide_eq_true_eq, Bool.not_eq_true', decide_eq_false_iff_not, idxS_t, at2_0, at2_1, isi_int, isi_bl, isi_non, isi_str, isi_tup, isi_lst, reduceCtorEq, decide_false, decide_true, Bool.not_true, Bool.not_false, or_false, false_or, or_true, true_or, ite_self, setiR, idxS_l, bfS_lenl, bfS_lists, bfS_listt, slcS_t, slcS_l, slcS_s, newL_f, newL_t, at5_0, at5_1, at5_2, at5_3, at5_4, ix5_1, ix5_2, ix5_3, copS_neb, copS_eqb, copS_isB, idx_fr0, idx_fr1, Ob.lst.injEq, List.set_set]; first | exact .inl h | (simp [D.lay] at hd; done)
def sp_bent (n : Nat) : Spec := fun ds μ P X => ∃ m c o d, ds = [.ref m, d] ∧ μ[m]? = some o ∧ Pool c o ∧ c + 10 * n + 100 < 2 ^ 64 ∧ Tr n d ∧ d.num = true ∧ ∀ d' o', d'.lay = true → Pool (c + 10 * n) o' → P d' (μ.set m o')
theorem w_bent_tail {K : Ctl} {m c : Nat} {o : Ob} {d : D} (h1 : Has Φ "_law_draw" sp_draw) (h2 : Has Φ "_law_odd_values" sp_odd) (hμ : μ[m]? = some o) (hp : Pool c o) (hc : c + 50 < 2 ^ 64) (hd : d.num = true) (hl : d.lay = true)
    (h : ∀ d' o', d'.lay = true → Pool (c + 5) o' → K.rt d' (μ.set m o')) : wSs Φ C U ss_law_bent_1 [some (.ref m), some d, none, none, none] μ K := by
  have rows : ∀ (μ' : Store) (o' : Ob) (c' : Nat) (l : List D), l.length = 18 → (∀ x ∈ l, x.lay = true) → μ'[m]? = some o' → Pool c' o' → c' ≤ c + 1 → (∀ o, μ'.set m o = μ.set m o) →
      wSs Φ C U ss_law_bent_3 [some (.ref m), some d, some (.lst l), none, none] μ' K := fun μ' o' c' l l1 l2 hm' hp' hc' hs => by
    simp only [ss_law_bent_3, wSs, wS, wE, wEs, wHs, IL.g0, IL.g1, IL.s0, IL.s1, Option.some.injEq, exists_eq_left', exists_eq_left, IL.ex2, IL.ex3, and_true, true_and, isNop, IL.pWn, IL.pWs, tW, Bool.false_eq_true, if_true, if_false, D.int.injEq, D.bl.injEq, D.str.injEq, D.tup.injEq, D.lst.injEq, D.ref.injEq, setMany, bopS_add, bopS_sub, bopS_mul, bopS_fdiv, bopS_mod, bopS_addt, copS_lt, copS_le, copS_gt, copS_ge, copS_eqi, copS_nei, copS_isN, copS_isnN, bfS_lent, bfS_abs, bfS_max, bfS_min, bfS_int, decide_eq_true_eq, Bool.not_eq_true', decide_eq_false_iff_not, idxS_t, at2_0, at2_1, isi_int, isi_bl, isi_non, isi_str, isi_tup, isi_lst, reduceCtorEq, decide_false, decide_true, Bool.not_true, Bool.not_false, or_false, false_or, or_true, true_or, ite_self, setiR, idxS_l, bfS_lenl, bfS_lists, bfS_listt, slcS_t, slcS_l, slcS_s, newL_f, newL_t, at5_0, at5_1, at5_2, at5_3, at5_4, ix5_1, ix5_2, ix5_3, copS_neb, copS_eqb, copS_isB, idx_fr0, idx_fr1, Ob.lst.injEq, List.set_set]
    refine h1 _ _ _ _ ⟨m, _, c', o', rfl, by omega, by omega, hm', hp', by omega, fun v o'' v0 v1 hp'' => ?_⟩
    obtain ⟨k, rfl⟩ := Int.eq_ofNat_of_zero_le v0
    have hk : k < l.length := by omega
    refine idxS_l.mpr ⟨_, (atI_nat hk).symm, ?_⟩
    rw [hs]
    exact h _ _ (l2 _ (List.getElem_mem _)) (hp''.mono (by omega))
  simp only [ss_law_bent_1, wSs, wS, wE, wEs, wHs, IL.g0, IL.g1, IL.s0, IL.s1, Option.some.injEq, exists_eq_left', exists_eq_left, IL.ex2, IL.ex3, and_true, true_and, isNop, IL.pWn, IL.pWs, tW, Bool.false_eq_true, if_true, if_false, D.int.injEq, D.bl.injEq, D.str.injEq, D.tup.injEq, D.lst.injEq, D.ref.injEq, setMany, bopS_add, bopS_sub, bopS_mul, bopS_fdiv, bopS_mod, bopS_addt, copS_lt, copS_le, copS_gt, copS_ge, copS_eqi, copS_nei, copS_isN, copS_isnN, bfS_lent, bfS_abs, bfS_max, bfS_min, bfS_int, decide_eq_true_eq, Bool.not_eq_true', decide_eq_false_iff_not, idxS_t, at2_0, at2_1, isi_int, isi_bl, isi_non, isi_str, isi_tup, isi_lst, reduceCtorEq, decide_false, decide_true, Bool.not_true, Bool.not_false, or_false, false_or, or_true, true_or, ite_self, setiR, idxS_l, bfS_lenl, bfS_lists, bfS_listt, slcS_t, slcS_l, slcS_s, newL_f, newL_t, at5_0, at5_1, at5_2, at5_3, at5_4, ix5_1, ix5_2, ix5_3, copS_neb, copS_eqb, copS_isB, idx_fr0, idx_fr1, Ob.lst.injEq, List.set_set]
  refine h2 _ _ _ _ ⟨rfl, fun l l1 l2 => ?_⟩
  simp only [ss_law_bent_2, wSs, wS, wE, wEs, wHs, IL.g0, IL.g1, IL.s0, IL.s1, Option.some.injEq, exists_eq_left', exists_eq_left, IL.ex2, IL.ex3, and_true, true_and, isNop, IL.pWn, IL.pWs, tW, Bool.false_eq_true, if_true, if_false, D.int.injEq, D.bl.injEq, D.str.injEq, D.tup.injEq, D.lst.injEq, D.ref.injEq, setMany, bopS_add, bopS_sub, bopS_mul, bopS_fdiv, bopS_mod, bopS_addt, copS_lt, copS_le, copS_gt, copS_ge, copS_eqi, copS_nei, copS_isN, copS_isnN, bfS_lent, bfS_abs, bfS_max, bfS_min, bfS_int, decide_eq_true_eq, Bool.not_eq_true', decide_eq_false_iff_not, idxS_t, at2_0, at2_1, isi_int, isi_bl, isi_non, isi_str, isi_tup, isi_lst, reduceCtorEq, decide_false, decide_true, Bool.not_true, Bool.not_false, or_false, false_or, or_true, true_or, ite_self, setiR, idxS_l, bfS_lenl, bfS_lists, bfS_listt, slcS_t, slcS_l, slcS_s, newL_f, newL_t, at5_0, at5_1, at5_2, at5_3, at5_4, ix5_1, ix5_2, ix5_3, copS_neb, copS_eqb, copS_isB, idx_fr0, idx_fr1, Ob.lst.injEq, List.set_set]
  cases d with
  | int i =>
    simp only [wSs, wS, wE, wEs, wHs, IL.g0, IL.g1, IL.s0, IL.s1, Option.some.injEq, exists_eq_left', exists_eq_left, IL.ex2, IL.ex3, and_true, true_and, isNop, IL.pWn, IL.pWs, tW, Bool.false_eq_true, if_true, if_false, D.int.injEq, D.bl.injEq, D.str.injEq, D.tup.injEq, D.lst.injEq, D.ref.injEq, setMany, bopS_add, bopS_sub, bopS_mul, bopS_fdiv, bopS_mod, bopS_addt, copS_lt, copS_le, copS_gt, copS_ge, copS_eqi, copS_nei, copS_isN, copS_isnN, bfS_lent, bfS_abs, bfS_max, bfS_min, bfS_int, decide_eq_true_eq, Bool.not_eq_true', decide_eq_false_iff_not, idxS_t, at2_0, at2_1, isi_int, isi_bl, isi_non, isi_str, isi_tup, isi_lst, reduceCtorEq, decide_false, decide_true, Bool.not_true, Bool.not_false, or_false, false_or, or_true, true_or, ite_self, setiR, idxS_l, bfS_lenl, bfS_lists, bfS_listt, slcS_t, slcS_l, slcS_s, newL_f, newL_t, at5_0, at5_1, at5_2, at5_3, at5_4, ix5_1, ix5_2, ix5_3, copS_neb, copS_eqb, copS_isB, idx_fr0, idx_fr1, Ob.lst.injEq, List.set_set]
    refine h1 _ _ _ _ ⟨m, 2, c, o, rfl, by decide, by decide, hμ, hp, by omega, fun v o' v0 v1 hp' => ?_⟩
    simp only [wSs, wS, wE, wEs, wHs, IL.g0, IL.g1, IL.s0, IL.s1, Option.some.injEq, exists_eq_left', exists_eq_left, IL.ex2, IL.ex3, and_true, true_and, isNop, IL.pWn, IL.pWs, tW, Bool.false_eq_true, if_true, if_false, D.int.injEq, D.bl.injEq, D.str.injEq, D.tup.injEq, D.lst.injEq, D.ref.injEq, setMany, bopS_add, bopS_sub, bopS_mul, bopS_fdiv, bopS_mod, bopS_addt, copS_lt, copS_le, copS_gt, copS_ge, copS_eqi, copS_nei, copS_isN, copS_isnN, bfS_lent, bfS_abs, bfS_max, bfS_min, bfS_int, decide_eq_true_eq, Bool.not_eq_true', decide_eq_false_iff_not, idxS_t, at2_0, at2_1, isi_int, isi_bl, isi_non, isi_str, isi_tup, isi_lst, reduceCtorEq, decide_false, decide_true, Bool.not_true, Bool.not_false, or_false, false_or, or_true, true_or, ite_self, setiR, idxS_l, bfS_lenl, bfS_lists, bfS_listt, slcS_t, slcS_l, slcS_s, newL_f, newL_t, at5_0, at5_1, at5_2, at5_3, at5_4, ix5_1, ix5_2, ix5_3, copS_neb, copS_eqb, copS_isB, idx_fr0, idx_fr1, Ob.lst.injEq, List.set_set]
    split
    · refine h1 _ _ _ _ ⟨m, 2, _, _, rfl, by decide, by decide, gs_of hμ o', hp', by omega, fun u o'' u0 u1 hp'' => ?_⟩
      simp only [wSs, wS, wE, wEs, wHs, IL.g0, IL.g1, IL.s0, IL.s1, Option.some.injEq, exists_eq_left', exists_eq_left, IL.ex2, IL.ex3, and_true, true_and, isNop, IL.pWn, IL.pWs, tW, Bool.false_eq_true, if_true, if_false, D.int.injEq, D.bl.injEq, D.str.injEq, D.tup.injEq, D.lst.injEq, D.ref.injEq, setMany, bopS_add, bopS_sub, bopS_mul, bopS_fdiv, bopS_mod, bopS_addt, copS_lt, copS_le, copS_gt, copS_ge, copS_eqi, copS_nei, copS_isN, copS_isnN, bfS_lent, bfS_abs, bfS_max, bfS_min, bfS_int, decide_eq_true_eq, Bool.not_eq_true', decide_eq_false_iff_not, idxS_t, at2_0, at2_1, isi_int, isi_bl, isi_non, isi_str, isi_tup, isi_lst, reduceCtorEq, decide_false, decide_true, Bool.not_true, Bool.not_false, or_false, false_or, or_true, true_or, ite_self, setiR, idxS_l, bfS_lenl, bfS_lists, bfS_listt, slcS_t, slcS_l, slcS_s, newL_f, newL_t, at5_0, at5_1, at5_2, at5_3, at5_4, ix5_1, ix5_2, ix5_3, copS_neb, copS_eqb, copS_isB, idx_fr0, idx_fr1, Ob.lst.injEq, List.set_set]
      exact ⟨mok_s (by decide) (by omega), h _ _ (by simp only [D.lay]) (hp''.mono (by omega))⟩
    · exact rows _ _ _ _ l1 l2 (gs_of hμ o') hp' (by omega) fun o => List.set_set ..
  | str x => simp only [wSs, wS, wE, wEs, wHs, IL.g0, IL.g1, IL.s0, IL.s1, Option.some.injEq, exists_eq_left', exists_eq_left, IL.ex2, IL.ex3, and_true, true_and, isNop, IL.pWn, IL.pWs, tW, Bool.false_eq_true, if_true, if_false, D.int.injEq, D.bl.injEq, D.str.injEq, D.tup.injEq, D.lst.injEq, D.ref.injEq, setMany, bopS_add, bopS_sub, bopS_mul, bopS_fdiv, bopS_mod, bopS_addt, copS_lt, copS_le, copS_gt, copS_ge, copS_eqi, copS_nei, copS_isN, copS_isnN, bfS_lent, bfS_abs, bfS_max, bfS_min, bfS_int, decide_eq_true_eq, Bool.not_eq_true', decide_eq_false_iff_not, idxS_t, at2_0, at2_1, isi_int, isi_bl, isi_non, isi_str, isi_tup, isi_lst, reduceCtorEq, decide_false, decide_true, Bool.not_true, Bool.not_false, or_false, false_or, or_true, true_or, ite_self, setiR, idxS_l, bfS_lenl, bfS_lists, bfS_listt, slcS_t, slcS_l, slcS_s, newL_f, newL_t, at5_0, at5_1, at5_2, at5_3, at5_4, ix5_1, ix5_2, ix5_3, copS_neb, copS_eqb, copS_isB, idx_fr0, idx_fr1, Ob.lst.injEq, List.set_set]; exact rows _ _ _ _ l1 l2 hμ hp (by omega) fun o => rfl
  | tup x => simp only [wSs, wS, wE, wEs, wHs, IL.g0, IL.g1, IL.s0, IL.s1, Option.some.injEq, exists_eq_left', exists_eq_left, IL.ex2, IL.ex3, and_true, true_and, isNop, IL.pWn, IL.pWs, tW, Bool.false_eq_true, if_true, if_false, D.int.injEq, D.bl.injEq, D.str.injEq, D.tup.injEq, D.lst.injEq, D.ref.injEq, setMany, bopS_add, bopS_sub, bopS_mul, bopS_fdiv, bopS_mod, bopS_addt, copS_lt, copS_le, copS_gt, copS_ge, copS_eqi, copS_nei, copS_isN, copS_isnN, bfS_lent, bfS_abs, bfS_max, bfS_min, bfS_int, decide_eq_true_eq, Bool.not_eq_true', decide_eq_false_iff_not, idxS_t, at2_0, at2_1, isi_int, isi_bl, isi_non, isi_str, isi_tup, isi_lst, reduceCtorEq, decide_false, decide_true, Bool.not_true, Bool.not_false, or_false, false_or, or_true, true_or, ite_self, setiR, idxS_l, bfS_lenl, bfS_lists, bfS_listt, slcS_t, slcS_l, slcS_s, newL_f, newL_t, at5_0, at5_1, at5_2, at5_3, at5_4, ix5_1, ix5_2, ix5_3, copS_neb, copS_eqb, copS_isB, idx_fr0, idx_fr1, Ob.lst.injEq, List.set_set]; exact rows _ _ _ _ l1 l2 hμ hp (by omega) fun o => rfl
  | _ => simp [D.num] at hd
theorem cut_len {α : Type} (l : List α) (a b : Option Int) : (cut l a b).length ≤ l.length := by
  unfold cut
  rw [List.length_take, List.length_drop]; omega
theorem cut_mem {α : Type} {l : List α} {a b : Option Int} {x : α} (h : x ∈ cut l a b) : x ∈ l := by
  unfold cut at h
  exact List.mem_of_mem_drop (List.mem_of_mem_take h)
theorem lay_tup {l : List D} (h : ∀ x ∈ l, x.lay = true) : (D.tup l).lay = true := by
  simp only [D.lay]; exact (lays_iff l).mpr h
theorem b_law_bent {n : Nat} (st : Stmt) (h1 : Has Φ "_law_draw" sp_draw) (h2 : Has Φ "_law_odd_values" sp_odd) (h3 : Has Φ "_law_bent" (sp_bent n)) (h : sp_bent (n + 1) ds μ P X) : BodyOk Φ C U (d_law_bent st) ds μ P X := by
  obtain ⟨m, c, o, d, rfl, hμ, hp, hc, hd, hn, h⟩ := h
  refine ⟨rfl, ?_⟩
  show wSs Φ C U il_law_bent [some (.ref m), some d, none, none, none] μ _
  cases d with
  | tup l =>
    simp only [il_law_bent, wSs, wS, wE, wEs, wHs, IL.g0, IL.g1, IL.s0, IL.s1, Option.some.injEq, exists_eq_left', exists_eq_left, IL.ex2, IL.ex3, and_true, true_and, isNop, IL.pWn, IL.pWs, tW, Bool.false_eq_true, if_true, if_false, D.int.injEq, D.bl.injEq, D.str.injEq, D.tup.injEq, D.lst.injEq, D.ref.injEq, setMany, bopS_add, bopS_sub, bopS_mul, bopS_fdiv, bopS_mod, bopS_addt, copS_lt, copS_le, copS_gt, copS_ge, copS_eqi, copS_nei, copS_isN, copS_isnN, bfS_lent, bfS_abs, bfS_max, bfS_min, bfS_int, decide_eq_true_eq, Bool.not_eq_true', decide_eq_false_iff_not, idxS_t, at2_0, at2_1, isi_int, isi_bl, isi_non, isi_str, isi_tup, isi_lst, reduceCtorEq, decide_false, decide_true, Bool.not_true, Bool.not_false, or_false, false_or, or_true, true_or, ite_self, setiR, idxS_l, bfS_lenl, bfS_lists, bfS_listt, slcS_t, slcS_l, slcS_s, newL_f, newL_t, at5_0, at5_1, at5_2, at5_3, at5_4, ix5_1, ix5_2, ix5_3, copS_neb, copS_eqb, copS_isB, idx_fr0, idx_fr1, Ob.lst.injEq, List.set_set]
    obtain ⟨hl, ht⟩ := hd.tup
    have hnm : ∀ x ∈ l, x.num = true := by simp only [D.num] at hn; exact (nums_iff l).mp hn
    split
    · refine h1 _ _ _ _ ⟨m, 4, c, o, rfl, by decide, by decide, hμ, hp, by omega, fun v o' v0 v1 hp' => ?_⟩
      simp only [wSs, wS, wE, wEs, wHs, IL.g0, IL.g1, IL.s0, IL.s1, Option.some.injEq, exists_eq_left', exists_eq_left, IL.ex2, IL.ex3, and_true, true_and, isNop, IL.pWn, IL.pWs, tW, Bool.false_eq_true, if_true, if_false, D.int.injEq, D.bl.injEq, D.str.injEq, D.tup.injEq, D.lst.injEq, D.ref.injEq, setMany, bopS_add, bopS_sub, bopS_mul, bopS_fdiv, bopS_mod, bopS_addt, copS_lt, copS_le, copS_gt, copS_ge, copS_eqi, copS_nei, copS_isN, copS_isnN, bfS_lent, bfS_abs, bfS_max, bfS_min, bfS_int, decide_eq_true_eq, Bool.not_eq_true', decide_eq_false_iff_not, idxS_t, at2_0, at2_1, isi_int, isi_bl, isi_non, isi_str, isi_tup, isi_lst, reduceCtorEq, decide_false, decide_true, Bool.not_true, Bool.not_false, or_false, false_or, or_true, true_or, ite_self, setiR, idxS_l, bfS_lenl, bfS_lists, bfS_listt, slcS_t, slcS_l, slcS_s, newL_f, newL_t, at5_0, at5_1, at5_2, at5_3, at5_4, ix5_1, ix5_2, ix5_3, copS_neb, copS_eqb, copS_isB, idx_fr0, idx_fr1, Ob.lst.injEq, List.set_set]
      split
      · refine h1 _ _ _ _ ⟨m, _, _, _, rfl, by omega, by omega, gs_of hμ o', hp', by omega, fun k o2 k0 k1 hp2 => ?_⟩
        simp only [wSs, wS, wE, wEs, wHs, IL.g0, IL.g1, IL.s0, IL.s1, Option.some.injEq, exists_eq_left', exists_eq_left, IL.ex2, IL.ex3, and_true, true_and, isNop, IL.pWn, IL.pWs, tW, Bool.false_eq_true, if_true, if_false, D.int.injEq, D.bl.injEq, D.str.injEq, D.tup.injEq, D.lst.injEq, D.ref.injEq, setMany, bopS_add, bopS_sub, bopS_mul, bopS_fdiv, bopS_mod, bopS_addt, copS_lt, copS_le, copS_gt, copS_ge, copS_eqi, copS_nei, copS_isN, copS_isnN, bfS_lent, bfS_abs, bfS_max, bfS_min, bfS_int, decide_eq_true_eq, Bool.not_eq_true', decide_eq_false_iff_not, idxS_t, at2_0, at2_1, isi_int, isi_bl, isi_non, isi_str, isi_tup, isi_lst, reduceCtorEq, decide_false, decide_true, Bool.not_true, Bool.not_false, or_false, false_or, or_true, true_or, ite_self, setiR, idxS_l, bfS_lenl, bfS_lists, bfS_listt, slcS_t, slcS_l, slcS_s, newL_f, newL_t, at5_0, at5_1, at5_2, at5_3, at5_4, ix5_1, ix5_2, ix5_3, copS_neb, copS_eqb, copS_isB, idx_fr0, idx_fr1, Ob.lst.injEq, List.set_set]
        obtain ⟨k, rfl⟩ := Int.eq_ofNat_of_zero_le k0
        have hk : k < l.length := by omega
        have ck := ht _ (List.getElem_mem hk)
        refine h1 _ _ _ _ ⟨m, 5, _, _, rfl, by decide, by decide, gs_of hμ o2, hp2, by omega, fun w o3 w0 w1 hp3 => ?_⟩
        simp only [wSs, wS, wE, wEs, wHs, IL.g0, IL.g1, IL.s0, IL.s1, Option.some.injEq, exists_eq_left', exists_eq_left, IL.ex2, IL.ex3, and_true, true_and, isNop, IL.pWn, IL.pWs, tW, Bool.false_eq_true, if_true, if_false, D.int.injEq, D.bl.injEq, D.str.injEq, D.tup.injEq, D.lst.injEq, D.ref.injEq, setMany, bopS_add, bopS_sub, bopS_mul, bopS_fdiv, bopS_mod, bopS_addt, copS_lt, copS_le, copS_gt, copS_ge, copS_eqi, copS_nei, copS_isN, copS_isnN, bfS_lent, bfS_abs, bfS_max, bfS_min, bfS_int, decide_eq_true_eq, Bool.not_eq_true', decide_eq_false_iff_not, idxS_t, at2_0, at2_1, isi_int, isi_bl, isi_non, isi_str, isi_tup, isi_lst, reduceCtorEq, decide_false, decide_true, Bool.not_true, Bool.not_false, or_false, false_or, or_true, true_or, ite_self, setiR, idxS_l, bfS_lenl, bfS_lists, bfS_listt, slcS_t, slcS_l, slcS_s, newL_f, newL_t, at5_0, at5_1, at5_2, at5_3, at5_4, ix5_1, ix5_2, ix5_3, copS_neb, copS_eqb, copS_isB, idx_fr0, idx_fr1, Ob.lst.injEq, List.set_set]
        have lc : ∀ a b, (cut l a b).length ≤ 1000000 := fun a b => Nat.le_trans (cut_len l a b) hl
        have ll : ∀ a b x, x ∈ cut l a b → x.lay = true := fun a b x hx => (ht x (cut_mem hx)).l
        have at_ : ∀ Q : D → Prop, Q l[k] → ∃ d, some d = atI l (k : Int) ∧ Q d := fun Q hQ => ⟨_, (atI_nat hk).symm, hQ⟩
        have sz : (3000000 : Nat) ≤ sizeLine := by decide
        split
        · have := lc none (some (k : Int)); have := lc (some ((k : Int) + 1)) none
          refine ⟨by omega, .inl (h _ _ (lay_tup fun x hx => ?_) (hp3.mono (by omega)))⟩
          rcases List.mem_append.mp hx with hx | hx <;> exact ll _ _ _ hx
        · split
          · refine at_ _ ⟨(show 1 ≤ sizeLine by decide), ?_, .inl (h _ _ (lay_tup fun x hx => ?_) (hp3.mono (by omega)))⟩
            · show l.length + 1 ≤ sizeLine; omega
            · rcases List.mem_append.mp hx with hx | hx
              · exact (ht x hx).l
              · rw [List.mem_singleton.mp hx]; exact ck.l
          · have c1 := lc none (some (k : Int)); have c2 := lc (some ((k : Int) + 1)) none
            have go : ∀ (y : D) (o4 : Ob), y.lay = true → Pool (c + 10 * (n + 1)) o4 → [y].length ≤ sizeLine ∧ (cut l none (some (k : Int))).length + [y].length ≤ sizeLine ∧ (cut l none (some (k : Int)) ++ [y]).length + (cut l (some ((k : Int) + 1)) none).length ≤ sizeLine ∧
                Trn P μ (.tup (cut l none (some (k : Int)) ++ [y] ++ cut l (some ((k : Int) + 1)) none)) (μ.set m o4) := fun y o4 hy hp4 => by
              refine ⟨(show 1 ≤ sizeLine by decide), (show _ + 1 ≤ sizeLine by omega), by rw [List.length_append]; show _ + 1 + _ ≤ sizeLine; omega, .inl (h _ _ (lay_tup fun x hx => ?_) hp4)⟩
              rcases List.mem_append.mp hx with hx | hx
              · rcases List.mem_append.mp hx with hx | hx
                · exact ll _ _ _ hx
                · rw [List.mem_singleton.mp hx]; exact hy
              · exact ll _ _ _ hx
            have hp3' := hp3.mono (show c + 1 + 1 + 1 ≤ c + 10 * (n + 1) by omega)
            have nk := hnm _ (List.getElem_mem hk)
            split
            · refine at_ _ ?_
              generalize l[k] = y at *
              cases y with
              | tup ys =>
                simp only [wSs, wS, wE, wEs, wHs, IL.g0, IL.g1, IL.s0, IL.s1, Option.some.injEq, exists_eq_left', exists_eq_left, IL.ex2, IL.ex3, and_true, true_and, isNop, IL.pWn, IL.pWs, tW, Bool.false_eq_true, if_true, if_false, D.int.injEq, D.bl.injEq, D.str.injEq, D.tup.injEq, D.lst.injEq, D.ref.injEq, setMany, bopS_add, bopS_sub, bopS_mul, bopS_fdiv, bopS_mod, bopS_addt, copS_lt, copS_le, copS_gt, copS_ge, copS_eqi, copS_nei, copS_isN, copS_isnN, bfS_lent, bfS_abs, bfS_max, bfS_min, bfS_int, decide_eq_true_eq, Bool.not_eq_true', decide_eq_false_iff_not, idxS_t, at2_0, at2_1, isi_int, isi_bl, isi_non, isi_str, isi_tup, isi_lst, reduceCtorEq, decide_false, decide_true, Bool.not_true, Bool.not_false, or_false, false_or, or_true, true_or, ite_self, setiR, idxS_l, bfS_lenl, bfS_lists, bfS_listt, slcS_t, slcS_l, slcS_s, newL_f, newL_t, at5_0, at5_1, at5_2, at5_3, at5_4, ix5_1, ix5_2, ix5_3, copS_neb, copS_eqb, copS_isB, idx_fr0, idx_fr1, Ob.lst.injEq, List.set_set]
                have cs := ck.s
                have cl := ck.l
                simp only [D.sml, D.lay, Bool.and_eq_true, decide_eq_true_eq] at cs cl
                exact at_ _ (bfS_listt.mpr (newL_f.mpr ⟨by omega, go _ _ (by simp only [D.lay]; exact cl) hp3'⟩))
              | int i => simp only [wSs, wS, wE, wEs, wHs, IL.g0, IL.g1, IL.s0, IL.s1, Option.some.injEq, exists_eq_left', exists_eq_left, IL.ex2, IL.ex3, and_true, true_and, isNop, IL.pWn, IL.pWs, tW, Bool.false_eq_true, if_true, if_false, D.int.injEq, D.bl.injEq, D.str.injEq, D.tup.injEq, D.lst.injEq, D.ref.injEq, setMany, bopS_add, bopS_sub, bopS_mul, bopS_fdiv, bopS_mod, bopS_addt, copS_lt, copS_le, copS_gt, copS_ge, copS_eqi, copS_nei, copS_isN, copS_isnN, bfS_lent, bfS_abs, bfS_max, bfS_min, bfS_int, decide_eq_true_eq, Bool.not_eq_true', decide_eq_false_iff_not, idxS_t, at2_0, at2_1, isi_int, isi_bl, isi_non, isi_str, isi_tup, isi_lst, reduceCtorEq, decide_false, decide_true, Bool.not_true, Bool.not_false, or_false, false_or, or_true, true_or, ite_self, setiR, idxS_l, bfS_lenl, bfS_lists, bfS_listt, slcS_t, slcS_l, slcS_s, newL_f, newL_t, at5_0, at5_1, at5_2, at5_3, at5_4, ix5_1, ix5_2, ix5_3, copS_neb, copS_eqb, copS_isB, idx_fr0, idx_fr1, Ob.lst.injEq, List.set_set]; exact go _ _ rfl hp3'
              | str i => simp only [wSs, wS, wE, wEs, wHs, IL.g0, IL.g1, IL.s0, IL.s1, Option.some.injEq, exists_eq_left', exists_eq_left, IL.ex2, IL.ex3, and_true, true_and, isNop, IL.pWn, IL.pWs, tW, Bool.false_eq_true, if_true, if_false, D.int.injEq, D.bl.injEq, D.str.injEq, D.tup.injEq, D.lst.injEq, D.ref.injEq, setMany, bopS_add, bopS_sub, bopS_mul, bopS_fdiv, bopS_mod, bopS_addt, copS_lt, copS_le, copS_gt, copS_ge, copS_eqi, copS_nei, copS_isN, copS_isnN, bfS_lent, bfS_abs, bfS_max, bfS_min, bfS_int, decide_eq_true_eq, Bool.not_eq_true', decide_eq_false_iff_not, idxS_t, at2_0, at2_1, isi_int, isi_bl, isi_non, isi_str, isi_tup, isi_lst, reduceCtorEq, decide_false, decide_true, Bool.not_true, Bool.not_false, or_false, false_or, or_true, true_or, ite_self, setiR, idxS_l, bfS_lenl, bfS_lists, bfS_listt, slcS_t, slcS_l, slcS_s, newL_f, newL_t, at5_0, at5_1, at5_2, at5_3, at5_4, ix5_1, ix5_2, ix5_3, copS_neb, copS_eqb, copS_isB, idx_fr0, idx_fr1, Ob.lst.injEq, List.set_set]; exact go _ _ rfl hp3'
              | _ => simp [D.num] at nk
            · refine at_ _ (h3 _ _ _ _ ⟨m, _, _, _, rfl, gs_of hμ o3, hp3, by omega, ck, nk, fun d' o4 hl4 hp4 => ?_⟩)
              rw [List.set_set]
              exact go _ _ hl4 (hp4.mono (by omega))
      · exact w_bent_tail h1 h2 (gs_of hμ o') hp' (by omega) hn hd.l fun d' o' hl' hp' => by rw [List.set_set]; exact .inl (h _ _ hl' (hp'.mono (by omega)))
    · exact w_bent_tail h1 h2 hμ hp (by omega) hn hd.l fun d' o' hl' hp' => .inl (h _ _ hl' (hp'.mono (by omega)))
  | int i => simp only [il_law_bent, wSs, wS, wE, wEs, wHs, IL.g0, IL.g1, IL.s0, IL.s1, Option.some.injEq, exists_eq_left', exists_eq_left, IL.ex2, IL.ex3, and_true, true_and, isNop, IL.pWn, IL.pWs, tW, Bool.false_eq_true, if_true, if_false, D.int.injEq, D.bl.injEq, D.str.injEq, D.tup.injEq, D.lst.injEq, D.ref.injEq, setMany, bopS_add, bopS_sub, bopS_mul, bopS_fdiv, bopS_mod, bopS_addt, copS_lt, copS_le, copS_gt, copS_ge, copS_eqi, copS_nei, copS_isN, copS_isnN, bfS_lent, bfS_abs, bfS_max, bfS_min, bfS_int, decide_eq_true_eq, Bool.not_eq_true', decide_eq_false_iff_not, idxS_t, at2_0, at2_1, isi_int, isi_bl, isi_non, isi_str, isi_tup, isi_lst, reduceCtorEq, decide_false, decide_true, Bool.not_true, Bool.not_false, or_false, false_or, or_true, true_or, ite_self, setiR, idxS_l, bfS_lenl, bfS_lists, bfS_listt, slcS_t, slcS_l, slcS_s, newL_f, newL_t, at5_0, at5_1, at5_2, at5_3, at5_4, ix5_1, ix5_2, ix5_3, copS_neb, copS_eqb, copS_isB, idx_fr0, idx_fr1, Ob.lst.injEq, List.set_set]; exact w_bent_tail h1 h2 hμ hp (by omega) hn hd.l fun d' o' hl' hp' => .inl (h _ _ hl' (hp'.mono (by omega)))
  | str i => simp only [il_law_bent, wSs, wS, wE, wEs, wHs, IL.g0, IL.g1, IL.s0, IL.s1, Option.some.injEq, exists_eq_left', exists_eq_left, IL.ex2, IL.ex3, and_true, true_and, isNop, IL.pWn, IL.pWs, tW, Bool.false_eq_true, if_true, if_false, D.int.injEq, D.bl.injEq, D.str.injEq, D.tup.injEq, D.lst.injEq, D.ref.injEq, setMany, bopS_add, bopS_sub, bopS_mul, bopS_fdiv, bopS_mod, bopS_addt, copS_lt, copS_le, copS_gt, copS_ge, copS_eqi, copS_nei, copS_isN, copS_isnN, bfS_lent, bfS_abs, bfS_max, bfS_min, bfS_int, decide_eq_true_eq, Bool.not_eq_true', decide_eq_false_iff_not, idxS_t, at2_0, at2_1, isi_int, isi_bl, isi_non, isi_str, isi_tup, isi_lst, reduceCtorEq, decide_false, decide_true, Bool.not_true, Bool.not_false, or_false, false_or, or_true, true_or, ite_self, setiR, idxS_l, bfS_lenl, bfS_lists, bfS_listt, slcS_t, slcS_l, slcS_s, newL_f, newL_t, at5_0, at5_1, at5_2, at5_3, at5_4, ix5_1, ix5_2, ix5_3, copS_neb, copS_eqb, copS_isB, idx_fr0, idx_fr1, Ob.lst.injEq, List.set_set]; exact w_bent_tail h1 h2 hμ hp (by omega) hn hd.l fun d' o' hl' hp' => .inl (h _ _ hl' (hp'.mono (by omega)))
  | _ => simp [D.num] at hn
end
end IL

/-! fractions as data -/
namespace IL
open PySem L2
theorem den_pos_of {x y : Rat} (h1 : -1 < x) (h2 : x < 1) (h3 : -1 < y) (h4 : y < 1) : 0 < 1 - x * y := by
  have a := Rat.mul_pos (a := 1 - x) (b := 1 + y) (by grind) (by grind)
  have b := Rat.mul_pos (a := 1 + x) (b := 1 - y) (by grind) (by grind)
  grind
theorem turn_self (x : Rat) : turnQ x x = 0 := by unfold turnQ; grind
theorem turn_one {x : Rat} (h : x < 1) : turnQ x 1 = 1 := by unfold turnQ; grind
theorem turn_mone {x : Rat} (h : -1 < x) : turnQ x (-1) = -1 := by unfold turnQ; grind
theorem turn_lt {x y : Rat} (h1 : -1 < x) (h2 : x < 1) (h3 : -1 < y) (h4 : y < 1) : -1 < turnQ x y ∧ turnQ x y < 1 := by
  have d := den_pos_of h1 h2 h3 h4
  have a := Rat.mul_pos (a := 1 - x) (b := 1 + y) (by grind) (by grind)
  have b := Rat.mul_pos (a := 1 + x) (b := 1 - y) (by grind) (by grind)
  unfold turnQ
  rw [Rat.lt_div_iff d, Rat.div_lt_iff d]
  constructor <;> grind
theorem turn_swap (x y : Rat) : turnQ y x = - turnQ x y := by unfold turnQ; grind
theorem lt_one_iff (q : Rat) : q < 1 ↔ q.num < q.den := by
  rw [Rat.lt_iff]; simp
theorem mone_lt_iff (q : Rat) : -1 < q ↔ -(q.den : Int) < q.num := by
  rw [Rat.lt_iff]; simp
theorem sz2 {a b : D} : [a, b].length ≤ sizeLine := (show 2 ≤ sizeLine by decide)
theorem bz_mone : bz (-1) = 1 := by decide
theorem isPl_fr (q : Rat) : isPl (fr q) = decide (-1 < q ∧ q < 1) := by
  show (isFr (fr q) && decide (-(q.den : Int) < q.num ∧ q.num < q.den)) = _
  rw [isFr_fr, Bool.true_and, decide_eq_decide, lt_one_iff, mone_lt_iff]
theorem isLv_fr (q : Rat) : isLv (fr q) = decide (-(q.den : Int) ≤ q.num ∧ q.num ≤ q.den) := by
  show (isFr (fr q) && decide (-(q.den : Int) ≤ q.num ∧ q.num ≤ q.den)) = _
  rw [isFr_fr, Bool.true_and]
theorem ok_fr (q : Rat) : (fr q).ok := ⟨(Tr.fr (n := 0) q).l, by have := (Tr.fr (n := 0) q).d; omega⟩
theorem eqv_fr (p q : Rat) : D.eqv (fr p) (fr q) = decide (p = q) := by
  simp only [fr, D.eqv, D.eqvs, Bool.and_true]
  rw [Bool.eq_iff_iff]
  simp only [Bool.and_eq_true, beq_iff_eq, decide_eq_true_eq]
  refine ⟨fun ⟨h1, h2⟩ => Rat.ext h1 (by omega), fun h => by subst h; exact ⟨rfl, rfl⟩⟩
def unfr : D → Rat
  | .tup [.int n, .int m] => Rat.divInt n m
  | _ => 0
theorem unfr_fr (q : Rat) : unfr (fr q) = q := Rat.num_divInt_den q
end IL

/-! ladders -/
namespace IL
open PySem L2
theorem one_sub_pos {x y : Rat} (h1 : -1 < x) (h2 : x < 1) (h3 : -1 ≤ y) (h4 : y ≤ 1) : 0 < 1 - x * y := by
  have a := Rat.mul_nonneg (a := 1 - x) (b := 1 + y) (by grind) (by grind)
  have b := Rat.mul_nonneg (a := 1 + x) (b := 1 - y) (by grind) (by grind)
  by_cases c : y = 1
  · grind
  · have d := Rat.mul_pos (a := 1 + x) (b := 1 - y) (by grind) (by grind)
    grind
theorem one_add_pos {x y : Rat} (h1 : -1 < x) (h2 : x < 1) (h3 : -1 ≤ y) (h4 : y ≤ 1) : 0 < 1 + x * y := by
  have := one_sub_pos (x := -x) (y := y) (by grind) (by grind) h3 h4
  grind
theorem pos_ne {r : Rat} (h : 0 < r) : r ≠ 0 := fun z => by rw [z] at h; exact Rat.lt_irrefl h
theorem div_le_one {a b : Rat} (hb : 0 < b) (h : a ≤ b) : a / b ≤ 1 := by
  by_cases c : 1 < a / b
  · rw [Rat.lt_div_iff hb] at c; grind
  · grind
theorem le_div_one {a b : Rat} (hb : 0 < b) (h : -b ≤ a) : -1 ≤ a / b := by
  by_cases c : a / b < -1
  · rw [Rat.div_lt_iff hb] at c; grind
  · grind
def liftQ (l t : Rat) : Rat := (l + t) / (1 + l * t)
theorem liftQ_turn (l t : Rat) : liftQ l t = turnQ (-l) t := by unfold liftQ turnQ; grind
theorem turn_bd {x y : Rat} (h1 : -1 < x) (h2 : x < 1) (h3 : -1 ≤ y) (h4 : y ≤ 1) : -1 ≤ turnQ x y ∧ turnQ x y ≤ 1 := by
  have d := one_sub_pos h1 h2 h3 h4
  have a := Rat.mul_nonneg (a := 1 - x) (b := 1 + y) (by grind) (by grind)
  have b := Rat.mul_nonneg (a := 1 + x) (b := 1 - y) (by grind) (by grind)
  exact ⟨le_div_one d (by grind), div_le_one d (by grind)⟩
theorem turn_st {x y : Rat} (h1 : -1 < x) (h2 : x < 1) (h3 : -1 < y) (h4 : y < 1) : -1 < turnQ x y ∧ turnQ x y < 1 := by
  have d := one_sub_pos h1 h2 (y := y) (by grind) (by grind)
  have a := Rat.mul_pos (a := 1 - x) (b := 1 + y) (by grind) (by grind)
  have b := Rat.mul_pos (a := 1 + x) (b := 1 - y) (by grind) (by grind)
  unfold turnQ
  rw [Rat.lt_div_iff d, Rat.div_lt_iff d]
  constructor <;> grind
theorem lift_bd {l t : Rat} (h1 : -1 < l) (h2 : l < 1) (h3 : -1 ≤ t) (h4 : t ≤ 1) : -1 ≤ liftQ l t ∧ liftQ l t ≤ 1 := by
  rw [liftQ_turn]; exact turn_bd (by grind) (by grind) h3 h4
theorem lift_st {l t : Rat} (h1 : -1 < l) (h2 : l < 1) (h3 : -1 < t) (h4 : t < 1) : -1 < liftQ l t ∧ liftQ l t < 1 := by
  rw [liftQ_turn]; exact turn_st (by grind) (by grind) h3 h4
theorem mul_bd {a b : Rat} (h1 : -1 ≤ a) (h2 : a ≤ 1) (h3 : -1 ≤ b) (h4 : b ≤ 1) : -1 ≤ a * b ∧ a * b ≤ 1 := by
  have p := Rat.mul_nonneg (a := 1 - a) (b := 1 + b) (by grind) (by grind)
  have q := Rat.mul_nonneg (a := 1 + a) (b := 1 - b) (by grind) (by grind)
  have r := Rat.mul_nonneg (a := 1 - a) (b := 1 - b) (by grind) (by grind)
  have s := Rat.mul_nonneg (a := 1 + a) (b := 1 + b) (by grind) (by grind)
  constructor <;> grind
theorem bz_turn (p x : Rat) : bz (turnQ p x) ≤ 2 * (bz p + bz x) + 3 := by
  have z1 := bz_sub x p
  have z2 := bz_mul p x
  have z3 := bz_sub 1 (p * x)
  have z4 := bz_div (x - p) (1 - p * x)
  rw [bz_one] at z3
  unfold turnQ; omega
theorem bz_lift (p x : Rat) : bz (liftQ p x) ≤ 2 * (bz p + bz x) + 3 := by
  rw [liftQ_turn]
  have := bz_turn (-p) x
  rw [bz_neg] at this; exact this
def stD (s : Rat × Rat) : D := .tup [fr s.1, fr s.2]
def ladD (steps : List (Rat × Rat)) (last : Rat) : D := .tup [.tup (steps.map stD), fr last]
def valQ : List (Rat × Rat) → Rat → Rat → Rat
  | [], last, _ => last
  | s :: r, last, x => liftQ s.2 (turnQ s.1 x * valQ r last x)
structure LadOk (steps : List (Rat × Rat)) (last : Rat) : Prop where
  st : ∀ s ∈ steps, (-1 < s.1 ∧ s.1 < 1) ∧ -1 < s.2 ∧ s.2 < 1
  la : -1 ≤ last ∧ last ≤ 1
theorem LadOk.tail {s : Rat × Rat} {r : List (Rat × Rat)} {last : Rat} (h : LadOk (s :: r) last) : LadOk r last := ⟨fun x hx => h.st x (List.mem_cons_of_mem _ hx), h.la⟩
theorem val_bd {x last : Rat} (x0 : -1 < x) (x1 : x < 1) : ∀ {steps : List (Rat × Rat)}, LadOk steps last → -1 ≤ valQ steps last x ∧ valQ steps last x ≤ 1
  | [], h => h.la
  | s :: r, h => by
    obtain ⟨⟨a, b⟩, c, d⟩ := h.st s (List.mem_cons_self ..)
    have ih := val_bd x0 x1 h.tail
    have t := turn_st a b x0 x1
    have m := mul_bd (a := turnQ s.1 x) (b := valQ r last x) (by grind) (by grind) ih.1 ih.2
    exact lift_bd c d m.1 m.2
/-- the numbers on the way stay short -/
def VSz : List (Rat × Rat) → Rat → Rat → Prop
  | [], _, _ => True
  | s :: r, last, x => bz s.1 + bz x ≤ 6000000 ∧ bz s.2 ≤ 6000000 ∧ bz (valQ r last x) ≤ 6000000 ∧ VSz r last x
theorem bz_val {k : Nat} {x last : Rat} (hx : bz x ≤ k) (hl : bz last ≤ k) : ∀ {steps : List (Rat × Rat)}, (∀ s ∈ steps, bz s.1 ≤ k ∧ bz s.2 ≤ k) → bz (valQ steps last x) + (10 * k + 9) ≤ (11 * k + 9) * 2 ^ steps.length
  | [], _ => by simp [valQ]; omega
  | s :: r, h => by
    have ih := bz_val hx hl (steps := r) fun y hy => h y (List.mem_cons_of_mem _ hy)
    obtain ⟨h1, h2⟩ := h s (List.mem_cons_self ..)
    have t := bz_turn s.1 x
    have m := bz_mul (turnQ s.1 x) (valQ r last x)
    have l := bz_lift s.2 (turnQ s.1 x * valQ r last x)
    have e : (11 * k + 9) * 2 ^ (s :: r).length = 2 * ((11 * k + 9) * 2 ^ r.length) := by
      rw [List.length_cons, Nat.pow_succ]; grind
    rw [e]
    simp only [valQ]
    omega
/-- short steps, few of them -/
theorem vsz_of {x last : Rat} (hx : bz x ≤ 3) (hl : bz last ≤ 3) : ∀ {steps : List (Rat × Rat)}, (∀ s ∈ steps, bz s.1 ≤ 3 ∧ bz s.2 ≤ 3) → steps.length ≤ 4 → VSz steps last x
  | [], _, _ => trivial
  | s :: r, h, hn => by
    have h' : ∀ y ∈ r, bz y.1 ≤ 3 ∧ bz y.2 ≤ 3 := fun y hy => h y (List.mem_cons_of_mem _ hy)
    obtain ⟨h1, h2⟩ := h s (List.mem_cons_self ..)
    have b := bz_val hx hl (steps := r) h'
    have p : 2 ^ r.length ≤ 2 ^ 3 := Nat.pow_le_pow_right (by decide) (by simpa using hn)
    exact ⟨by omega, by omega, by omega, vsz_of hx hl h' (by simp at hn; omega)⟩
section
variable {Φ : Str → Spec} {C : Str → Option D} {U : Str → Str → Option Bool} {μ : Store} {P : DQ} {X : XQ} {ds : List D}
def sp_lifted : Spec := fun ds μ P X => ∃ l t, ds = [fr l, fr t] ∧ bz l + bz t ≤ 40000000 ∧ (1 + l * t = 0 → X "NoQuotient" μ) ∧ (1 + l * t ≠ 0 → P (fr (liftQ l t)) μ)
theorem b_lifted (st : Stmt) (hC : C "ONE" = some (.tup [.int 1, .int 1])) (h1 : Has Φ "plus" sp_plus) (h2 : Has Φ "times" sp_times) (h3 : Has Φ "over" sp_over) (h : sp_lifted ds μ P X) : BodyOk Φ C U (d_lifted st) ds μ P X := by
  obtain ⟨p, x, rfl, hz, hx, h⟩ := h
  refine ⟨rfl, ?_⟩
  show wSs Φ C U il_lifted [some (fr p), some (fr x)] μ _
  simp only [il_lifted, wSs, wS, wE, wEs, wHs, IL.g0, IL.g1, IL.s0, IL.s1, Option.some.injEq, exists_eq_left', exists_eq_left, IL.ex2, IL.ex3, and_true, true_and, isNop, IL.pWn, IL.pWs, tW, Bool.false_eq_true, if_true, if_false, D.int.injEq, D.bl.injEq, D.str.injEq, D.tup.injEq, D.lst.injEq, D.ref.injEq, setMany, bopS_add, bopS_sub, bopS_mul, bopS_fdiv, bopS_mod, bopS_addt, copS_lt, copS_le, copS_gt, copS_ge, copS_eqi, copS_nei, copS_isN, copS_isnN, bfS_lent, bfS_abs, bfS_max, bfS_min, bfS_int, decide_eq_true_eq, Bool.not_eq_true', decide_eq_false_iff_not, idxS_t, at2_0, at2_1, isi_int, isi_bl, isi_non, isi_str, isi_tup, isi_lst, reduceCtorEq, decide_false, decide_true, Bool.not_true, Bool.not_false, or_false, false_or, or_true, true_or, ite_self, setiR, idxS_l, bfS_lenl, bfS_lists, bfS_listt, slcS_t, slcS_l, slcS_s, newL_f, newL_t, at5_0, at5_1, at5_2, at5_3, at5_4, ix5_1, ix5_2, ix5_3, copS_neb, copS_eqb, copS_isB, idx_fr0, idx_fr1, Ob.lst.injEq, List.set_set, hC, fr_one]
  have z1 := bz_add p x
  have z2 := bz_mul p x
  have z3 := bz_add 1 (p * x)
  rw [bz_one] at z3
  exact h1 _ _ _ _ ⟨p, x, rfl, by omega, h2 _ _ _ _ ⟨p, x, rfl, by omega, h1 _ _ _ _ ⟨1, _, rfl, by rw [bz_one]; omega, h3 _ _ _ _ ⟨_, _, rfl, by omega, fun e => .inl (hx e), fun e => .inl (h e)⟩⟩⟩⟩
def sp_lowered : Spec := fun ds μ P X => ∃ p x, ds = [fr p, fr x] ∧ bz p + bz x ≤ 40000000 ∧ (1 - p * x = 0 → X "NoQuotient" μ) ∧ (1 - p * x ≠ 0 → P (fr (turnQ p x)) μ)
theorem b_lowered (st : Stmt) (hC : C "ONE" = some (.tup [.int 1, .int 1])) (h1 : Has Φ "minus" sp_minus) (h2 : Has Φ "times" sp_times) (h3 : Has Φ "over" sp_over) (h : sp_lowered ds μ P X) : BodyOk Φ C U (d_lowered st) ds μ P X := by
  obtain ⟨p, x, rfl, hz, hx, h⟩ := h
  refine ⟨rfl, ?_⟩
  show wSs Φ C U il_lowered [some (fr p), some (fr x)] μ _
  simp only [il_lowered, wSs, wS, wE, wEs, wHs, IL.g0, IL.g1, IL.s0, IL.s1, Option.some.injEq, exists_eq_left', exists_eq_left, IL.ex2, IL.ex3, and_true, true_and, isNop, IL.pWn, IL.pWs, tW, Bool.false_eq_true, if_true, if_false, D.int.injEq, D.bl.injEq, D.str.injEq, D.tup.injEq, D.lst.injEq, D.ref.injEq, setMany, bopS_add, bopS_sub, bopS_mul, bopS_fdiv, bopS_mod, bopS_addt, copS_lt, copS_le, copS_gt, copS_ge, copS_eqi, copS_nei, copS_isN, copS_isnN, bfS_lent, bfS_abs, bfS_max, bfS_min, bfS_int, decide_eq_true_eq, Bool.not_eq_true', decide_eq_false_iff_not, idxS_t, at2_0, at2_1, isi_int, isi_bl, isi_non, isi_str, isi_tup, isi_lst, reduceCtorEq, decide_false, decide_true, Bool.not_true, Bool.not_false, or_false, false_or, or_true, true_or, ite_self, setiR, idxS_l, bfS_lenl, bfS_lists, bfS_listt, slcS_t, slcS_l, slcS_s, newL_f, newL_t, at5_0, at5_1, at5_2, at5_3, at5_4, ix5_1, ix5_2, ix5_3, copS_neb, copS_eqb, copS_isB, idx_fr0, idx_fr1, Ob.lst.injEq, List.set_set, hC, fr_one]
  have z1 := bz_sub x p
  have z2 := bz_mul p x
  have z3 := bz_sub 1 (p * x)
  rw [bz_one] at z3
  exact h1 _ _ _ _ ⟨x, p, rfl, by omega, h2 _ _ _ _ ⟨p, x, rfl, by omega, h1 _ _ _ _ ⟨1, _, rfl, by rw [bz_one]; omega, h3 _ _ _ _ ⟨_, _, rfl, by omega, fun e => .inl (hx e), fun e => .inl (h e)⟩⟩⟩⟩
def sp_llift : Spec := fun ds μ P X => ∃ l t, ds = [fr l, fr t] ∧ bz l + bz t ≤ 40000000 ∧ 1 + l * t ≠ 0 ∧ P (fr (liftQ l t)) μ
theorem b_law_lift (st : Stmt) (h1 : Has Φ "_law_add" sp_plus) (h2 : Has Φ "_law_mul" sp_times) (h3 : Has Φ "_law_div" sp_ldiv) (h : sp_llift ds μ P X) : BodyOk Φ C U (d_law_lift st) ds μ P X := by
  obtain ⟨p, x, rfl, hz, hx, h⟩ := h
  refine ⟨rfl, ?_⟩
  show wSs Φ C U il_law_lift [some (fr p), some (fr x)] μ _
  have z1 := bz_add p x
  have z2 := bz_mul p x
  have z3 := bz_add 1 (p * x)
  rw [bz_one] at z3
  simp only [il_law_lift, wSs, wS, wE, wEs, wHs, IL.g0, IL.g1, IL.s0, IL.s1, Option.some.injEq, exists_eq_left', exists_eq_left, IL.ex2, IL.ex3, and_true, true_and, isNop, IL.pWn, IL.pWs, tW, Bool.false_eq_true, if_true, if_false, D.int.injEq, D.bl.injEq, D.str.injEq, D.tup.injEq, D.lst.injEq, D.ref.injEq, setMany, bopS_add, bopS_sub, bopS_mul, bopS_fdiv, bopS_mod, bopS_addt, copS_lt, copS_le, copS_gt, copS_ge, copS_eqi, copS_nei, copS_isN, copS_isnN, bfS_lent, bfS_abs, bfS_max, bfS_min, bfS_int, decide_eq_true_eq, Bool.not_eq_true', decide_eq_false_iff_not, idxS_t, at2_0, at2_1, isi_int, isi_bl, isi_non, isi_str, isi_tup, isi_lst, reduceCtorEq, decide_false, decide_true, Bool.not_true, Bool.not_false, or_false, false_or, or_true, true_or, ite_self, setiR, idxS_l, bfS_lenl, bfS_lists, bfS_listt, slcS_t, slcS_l, slcS_s, newL_f, newL_t, at5_0, at5_1, at5_2, at5_3, at5_4, ix5_1, ix5_2, ix5_3, copS_neb, copS_eqb, copS_isB, idx_fr0, idx_fr1, Ob.lst.injEq, List.set_set, fr_one]
  exact h1 _ _ _ _ ⟨p, x, rfl, by omega, (show 2 ≤ sizeLine by decide), h2 _ _ _ _ ⟨p, x, rfl, by omega, h1 _ _ _ _ ⟨1, _, rfl, by rw [bz_one]; omega, h3 _ _ _ _ ⟨_, _, rfl, by omega, hx, .inl h⟩⟩⟩⟩
theorem b_law_joined (st : Stmt) (h1 : Has Φ "_law_add" sp_plus) (h2 : Has Φ "_law_mul" sp_times) (h3 : Has Φ "_law_div" sp_ldiv) (h : sp_llift ds μ P X) : BodyOk Φ C U (d_law_joined st) ds μ P X := by
  obtain ⟨p, x, rfl, hz, hx, h⟩ := h
  refine ⟨rfl, ?_⟩
  show wSs Φ C U il_law_joined [some (fr p), some (fr x)] μ _
  have z1 := bz_add p x
  have z2 := bz_mul p x
  have z3 := bz_add 1 (p * x)
  rw [bz_one] at z3
  simp only [il_law_joined, wSs, wS, wE, wEs, wHs, IL.g0, IL.g1, IL.s0, IL.s1, Option.some.injEq, exists_eq_left', exists_eq_left, IL.ex2, IL.ex3, and_true, true_and, isNop, IL.pWn, IL.pWs, tW, Bool.false_eq_true, if_true, if_false, D.int.injEq, D.bl.injEq, D.str.injEq, D.tup.injEq, D.lst.injEq, D.ref.injEq, setMany, bopS_add, bopS_sub, bopS_mul, bopS_fdiv, bopS_mod, bopS_addt, copS_lt, copS_le, copS_gt, copS_ge, copS_eqi, copS_nei, copS_isN, copS_isnN, bfS_lent, bfS_abs, bfS_max, bfS_min, bfS_int, decide_eq_true_eq, Bool.not_eq_true', decide_eq_false_iff_not, idxS_t, at2_0, at2_1, isi_int, isi_bl, isi_non, isi_str, isi_tup, isi_lst, reduceCtorEq, decide_false, decide_true, Bool.not_true, Bool.not_false, or_false, false_or, or_true, true_or, ite_self, setiR, idxS_l, bfS_lenl, bfS_lists, bfS_listt, slcS_t, slcS_l, slcS_s, newL_f, newL_t, at5_0, at5_1, at5_2, at5_3, at5_4, ix5_1, ix5_2, ix5_3, copS_neb, copS_eqb, copS_isB, idx_fr0, idx_fr1, Ob.lst.injEq, List.set_set, fr_one]
  exact h1 _ _ _ _ ⟨p, x, rfl, by omega, (show 2 ≤ sizeLine by decide), h2 _ _ _ _ ⟨p, x, rfl, by omega, h1 _ _ _ _ ⟨1, _, rfl, by rw [bz_one]; omega, h3 _ _ _ _ ⟨_, _, rfl, by omega, hx, .inl h⟩⟩⟩⟩
/-! one or minus one -/
theorem dep_fr (q : Rat) : (fr q).dep ≤ 1 := by have := (Tr.fr (n := 0) q).d; omega
theorem inn_pm {q : Rat} {Q : DQ} (h : Q (.bl (decide (q = 1 ∨ q = -1))) μ) : copS .inn (fr q) (.tup [fr 1, fr (-1)]) μ Q := by
  refine ⟨_, rfl, ok_fr q, ⟨?_, ?_⟩, ?_⟩
  · exact lay_tup fun x hx => by
      simp only [List.mem_cons, List.not_mem_nil, or_false] at hx
      rcases hx with rfl | rfl <;> exact (ok_fr _).1
  · simp only [D.dep, D.deps]
    have := dep_fr 1
    have := dep_fr (-1)
    omega
  · simp only [List.any_cons, List.any_nil, eqv_fr, Bool.or_false]
    rw [show (decide ((1 : Rat) = q) || decide ((-1 : Rat) = q)) = decide (q = 1 ∨ q = -1) by
      rw [Bool.eq_iff_iff]; simp only [Bool.or_eq_true, decide_eq_true_eq]; grind]
    exact h
def sp_is_full : Spec := fun ds μ P X => ∃ x q, ds = [.tup [x, fr q]] ∧ P (.bl (decide (q = 1 ∨ q = -1))) μ
theorem fr_mone : D.tup [.int (-1), .int 1] = fr (-1) := rfl
theorem b_is_full (st : Stmt) (hC : C "ONE" = some (.tup [.int 1, .int 1])) (h : sp_is_full ds μ P X) : BodyOk Φ C U (d_is_full st) ds μ P X := by
  obtain ⟨x, q, rfl, h⟩ := h
  refine ⟨rfl, ?_⟩
  show wSs Φ C U il_is_full [some (.tup [x, fr q])] μ _
  simp only [il_is_full, wSs, wS, wE, wEs, wHs, IL.g0, IL.g1, IL.s0, IL.s1, Option.some.injEq, exists_eq_left', exists_eq_left, IL.ex2, IL.ex3, and_true, true_and, isNop, IL.pWn, IL.pWs, tW, Bool.false_eq_true, if_true, if_false, D.int.injEq, D.bl.injEq, D.str.injEq, D.tup.injEq, D.lst.injEq, D.ref.injEq, setMany, bopS_add, bopS_sub, bopS_mul, bopS_fdiv, bopS_mod, bopS_addt, copS_lt, copS_le, copS_gt, copS_ge, copS_eqi, copS_nei, copS_isN, copS_isnN, bfS_lent, bfS_abs, bfS_max, bfS_min, bfS_int, decide_eq_true_eq, Bool.not_eq_true', decide_eq_false_iff_not, idxS_t, at2_0, at2_1, isi_int, isi_bl, isi_non, isi_str, isi_tup, isi_lst, reduceCtorEq, decide_false, decide_true, Bool.not_true, Bool.not_false, or_false, false_or, or_true, true_or, ite_self, setiR, idxS_l, bfS_lenl, bfS_lists, bfS_listt, slcS_t, slcS_l, slcS_s, newL_f, newL_t, at5_0, at5_1, at5_2, at5_3, at5_4, ix5_1, ix5_2, ix5_3, copS_neb, copS_eqb, copS_isB, idx_fr0, idx_fr1, Ob.lst.injEq, List.set_set, hC, fr_one, fr_mone]
  exact ⟨(show 2 ≤ sizeLine by decide), (show 2 ≤ sizeLine by decide), inn_pm (.inl h)⟩
end
end IL

/-! values of ladders; drawn ladders -/
namespace IL
open PySem L2
section
variable {Φ : Str → Spec} {C : Str → Option D} {U : Str → Str → Option Bool} {μ : Store} {P : DQ} {X : XQ} {ds : List D}
theorem rev_at {steps : List (Rat × Rat)} {i : Nat} {d : D} (h : (steps.map stD).reverse[i]? = some d) : ∃ (s : Rat × Rat), i < steps.length ∧ d = stD s ∧ s ∈ steps ∧ steps.drop (steps.length - (i + 1)) = s :: steps.drop (steps.length - i) := by
  have hi : i < steps.length := by
    have := (List.getElem?_eq_some_iff.mp h).1
    simpa using this
  rw [List.getElem?_reverse (by simpa using hi), List.getElem?_map, List.length_map] at h
  have hj : steps.length - 1 - i < steps.length := by omega
  rw [List.getElem?_eq_getElem hj] at h
  refine ⟨steps[steps.length - 1 - i], hi, by simpa using h.symm, List.getElem_mem _, ?_⟩
  rw [show steps.length - (i + 1) = steps.length - 1 - i by omega, List.drop_eq_getElem_cons hj]
  congr 2; omega
theorem vsz_drop {x last : Rat} : ∀ {steps : List (Rat × Rat)} (n : Nat), VSz steps last x → VSz (steps.drop n) last x
  | _, 0, h => h
  | [], n + 1, h => h
  | s :: r, n + 1, h => vsz_drop (steps := r) n h.2.2.2
def sp_value_on : Spec := fun ds μ P X => ∃ steps last x, ds = [ladD steps last, fr x] ∧ LadOk steps last ∧ (-1 < x ∧ x < 1) ∧ VSz steps last x ∧ P (fr (valQ steps last x)) μ
theorem b_value_on (st : Stmt) (h1 : Has Φ "turn" sp_turn) (h2 : Has Φ "times" sp_times) (h3 : Has Φ "lifted" sp_lifted) (h : sp_value_on ds μ P X) : BodyOk Φ C U (d_value_on st) ds μ P X := by
  obtain ⟨steps, last, x, rfl, hL, ⟨x0, x1⟩, hz, h⟩ := h
  refine ⟨rfl, ?_⟩
  show wSs Φ C U il_value_on [some (ladD steps last), some (fr x), none, none, none] μ _
  simp only [il_value_on, ladD, wSs, wS, wE, wEs, wHs, IL.g0, IL.g1, IL.s0, IL.s1, Option.some.injEq, exists_eq_left', exists_eq_left, IL.ex2, IL.ex3, and_true, true_and, isNop, IL.pWn, IL.pWs, tW, Bool.false_eq_true, if_true, if_false, D.int.injEq, D.bl.injEq, D.str.injEq, D.tup.injEq, D.lst.injEq, D.ref.injEq, setMany, bopS_add, bopS_sub, bopS_mul, bopS_fdiv, bopS_mod, bopS_addt, copS_lt, copS_le, copS_gt, copS_ge, copS_eqi, copS_nei, copS_isN, copS_isnN, bfS_lent, bfS_abs, bfS_max, bfS_min, bfS_int, decide_eq_true_eq, Bool.not_eq_true', decide_eq_false_iff_not, idxS_t, at2_0, at2_1, isi_int, isi_bl, isi_non, isi_str, isi_tup, isi_lst, reduceCtorEq, decide_false, decide_true, Bool.not_true, Bool.not_false, or_false, false_or, or_true, true_or, ite_self, setiR, idxS_l, bfS_lenl, bfS_lists, bfS_listt, slcS_t, slcS_l, slcS_s, newL_f, newL_t, at5_0, at5_1, at5_2, at5_3, at5_4, ix5_1, ix5_2, ix5_3, copS_neb, copS_eqb, copS_isB, idx_fr0, idx_fr1, Ob.lst.injEq, List.set_set]
  simp only [lp_value_on_0, itW, itS, revS, wSs, wS, wE, wEs, wHs, IL.g0, IL.g1, IL.s0, IL.s1, Option.some.injEq, exists_eq_left', exists_eq_left, IL.ex2, IL.ex3, and_true, true_and, isNop, IL.pWn, IL.pWs, tW, Bool.false_eq_true, if_true, if_false, D.int.injEq, D.bl.injEq, D.str.injEq, D.tup.injEq, D.lst.injEq, D.ref.injEq, setMany, bopS_add, bopS_sub, bopS_mul, bopS_fdiv, bopS_mod, bopS_addt, copS_lt, copS_le, copS_gt, copS_ge, copS_eqi, copS_nei, copS_isN, copS_isnN, bfS_lent, bfS_abs, bfS_max, bfS_min, bfS_int, decide_eq_true_eq, Bool.not_eq_true', decide_eq_false_iff_not, idxS_t, at2_0, at2_1, isi_int, isi_bl, isi_non, isi_str, isi_tup, isi_lst, reduceCtorEq, decide_false, decide_true, Bool.not_true, Bool.not_false, or_false, false_or, or_true, true_or, ite_self, setiR, idxS_l, bfS_lenl, bfS_lists, bfS_listt, slcS_t, slcS_l, slcS_s, newL_f, newL_t, at5_0, at5_1, at5_2, at5_3, at5_4, ix5_1, ix5_2, ix5_3, copS_neb, copS_eqb, copS_isB, idx_fr0, idx_fr1, Ob.lst.injEq, List.set_set]
  refine ⟨_, rfl, loop_rule (fun i ρ μ' => μ' = μ ∧ ∃ y z, ρ = [some (ladD steps last), some (fr x), some (fr (valQ (steps.drop (steps.length - i)) last x)), y, z]) (fun i d ρ μ' hd ⟨e1, y, z, e2⟩ => ⟨trivial, ?_⟩) (fun ρ μ' ⟨e1, y, z, e2⟩ => ⟨trivial, ?_⟩) ⟨rfl, none, none, by simp [valQ, ladD]⟩⟩
  · obtain ⟨s, hi, rfl, hs, ed⟩ := rev_at hd
    subst e1 e2
    refine ⟨_, rfl, rfl, ?_⟩
    intro N hN
    have vz := vsz_drop (steps.length - (i + 1)) hz
    rw [ed] at vz
    have lo : LadOk (steps.drop (steps.length - i)) last := ⟨fun y hy => hL.st y (List.mem_of_mem_drop hy), hL.la⟩
    have vb := val_bd x0 x1 lo
    obtain ⟨⟨a0, a1⟩, l0, l1⟩ := hL.st s hs
    have vd := hN [some (ladD steps last), some (fr x), some (fr (valQ (steps.drop (steps.length - (i + 1))) last x)), some (fr s.1), some (fr s.2)] μ' ⟨rfl, _, _, rfl⟩
    rw [ed] at vd
    simp only [valQ] at vd
    obtain ⟨v1, v2, v3, _⟩ := vz
    generalize valQ (steps.drop (steps.length - i)) last x = v at *
    have t := turn_st a0 a1 x0 x1
    have m := mul_bd (a := turnQ s.1 x) (b := v) (by grind) (by grind) vb.1 vb.2
    have z1 := bz_turn s.1 x
    have z2 := bz_mul (turnQ s.1 x) v
    have ne1 := pos_ne (den_pos_of a0 a1 x0 x1)
    have ne2 := pos_ne (one_add_pos l0 l1 m.1 m.2)
    simp only [wSs, wS, wE, wEs, wHs, IL.g0, IL.g1, IL.s0, IL.s1, Option.some.injEq, exists_eq_left', exists_eq_left, IL.ex2, IL.ex3, and_true, true_and, isNop, IL.pWn, IL.pWs, tW, Bool.false_eq_true, if_true, if_false, D.int.injEq, D.bl.injEq, D.str.injEq, D.tup.injEq, D.lst.injEq, D.ref.injEq, setMany, bopS_add, bopS_sub, bopS_mul, bopS_fdiv, bopS_mod, bopS_addt, copS_lt, copS_le, copS_gt, copS_ge, copS_eqi, copS_nei, copS_isN, copS_isnN, bfS_lent, bfS_abs, bfS_max, bfS_min, bfS_int, decide_eq_true_eq, Bool.not_eq_true', decide_eq_false_iff_not, idxS_t, at2_0, at2_1, isi_int, isi_bl, isi_non, isi_str, isi_tup, isi_lst, reduceCtorEq, decide_false, decide_true, Bool.not_true, Bool.not_false, or_false, false_or, or_true, true_or, ite_self, setiR, idxS_l, bfS_lenl, bfS_lists, bfS_listt, slcS_t, slcS_l, slcS_s, newL_f, newL_t, at5_0, at5_1, at5_2, at5_3, at5_4, ix5_1, ix5_2, ix5_3, copS_neb, copS_eqb, copS_isB, idx_fr0, idx_fr1, Ob.lst.injEq, List.set_set]
    exact h1 _ _ _ _ ⟨s.1, x, rfl, by omega, fun e => absurd e ne1, fun _ => h2 _ _ _ _ ⟨_, v, rfl, by omega, h3 _ _ _ _ ⟨s.2, _, rfl, by omega, fun e => absurd e ne2, fun _ => vd⟩⟩⟩
  · subst e1 e2
    simp only [wSs, wS, wE, wEs, wHs, IL.g0, IL.g1, IL.s0, IL.s1, Option.some.injEq, exists_eq_left', exists_eq_left, IL.ex2, IL.ex3, and_true, true_and, isNop, IL.pWn, IL.pWs, tW, Bool.false_eq_true, if_true, if_false, D.int.injEq, D.bl.injEq, D.str.injEq, D.tup.injEq, D.lst.injEq, D.ref.injEq, setMany, bopS_add, bopS_sub, bopS_mul, bopS_fdiv, bopS_mod, bopS_addt, copS_lt, copS_le, copS_gt, copS_ge, copS_eqi, copS_nei, copS_isN, copS_isnN, bfS_lent, bfS_abs, bfS_max, bfS_min, bfS_int, decide_eq_true_eq, Bool.not_eq_true', decide_eq_false_iff_not, idxS_t, at2_0, at2_1, isi_int, isi_bl, isi_non, isi_str, isi_tup, isi_lst, reduceCtorEq, decide_false, decide_true, Bool.not_true, Bool.not_false, or_false, false_or, or_true, true_or, ite_self, setiR, idxS_l, bfS_lenl, bfS_lists, bfS_listt, slcS_t, slcS_l, slcS_s, newL_f, newL_t, at5_0, at5_1, at5_2, at5_3, at5_4, ix5_1, ix5_2, ix5_3, copS_neb, copS_eqb, copS_isB, idx_fr0, idx_fr1, Ob.lst.injEq, List.set_set]
    refine .inl ?_
    simpa using h
def sp_law_on : Spec := sp_value_on
theorem b_law_on (st : Stmt) (h1 : Has Φ "_law_swing" sp_swing) (h2 : Has Φ "_law_mul" sp_times) (h3 : Has Φ "_law_lift" sp_llift) (h : sp_value_on ds μ P X) : BodyOk Φ C U (d_law_on st) ds μ P X := by
  obtain ⟨steps, last, x, rfl, hL, ⟨x0, x1⟩, hz, h⟩ := h
  refine ⟨rfl, ?_⟩
  show wSs Φ C U il_law_on [some (ladD steps last), some (fr x), none, none, none] μ _
  simp only [il_law_on, ladD, wSs, wS, wE, wEs, wHs, IL.g0, IL.g1, IL.s0, IL.s1, Option.some.injEq, exists_eq_left', exists_eq_left, IL.ex2, IL.ex3, and_true, true_and, isNop, IL.pWn, IL.pWs, tW, Bool.false_eq_true, if_true, if_false, D.int.injEq, D.bl.injEq, D.str.injEq, D.tup.injEq, D.lst.injEq, D.ref.injEq, setMany, bopS_add, bopS_sub, bopS_mul, bopS_fdiv, bopS_mod, bopS_addt, copS_lt, copS_le, copS_gt, copS_ge, copS_eqi, copS_nei, copS_isN, copS_isnN, bfS_lent, bfS_abs, bfS_max, bfS_min, bfS_int, decide_eq_true_eq, Bool.not_eq_true', decide_eq_false_iff_not, idxS_t, at2_0, at2_1, isi_int, isi_bl, isi_non, isi_str, isi_tup, isi_lst, reduceCtorEq, decide_false, decide_true, Bool.not_true, Bool.not_false, or_false, false_or, or_true, true_or, ite_self, setiR, idxS_l, bfS_lenl, bfS_lists, bfS_listt, slcS_t, slcS_l, slcS_s, newL_f, newL_t, at5_0, at5_1, at5_2, at5_3, at5_4, ix5_1, ix5_2, ix5_3, copS_neb, copS_eqb, copS_isB, idx_fr0, idx_fr1, Ob.lst.injEq, List.set_set]
  simp only [lp_law_on_0, itW, itS, revS, wSs, wS, wE, wEs, wHs, IL.g0, IL.g1, IL.s0, IL.s1, Option.some.injEq, exists_eq_left', exists_eq_left, IL.ex2, IL.ex3, and_true, true_and, isNop, IL.pWn, IL.pWs, tW, Bool.false_eq_true, if_true, if_false, D.int.injEq, D.bl.injEq, D.str.injEq, D.tup.injEq, D.lst.injEq, D.ref.injEq, setMany, bopS_add, bopS_sub, bopS_mul, bopS_fdiv, bopS_mod, bopS_addt, copS_lt, copS_le, copS_gt, copS_ge, copS_eqi, copS_nei, copS_isN, copS_isnN, bfS_lent, bfS_abs, bfS_max, bfS_min, bfS_int, decide_eq_true_eq, Bool.not_eq_true', decide_eq_false_iff_not, idxS_t, at2_0, at2_1, isi_int, isi_bl, isi_non, isi_str, isi_tup, isi_lst, reduceCtorEq, decide_false, decide_true, Bool.not_true, Bool.not_false, or_false, false_or, or_true, true_or, ite_self, setiR, idxS_l, bfS_lenl, bfS_lists, bfS_listt, slcS_t, slcS_l, slcS_s, newL_f, newL_t, at5_0, at5_1, at5_2, at5_3, at5_4, ix5_1, ix5_2, ix5_3, copS_neb, copS_eqb, copS_isB, idx_fr0, idx_fr1, Ob.lst.injEq, List.set_set]
  refine ⟨_, rfl, loop_rule (fun i ρ μ' => μ' = μ ∧ ∃ y z, ρ = [some (ladD steps last), some (fr x), some (fr (valQ (steps.drop (steps.length - i)) last x)), y, z]) (fun i d ρ μ' hd ⟨e1, y, z, e2⟩ => ⟨trivial, ?_⟩) (fun ρ μ' ⟨e1, y, z, e2⟩ => ⟨trivial, ?_⟩) ⟨rfl, none, none, by simp [valQ, ladD]⟩⟩
  · obtain ⟨s, hi, rfl, hs, ed⟩ := rev_at hd
    subst e1 e2
    refine ⟨_, rfl, rfl, ?_⟩
    intro N hN
    have vz := vsz_drop (steps.length - (i + 1)) hz
    rw [ed] at vz
    have lo : LadOk (steps.drop (steps.length - i)) last := ⟨fun y hy => hL.st y (List.mem_of_mem_drop hy), hL.la⟩
    have vb := val_bd x0 x1 lo
    obtain ⟨⟨a0, a1⟩, l0, l1⟩ := hL.st s hs
    have vd := hN [some (ladD steps last), some (fr x), some (fr (valQ (steps.drop (steps.length - (i + 1))) last x)), some (fr s.1), some (fr s.2)] μ' ⟨rfl, _, _, rfl⟩
    rw [ed] at vd
    simp only [valQ] at vd
    obtain ⟨v1, v2, v3, _⟩ := vz
    generalize valQ (steps.drop (steps.length - i)) last x = v at *
    have t := turn_st a0 a1 x0 x1
    have m := mul_bd (a := turnQ s.1 x) (b := v) (by grind) (by grind) vb.1 vb.2
    have z1 := bz_turn s.1 x
    have z2 := bz_mul (turnQ s.1 x) v
    have ne1 := pos_ne (den_pos_of a0 a1 x0 x1)
    have ne2 := pos_ne (one_add_pos l0 l1 m.1 m.2)
    simp only [wSs, wS, wE, wEs, wHs, IL.g0, IL.g1, IL.s0, IL.s1, Option.some.injEq, exists_eq_left', exists_eq_left, IL.ex2, IL.ex3, and_true, true_and, isNop, IL.pWn, IL.pWs, tW, Bool.false_eq_true, if_true, if_false, D.int.injEq, D.bl.injEq, D.str.injEq, D.tup.injEq, D.lst.injEq, D.ref.injEq, setMany, bopS_add, bopS_sub, bopS_mul, bopS_fdiv, bopS_mod, bopS_addt, copS_lt, copS_le, copS_gt, copS_ge, copS_eqi, copS_nei, copS_isN, copS_isnN, bfS_lent, bfS_abs, bfS_max, bfS_min, bfS_int, decide_eq_true_eq, Bool.not_eq_true', decide_eq_false_iff_not, idxS_t, at2_0, at2_1, isi_int, isi_bl, isi_non, isi_str, isi_tup, isi_lst, reduceCtorEq, decide_false, decide_true, Bool.not_true, Bool.not_false, or_false, false_or, or_true, true_or, ite_self, setiR, idxS_l, bfS_lenl, bfS_lists, bfS_listt, slcS_t, slcS_l, slcS_s, newL_f, newL_t, at5_0, at5_1, at5_2, at5_3, at5_4, ix5_1, ix5_2, ix5_3, copS_neb, copS_eqb, copS_isB, idx_fr0, idx_fr1, Ob.lst.injEq, List.set_set]
    exact h1 _ _ _ _ ⟨s.1, x, rfl, by omega, ne1, h2 _ _ _ _ ⟨_, v, rfl, by omega, h3 _ _ _ _ ⟨s.2, _, rfl, by omega, ne2, vd⟩⟩⟩
  · subst e1 e2
    simp only [wSs, wS, wE, wEs, wHs, IL.g0, IL.g1, IL.s0, IL.s1, Option.some.injEq, exists_eq_left', exists_eq_left, IL.ex2, IL.ex3, and_true, true_and, isNop, IL.pWn, IL.pWs, tW, Bool.false_eq_true, if_true, if_false, D.int.injEq, D.bl.injEq, D.str.injEq, D.tup.injEq, D.lst.injEq, D.ref.injEq, setMany, bopS_add, bopS_sub, bopS_mul, bopS_fdiv, bopS_mod, bopS_addt, copS_lt, copS_le, copS_gt, copS_ge, copS_eqi, copS_nei, copS_isN, copS_isnN, bfS_lent, bfS_abs, bfS_max, bfS_min, bfS_int, decide_eq_true_eq, Bool.not_eq_true', decide_eq_false_iff_not, idxS_t, at2_0, at2_1, isi_int, isi_bl, isi_non, isi_str, isi_tup, isi_lst, reduceCtorEq, decide_false, decide_true, Bool.not_true, Bool.not_false, or_false, false_or, or_true, true_or, ite_self, setiR, idxS_l, bfS_lenl, bfS_lists, bfS_listt, slcS_t, slcS_l, slcS_s, newL_f, newL_t, at5_0, at5_1, at5_2, at5_3, at5_4, ix5_1, ix5_2, ix5_3, copS_neb, copS_eqb, copS_isB, idx_fr0, idx_fr1, Ob.lst.injEq, List.set_set]
    refine .inl ?_
    simpa using h
/-! drawn ladders -/
structure LadS (most : Nat) (steps : List (Rat × Rat)) (last : Rat) : Prop extends LadOk steps last where
  n : steps.length ≤ most
  sz : ∀ s ∈ steps, bz s.1 ≤ 3 ∧ bz s.2 ≤ 3
  sl : bz last ≤ 3
def sp_law_ladder : Spec := fun ds μ P X => ∃ n c o most, ds = [.ref n, .int (most : Nat)] ∧ most ≤ 1000 ∧ μ[n]? = some o ∧ Pool c o ∧ c + 10000 < 2 ^ 64 ∧ ∀ steps last o', LadS most steps last → Pool (c + 4 * most + 5) o' → P (ladD steps last) (μ.set n o')
theorem b_law_ladder (st : Stmt) (h1 : Has Φ "_law_draw" sp_draw) (h2 : Has Φ "_law_place" sp_place) (h3 : Has Φ "_law_level" sp_level) (h : sp_law_ladder ds μ P X) : BodyOk Φ C U (d_law_ladder st) ds μ P X := by
  obtain ⟨n, c, o, most, rfl, hm, hμ, hp, hc, h⟩ := h
  refine ⟨rfl, ?_⟩
  show wSs Φ C U il_law_ladder [some (.ref n), some (.int (most : Nat)), none, none, none] μ _
  simp only [il_law_ladder, wSs, wS, wE, wEs, wHs, IL.g0, IL.g1, IL.s0, IL.s1, Option.some.injEq, exists_eq_left', exists_eq_left, IL.ex2, IL.ex3, and_true, true_and, isNop, IL.pWn, IL.pWs, tW, Bool.false_eq_true, if_true, if_false, D.int.injEq, D.bl.injEq, D.str.injEq, D.tup.injEq, D.lst.injEq, D.ref.injEq, setMany, bopS_add, bopS_sub, bopS_mul, bopS_fdiv, bopS_mod, bopS_addt, copS_lt, copS_le, copS_gt, copS_ge, copS_eqi, copS_nei, copS_isN, copS_isnN, bfS_lent, bfS_abs, bfS_max, bfS_min, bfS_int, decide_eq_true_eq, Bool.not_eq_true', decide_eq_false_iff_not, idxS_t, at2_0, at2_1, isi_int, isi_bl, isi_non, isi_str, isi_tup, isi_lst, reduceCtorEq, decide_false, decide_true, Bool.not_true, Bool.not_false, or_false, false_or, or_true, true_or, ite_self, setiR, idxS_l, bfS_lenl, bfS_lists, bfS_listt, slcS_t, slcS_l, slcS_s, newL_f, newL_t, at5_0, at5_1, at5_2, at5_3, at5_4, ix5_1, ix5_2, ix5_3, copS_neb, copS_eqb, copS_isB, idx_fr0, idx_fr1, Ob.lst.injEq, List.set_set]
  simp only [cp_law_ladder_0, itW, itS, wSs, wS, wE, wEs, wHs, IL.g0, IL.g1, IL.s0, IL.s1, Option.some.injEq, exists_eq_left', exists_eq_left, IL.ex2, IL.ex3, and_true, true_and, isNop, IL.pWn, IL.pWs, tW, Bool.false_eq_true, if_true, if_false, D.int.injEq, D.bl.injEq, D.str.injEq, D.tup.injEq, D.lst.injEq, D.ref.injEq, setMany, bopS_add, bopS_sub, bopS_mul, bopS_fdiv, bopS_mod, bopS_addt, copS_lt, copS_le, copS_gt, copS_ge, copS_eqi, copS_nei, copS_isN, copS_isnN, bfS_lent, bfS_abs, bfS_max, bfS_min, bfS_int, decide_eq_true_eq, Bool.not_eq_true', decide_eq_false_iff_not, idxS_t, at2_0, at2_1, isi_int, isi_bl, isi_non, isi_str, isi_tup, isi_lst, reduceCtorEq, decide_false, decide_true, Bool.not_true, Bool.not_false, or_false, false_or, or_true, true_or, ite_self, setiR, idxS_l, bfS_lenl, bfS_lists, bfS_listt, slcS_t, slcS_l, slcS_s, newL_f, newL_t, at5_0, at5_1, at5_2, at5_3, at5_4, ix5_1, ix5_2, ix5_3, copS_neb, copS_eqb, copS_isB, idx_fr0, idx_fr1, Ob.lst.injEq, List.set_set]
  refine h1 _ _ _ _ ⟨n, _, c, o, rfl, by omega, by omega, hμ, hp, by omega, fun k o1 k0 k1 hp1 => ?_⟩
  refine ⟨_, rfl, by omega, by omega, ?_⟩
  have hkm : k.toNat ≤ most := by omega
  generalize hkk : k.toNat = kk at *
  refine comp_rule (fun i acc μ' => ∃ (steps : List (Rat × Rat)) (o' : Ob), acc = steps.map stD ∧ steps.length = i ∧ i ≤ kk ∧ (∀ s ∈ steps, ((-1 < s.1 ∧ s.1 < 1) ∧ -1 < s.2 ∧ s.2 < 1) ∧ bz s.1 ≤ 3 ∧ bz s.2 ≤ 3) ∧ Pool (c + 1 + 4 * i) o' ∧ μ' = μ.set n o')
    (fun i d acc μ' hd ⟨steps, o', e1, e2, hik, hs, hp', e3⟩ => ⟨trivial, ?_⟩) (fun acc μ' ⟨steps, o', e1, e2, hik, hs, hp', e3⟩ => ⟨trivial, ?_⟩) ⟨[], o1, rfl, rfl, Nat.zero_le _, fun _ h => (nomatch h), hp1, rfl⟩
  · obtain ⟨rfl, hi⟩ := rng_at hd
    subst e1 e3
    intro N hN
    simp only [wipeD, Tg.slots, wSs, wS, wE, wEs, wHs, IL.g0, IL.g1, IL.s0, IL.s1, Option.some.injEq, exists_eq_left', exists_eq_left, IL.ex2, IL.ex3, and_true, true_and, isNop, IL.pWn, IL.pWs, tW, Bool.false_eq_true, if_true, if_false, D.int.injEq, D.bl.injEq, D.str.injEq, D.tup.injEq, D.lst.injEq, D.ref.injEq, setMany, bopS_add, bopS_sub, bopS_mul, bopS_fdiv, bopS_mod, bopS_addt, copS_lt, copS_le, copS_gt, copS_ge, copS_eqi, copS_nei, copS_isN, copS_isnN, bfS_lent, bfS_abs, bfS_max, bfS_min, bfS_int, decide_eq_true_eq, Bool.not_eq_true', decide_eq_false_iff_not, idxS_t, at2_0, at2_1, isi_int, isi_bl, isi_non, isi_str, isi_tup, isi_lst, reduceCtorEq, decide_false, decide_true, Bool.not_true, Bool.not_false, or_false, false_or, or_true, true_or, ite_self, setiR, idxS_l, bfS_lenl, bfS_lists, bfS_listt, slcS_t, slcS_l, slcS_s, newL_f, newL_t, at5_0, at5_1, at5_2, at5_3, at5_4, ix5_1, ix5_2, ix5_3, copS_neb, copS_eqb, copS_isB, idx_fr0, idx_fr1, Ob.lst.injEq, List.set_set]
    refine h2 _ _ _ _ ⟨n, _, o', rfl, gs_of hμ o', hp', by omega, fun a o2 a0 a1 ha hp2 => h2 _ _ _ _ ⟨n, _, o2, rfl, gs_of (gs_of hμ o') o2, hp2, by omega, fun l o3 l0 l1 hl hp3 => ?_⟩⟩
    refine ⟨(show 2 ≤ sizeLine by decide), ?_, hN _ _ ⟨steps ++ [(a, l)], o3, by simp [stD], by simp [e2], hi, fun s hs' => ?_, hp3.mono (by omega), by simp only [List.set_set]⟩⟩
    · rw [List.length_map, e2]
      have : (1001 : Nat) ≤ sizeLine := by decide
      omega
    · rcases List.mem_append.mp hs' with hs' | hs'
      · exact hs s hs'
      · rw [List.mem_singleton.mp hs']
        exact ⟨⟨⟨a0, a1⟩, l0, l1⟩, ha, hl⟩
  · have e2' : steps.length = kk := by rw [e2]; simp [rngD]
    subst e1 e3
    have zz : steps.length ≤ sizeLine := by
      have : (1001 : Nat) ≤ sizeLine := by decide
      omega
    have hpp : Pool (c + 1 + 4 * kk) o' := by
      have : (rngD 0 kk).length = kk := by simp [rngD]
      rw [this] at hp'; exact hp'
    refine ⟨by rw [List.length_map]; exact zz, ?_⟩
    have fin : ∀ (last : Rat) (o'' : Ob), -1 ≤ last → last ≤ 1 → bz last ≤ 3 → Pool (c + 1 + 4 * kk + 4) o'' → P (ladD steps last) (μ.set n o'') := fun last o'' l0 l1 lz hq => h _ _ _ ⟨⟨fun s hs' => (hs s hs').1, l0, l1⟩, by omega, fun s hs' => (hs s hs').2, lz⟩ (hq.mono (by omega))
    refine h1 _ _ _ _ ⟨n, 2, _, o', rfl, by decide, by decide, gs_of hμ o', hpp, by omega, fun v o2 v0 v1 hp2 => ?_⟩
    simp only [wSs, wS, wE, wEs, wHs, IL.g0, IL.g1, IL.s0, IL.s1, Option.some.injEq, exists_eq_left', exists_eq_left, IL.ex2, IL.ex3, and_true, true_and, isNop, IL.pWn, IL.pWs, tW, Bool.false_eq_true, if_true, if_false, D.int.injEq, D.bl.injEq, D.str.injEq, D.tup.injEq, D.lst.injEq, D.ref.injEq, setMany, bopS_add, bopS_sub, bopS_mul, bopS_fdiv, bopS_mod, bopS_addt, copS_lt, copS_le, copS_gt, copS_ge, copS_eqi, copS_nei, copS_isN, copS_isnN, bfS_lent, bfS_abs, bfS_max, bfS_min, bfS_int, decide_eq_true_eq, Bool.not_eq_true', decide_eq_false_iff_not, idxS_t, at2_0, at2_1, isi_int, isi_bl, isi_non, isi_str, isi_tup, isi_lst, reduceCtorEq, decide_false, decide_true, Bool.not_true, Bool.not_false, or_false, false_or, or_true, true_or, ite_self, setiR, idxS_l, bfS_lenl, bfS_lists, bfS_listt, slcS_t, slcS_l, slcS_s, newL_f, newL_t, at5_0, at5_1, at5_2, at5_3, at5_4, ix5_1, ix5_2, ix5_3, copS_neb, copS_eqb, copS_isB, idx_fr0, idx_fr1, Ob.lst.injEq, List.set_set]
    split
    · refine h1 _ _ _ _ ⟨n, 2, _, o2, rfl, by decide, by decide, gs_of hμ o2, hp2, by omega, fun u o3 u0 u1 hp3 => ?_⟩
      simp only [wSs, wS, wE, wEs, wHs, IL.g0, IL.g1, IL.s0, IL.s1, Option.some.injEq, exists_eq_left', exists_eq_left, IL.ex2, IL.ex3, and_true, true_and, isNop, IL.pWn, IL.pWs, tW, Bool.false_eq_true, if_true, if_false, D.int.injEq, D.bl.injEq, D.str.injEq, D.tup.injEq, D.lst.injEq, D.ref.injEq, setMany, bopS_add, bopS_sub, bopS_mul, bopS_fdiv, bopS_mod, bopS_addt, copS_lt, copS_le, copS_gt, copS_ge, copS_eqi, copS_nei, copS_isN, copS_isnN, bfS_lent, bfS_abs, bfS_max, bfS_min, bfS_int, decide_eq_true_eq, Bool.not_eq_true', decide_eq_false_iff_not, idxS_t, at2_0, at2_1, isi_int, isi_bl, isi_non, isi_str, isi_tup, isi_lst, reduceCtorEq, decide_false, decide_true, Bool.not_true, Bool.not_false, or_false, false_or, or_true, true_or, ite_self, setiR, idxS_l, bfS_lenl, bfS_lists, bfS_listt, slcS_t, slcS_l, slcS_s, newL_f, newL_t, at5_0, at5_1, at5_2, at5_3, at5_4, ix5_1, ix5_2, ix5_3, copS_neb, copS_eqb, copS_isB, idx_fr0, idx_fr1, Ob.lst.injEq, List.set_set]
      refine ⟨mok_s (by decide) (by omega), (show 2 ≤ sizeLine by decide), _, rfl, (show 2 ≤ sizeLine by decide), .inl ?_⟩
      have hu : u = 0 ∨ u = 1 := by omega
      rcases hu with rfl | rfl
      · exact fin 1 o3 (by decide) (by decide) (by decide) (hp3.mono (by omega))
      · exact fin (-1) o3 (by decide) (by decide) (by decide) (hp3.mono (by omega))
    · refine h3 _ _ _ _ ⟨n, _, o2, rfl, gs_of hμ o2, hp2, by omega, fun r o3 r0 r1 hr hp3 => ?_⟩
      rw [List.set_set]
      simp only [wSs, wS, wE, wEs, wHs, IL.g0, IL.g1, IL.s0, IL.s1, Option.some.injEq, exists_eq_left', exists_eq_left, IL.ex2, IL.ex3, and_true, true_and, isNop, IL.pWn, IL.pWs, tW, Bool.false_eq_true, if_true, if_false, D.int.injEq, D.bl.injEq, D.str.injEq, D.tup.injEq, D.lst.injEq, D.ref.injEq, setMany, bopS_add, bopS_sub, bopS_mul, bopS_fdiv, bopS_mod, bopS_addt, copS_lt, copS_le, copS_gt, copS_ge, copS_eqi, copS_nei, copS_isN, copS_isnN, bfS_lent, bfS_abs, bfS_max, bfS_min, bfS_int, decide_eq_true_eq, Bool.not_eq_true', decide_eq_false_iff_not, idxS_t, at2_0, at2_1, isi_int, isi_bl, isi_non, isi_str, isi_tup, isi_lst, reduceCtorEq, decide_false, decide_true, Bool.not_true, Bool.not_false, or_false, false_or, or_true, true_or, ite_self, setiR, idxS_l, bfS_lenl, bfS_lists, bfS_listt, slcS_t, slcS_l, slcS_s, newL_f, newL_t, at5_0, at5_1, at5_2, at5_3, at5_4, ix5_1, ix5_2, ix5_3, copS_neb, copS_eqb, copS_isB, idx_fr0, idx_fr1, Ob.lst.injEq, List.set_set]
      exact ⟨_, rfl, (show 2 ≤ sizeLine by decide), .inl (fin r o3 (by grind) (by grind) hr (hp3.mono (by omega)))⟩
end
end IL

/-! the ladder of points -/
namespace IL
open PySem L2
def mvd (s : Rat × Rat) (x : Rat × Rat) : Rat × Rat := (x.1, turnQ s.2 x.2 / turnQ s.1 x.1)
/-- the ladder of points, where they can be told -/
def ladN : Nat → List (Rat × Rat) → Option (List (Rat × Rat) × Rat)
  | _, [] => some ([], 0)
  | 0, _ :: _ => none
  | n + 1, s :: r =>
    if s.2 = 1 ∨ s.2 = -1 then (if r.all (fun x => decide (x.2 = s.2)) = true then some ([], s.2) else none)
    else if (r.map (mvd s)).all (fun x => decide (-1 ≤ x.2 ∧ x.2 ≤ 1)) = true then (ladN n (r.map (mvd s))).map fun z => (s :: z.1, z.2)
    else none
def ladQ (pts : List (Rat × Rat)) : Option (List (Rat × Rat) × Rat) := ladN pts.length pts
/-- the numbers on the way are short -/
def LSz : Nat → List (Rat × Rat) → Prop
  | _, [] => True
  | 0, _ => True
  | n + 1, s :: r => bz s.1 ≤ 1000000 ∧ bz s.2 ≤ 10000000 ∧ (∀ x ∈ r, bz x.1 ≤ 1000000 ∧ bz x.2 ≤ 10000000) ∧ LSz n (r.map (mvd s))
structure PtsOk (pts : List (Rat × Rat)) : Prop where
  pl : ∀ x ∈ pts, -1 < x.1 ∧ x.1 < 1
  lv : ∀ x ∈ pts, -1 ≤ x.2 ∧ x.2 ≤ 1
  nd : (pts.map (·.1)).Nodup
theorem PtsOk.tail {s : Rat × Rat} {r : List (Rat × Rat)} (h : PtsOk (s :: r)) (h2 : (r.map (mvd s)).all (fun x => decide (-1 ≤ x.2 ∧ x.2 ≤ 1)) = true) : PtsOk (r.map (mvd s)) := by
  have e : (r.map (mvd s)).map (·.1) = r.map (·.1) := by rw [List.map_map]; rfl
  refine ⟨fun x hx => ?_, fun x hx => ?_, ?_⟩
  · obtain ⟨y, hy, rfl⟩ := List.mem_map.mp hx
    exact h.pl y (List.mem_cons_of_mem _ hy)
  · simpa using List.all_eq_true.mp h2 x hx
  · rw [e]
    have := h.nd
    rw [List.map_cons, List.nodup_cons] at this
    exact this.2
/-! a list of the store behind others -/
theorem st_get {μ g : Store} {o : Ob} : (μ ++ o :: g)[μ.length]? = some o := by simp
theorem st_set {μ g : Store} {o o' : Ob} : (μ ++ o :: g).set μ.length o' = μ ++ o' :: g := by simp
theorem frz_eq {x y : Rat} {Q : DQ} {μ : Store} (h : Q (.bl (decide (x = y))) μ) : copS .eq (fr x) (fr y) μ Q := copS_eqd (ok_fr _) (ok_fr _) (by rw [eqv_fr]; exact h)
theorem bools_map {α : Type} (f : α → Bool) : ∀ l : List α, bools (l.map fun x => D.bl (f x)) = some (l.map f)
  | [] => rfl
  | a :: l => by simp [bools, bools_map f l]
section
variable {Φ : Str → Spec} {C : Str → Option D} {U : Str → Str → Option Bool} {μ : Store} {P : DQ} {X : XQ} {ds : List D}
theorem stD_at {pts : List (Rat × Rat)} {i : Nat} {d : D} (h : (pts.map stD)[i]? = some d) : ∃ s, pts[i]? = some s ∧ s ∈ pts ∧ d = stD s := by
  rw [List.getElem?_map] at h
  cases q : pts[i]? with
  | none => rw [q] at h; cases h
  | some s => rw [q] at h; exact ⟨s, rfl, List.mem_of_getElem? q, by simpa using h.symm⟩
/-- all levels are the first one's -/
theorem w_cp_all {ρ : Env} {x : D} {pts : List (Rat × Rat)} {l : Rat} {Q : DQ} (hx : seqA μ x = some (pts.map stD)) (hg : guard x (pts.map stD) μ) (h2 : ρ[2]? = some (some x)) (h5 : ρ[5]? = some (some (fr l))) (h10 : ρ.length = 10) (hz : pts.length ≤ 1000000)
    (h : Q (.lst (pts.map fun s => .bl (decide (s.2 = l)))) μ) : wE Φ C cp_ladder_of_0 ρ μ Q X := by
  simp only [cp_ladder_of_0, itW, itS, wE, h2, Option.some.injEq, exists_eq_left']
  refine ⟨_, hx, comp_pure (fun _ => true) (fun d => match d with | .tup [_, y] => .bl (D.eqv y (fr l)) | _ => .non) hg (by rw [List.length_map]; exact Nat.le_trans hz (by decide)) (fun i d hd => ?_) ?_⟩
  · obtain ⟨s, _, _, rfl⟩ := stD_at hd
    refine ⟨_, rfl, rfl, ?_⟩
    match ρ, h10, h5 with
    | [a0, a1, a2, a3, a4, a5, a6, a7, a8, a9], _, h5 =>
      have h5 : a5 = some (fr l) := by simpa using h5
      subst h5
      refine ⟨fun R X' hR => hR, fun _ R X' hR => ?_⟩
      simp only [wipeD, Tg.slots, wSs, wS, wE, wEs, wHs, IL.g0, IL.g1, IL.s0, IL.s1, Option.some.injEq, exists_eq_left', exists_eq_left, IL.ex2, IL.ex3, and_true, true_and, isNop, IL.pWn, IL.pWs, tW, Bool.false_eq_true, if_true, if_false, D.int.injEq, D.bl.injEq, D.str.injEq, D.tup.injEq, D.lst.injEq, D.ref.injEq, setMany, bopS_add, bopS_sub, bopS_mul, bopS_fdiv, bopS_mod, bopS_addt, copS_lt, copS_le, copS_gt, copS_ge, copS_eqi, copS_nei, copS_isN, copS_isnN, bfS_lent, bfS_abs, bfS_max, bfS_min, bfS_int, decide_eq_true_eq, Bool.not_eq_true', decide_eq_false_iff_not, idxS_t, at2_0, at2_1, isi_int, isi_bl, isi_non, isi_str, isi_tup, isi_lst, reduceCtorEq, decide_false, decide_true, Bool.not_true, Bool.not_false, or_false, false_or, or_true, true_or, ite_self, setiR, idxS_l, bfS_lenl, bfS_lists, bfS_listt, slcS_t, slcS_l, slcS_s, newL_f, newL_t, at5_0, at5_1, at5_2, at5_3, at5_4, ix5_1, ix5_2, ix5_3, copS_neb, copS_eqb, copS_isB, idx_fr0, idx_fr1, Ob.lst.injEq, List.set_set]
      refine frz_eq ?_
      rw [← eqv_fr]; exact hR
  · have e : ((pts.map stD).filter fun _ => true).map (fun d => match d with | .tup [_, y] => D.bl (D.eqv y (fr l)) | _ => .non) = pts.map fun s => .bl (decide (s.2 = l)) := by
      rw [List.filter_eq_self.mpr (by simp), List.map_map]
      refine List.map_congr_left fun s _ => ?_
      show D.bl (D.eqv (fr s.2) (fr l)) = _
      rw [eqv_fr]
    rw [e]
    exact ⟨by rw [List.length_map]; exact Nat.le_trans hz (by decide), h⟩
theorem cut_one {α : Type} {a : α} {l : List α} : cut (a :: l) (some 1) none = l := by
  unfold cut
  have e1 : HT.sIx (a :: l).length 0 (some 1) = 1 := by
    simp [HT.sIx]
  have e2 : HT.sIx (a :: l).length (a :: l).length none = l.length + 1 := by
    simp [HT.sIx]
  rw [e1, e2]
  simp
theorem sl_l {l : List D} (Q : DQ) (h : l.length ≤ sizeLine) (hQ : Q (.lst l) μ) : newL false l μ Q := ⟨h, hQ⟩
theorem isLv_q (q : Rat) : isLv (fr q) = decide (-1 ≤ q ∧ q ≤ 1) := by
  rw [isLv_fr, decide_eq_decide, Rat.le_iff, Rat.le_iff]; simp
theorem turn_zero {x y : Rat} (h : turnQ x y = 0) (d : 1 - x * y ≠ 0) : x = y := by
  unfold turnQ at h; grind
theorem w_lp1 {p o6 o7 o8 o9 : Option D} {a b : Nat} {x : D} {s : Rat × Rat} {r : List (Rat × Rat)} {K : Ctl} (h1 : Has Φ "lowered" sp_lowered) (h2 : Has Φ "turn" sp_turn) (h3 : Has Φ "over" sp_over) (h4 : Has Φ "is_level" sp_is_level)
    (hx : seqL μ x = some ((s :: r).map stD)) (hb : μ[b]? = some (.lst [])) (ok : PtsOk (s :: r)) (hs : ¬ (s.2 = 1 ∨ s.2 = -1)) (sz : LSz (r.length + 1) (s :: r)) (hl : r.length ≤ 100000)
    (hn : (r.map (mvd s)).all (fun x => decide (-1 ≤ x.2 ∧ x.2 ≤ 1)) = true → ∀ o6 o7 o8, K.nx [p, some (.ref a), some x, some (.ref b), some (fr s.1), some (fr s.2), o6, o7, o8, o9] (μ.set b (.lst ((r.map (mvd s)).map stD))))
    (hr : (r.map (mvd s)).all (fun x => decide (-1 ≤ x.2 ∧ x.2 ≤ 1)) = false → ∀ l, K.rt .non (μ.set b (.lst l))) :
    wS Φ C U lp_ladder_of_1 [p, some (.ref a), some x, some (.ref b), some (fr s.1), some (fr s.2), o6, o7, o8, o9] μ K := by
  simp only [lp_ladder_of_1, itW, itS, wSs, wS, wE, wEs, wHs, IL.g0, IL.g1, IL.s0, IL.s1, Option.some.injEq, exists_eq_left', exists_eq_left, IL.ex2, IL.ex3, and_true, true_and, isNop, IL.pWn, IL.pWs, tW, Bool.false_eq_true, if_true, if_false, D.int.injEq, D.bl.injEq, D.str.injEq, D.tup.injEq, D.lst.injEq, D.ref.injEq, setMany, bopS_add, bopS_sub, bopS_mul, bopS_fdiv, bopS_mod, bopS_addt, copS_lt, copS_le, copS_gt, copS_ge, copS_eqi, copS_nei, copS_isN, copS_isnN, bfS_lent, bfS_abs, bfS_max, bfS_min, bfS_int, decide_eq_true_eq, Bool.not_eq_true', decide_eq_false_iff_not, idxS_t, at2_0, at2_1, isi_int, isi_bl, isi_non, isi_str, isi_tup, isi_lst, reduceCtorEq, decide_false, decide_true, Bool.not_true, Bool.not_false, or_false, false_or, or_true, true_or, ite_self, setiR, idxS_l, bfS_lenl, bfS_lists, bfS_listt, slcS_t, slcS_l, slcS_s, newL_f, newL_t, at5_0, at5_1, at5_2, at5_3, at5_4, ix5_1, ix5_2, ix5_3, copS_neb, copS_eqb, copS_isB, idx_fr0, idx_fr1, Ob.lst.injEq, List.set_set]
  have zz : (100001 : Nat) ≤ sizeLine := by decide
  have sl : ∀ Q : DQ, Q (.lst (r.map stD)) μ → slcS false x (some 1) none μ Q := fun Q hQ => by
    have e : cut ((s :: r).map stD) (some 1) none = r.map stD := by rw [List.map_cons, cut_one]
    have go : newL false (cut ((s :: r).map stD) (some 1) none) μ Q := by rw [e]; exact ⟨by rw [List.length_map]; omega, hQ⟩
    cases x with
    | tup l => cases hx
    | _ => exact ⟨_, hx, go⟩
  refine sl _ ⟨_, rfl, loop_rule (fun i ρ μ' => ∃ o6 o7 o8, ρ = [p, some (.ref a), some x, some (.ref b), some (fr s.1), some (fr s.2), o6, o7, o8, o9] ∧ μ' = μ.set b (.lst (((r.take i).map (mvd s)).map stD)) ∧ ∀ y ∈ r.take i, -1 ≤ (mvd s y).2 ∧ (mvd s y).2 ≤ 1)
    (fun i d ρ μ' hd ⟨o6, o7, o8, e1, e2, hi⟩ => ⟨trivial, ?_⟩) (fun ρ μ' ⟨o6, o7, o8, e1, e2, hi⟩ => ⟨trivial, ?fin⟩) ⟨o6, o7, o8, rfl, ?ini, fun _ h => by simp at h⟩⟩
  · obtain ⟨y, hy, hym, rfl⟩ := stD_at hd
    subst e1 e2
    refine ⟨_, rfl, rfl, ?_⟩
    intro N hN
    obtain ⟨z1, z2, z3, _⟩ := sz
    obtain ⟨z4, z5⟩ := z3 y hym
    have s1 := ok.lv s (List.mem_cons_self ..)
    have s0 := ok.pl s (List.mem_cons_self ..)
    have y0 := ok.pl y (List.mem_cons_of_mem _ hym)
    have y1 := ok.lv y (List.mem_cons_of_mem _ hym)
    have sst : -1 < s.2 ∧ s.2 < 1 := by grind
    have ne1 := pos_ne (one_sub_pos sst.1 sst.2 y1.1 y1.2)
    have ne2 := pos_ne (den_pos_of s0.1 s0.2 y0.1 y0.2)
    have ne3 : turnQ s.1 y.1 ≠ 0 := fun z => by
      have e := turn_zero z ne2
      have nd := ok.nd
      rw [List.map_cons, List.nodup_cons] at nd
      exact nd.1 (by rw [e]; exact List.mem_map_of_mem hym)
    have w1 := bz_turn s.2 y.2
    have w2 := bz_turn s.1 y.1
    simp only [wSs, wS, wE, wEs, wHs, IL.g0, IL.g1, IL.s0, IL.s1, Option.some.injEq, exists_eq_left', exists_eq_left, IL.ex2, IL.ex3, and_true, true_and, isNop, IL.pWn, IL.pWs, tW, Bool.false_eq_true, if_true, if_false, D.int.injEq, D.bl.injEq, D.str.injEq, D.tup.injEq, D.lst.injEq, D.ref.injEq, setMany, bopS_add, bopS_sub, bopS_mul, bopS_fdiv, bopS_mod, bopS_addt, copS_lt, copS_le, copS_gt, copS_ge, copS_eqi, copS_nei, copS_isN, copS_isnN, bfS_lent, bfS_abs, bfS_max, bfS_min, bfS_int, decide_eq_true_eq, Bool.not_eq_true', decide_eq_false_iff_not, idxS_t, at2_0, at2_1, isi_int, isi_bl, isi_non, isi_str, isi_tup, isi_lst, reduceCtorEq, decide_false, decide_true, Bool.not_true, Bool.not_false, or_false, false_or, or_true, true_or, ite_self, setiR, idxS_l, bfS_lenl, bfS_lists, bfS_listt, slcS_t, slcS_l, slcS_s, newL_f, newL_t, at5_0, at5_1, at5_2, at5_3, at5_4, ix5_1, ix5_2, ix5_3, copS_neb, copS_eqb, copS_isB, idx_fr0, idx_fr1, Ob.lst.injEq, List.set_set]
    refine h1 _ _ _ _ ⟨s.2, y.2, rfl, by omega, fun e => absurd e ne1, fun _ => h2 _ _ _ _ ⟨s.1, y.1, rfl, by omega, fun e => absurd e ne2, fun _ => h3 _ _ _ _ ⟨_, _, rfl, by omega, fun e => absurd e ne3, fun _ => ?_⟩⟩⟩
    simp only [wSs, wS, wE, wEs, wHs, IL.g0, IL.g1, IL.s0, IL.s1, Option.some.injEq, exists_eq_left', exists_eq_left, IL.ex2, IL.ex3, and_true, true_and, isNop, IL.pWn, IL.pWs, tW, Bool.false_eq_true, if_true, if_false, D.int.injEq, D.bl.injEq, D.str.injEq, D.tup.injEq, D.lst.injEq, D.ref.injEq, setMany, bopS_add, bopS_sub, bopS_mul, bopS_fdiv, bopS_mod, bopS_addt, copS_lt, copS_le, copS_gt, copS_ge, copS_eqi, copS_nei, copS_isN, copS_isnN, bfS_lent, bfS_abs, bfS_max, bfS_min, bfS_int, decide_eq_true_eq, Bool.not_eq_true', decide_eq_false_iff_not, idxS_t, at2_0, at2_1, isi_int, isi_bl, isi_non, isi_str, isi_tup, isi_lst, reduceCtorEq, decide_false, decide_true, Bool.not_true, Bool.not_false, or_false, false_or, or_true, true_or, ite_self, setiR, idxS_l, bfS_lenl, bfS_lists, bfS_listt, slcS_t, slcS_l, slcS_s, newL_f, newL_t, at5_0, at5_1, at5_2, at5_3, at5_4, ix5_1, ix5_2, ix5_3, copS_neb, copS_eqb, copS_isB, idx_fr0, idx_fr1, Ob.lst.injEq, List.set_set]
    refine h4 _ _ _ _ ⟨_, rfl, (ok_fr _).1, ?_⟩
    rw [isLv_q]
    have tk : r.take (i + 1) = r.take i ++ [y] := by rw [List.take_succ, hy]; rfl
    by_cases c : -1 ≤ turnQ s.2 y.2 / turnQ s.1 y.1 ∧ turnQ s.2 y.2 / turnQ s.1 y.1 ≤ 1
    · rw [decide_eq_true c]
      simp only [wSs, wS, wE, wEs, wHs, IL.g0, IL.g1, IL.s0, IL.s1, Option.some.injEq, exists_eq_left', exists_eq_left, IL.ex2, IL.ex3, and_true, true_and, isNop, IL.pWn, IL.pWs, tW, Bool.false_eq_true, if_true, if_false, D.int.injEq, D.bl.injEq, D.str.injEq, D.tup.injEq, D.lst.injEq, D.ref.injEq, setMany, bopS_add, bopS_sub, bopS_mul, bopS_fdiv, bopS_mod, bopS_addt, copS_lt, copS_le, copS_gt, copS_ge, copS_eqi, copS_nei, copS_isN, copS_isnN, bfS_lent, bfS_abs, bfS_max, bfS_min, bfS_int, decide_eq_true_eq, Bool.not_eq_true', decide_eq_false_iff_not, idxS_t, at2_0, at2_1, isi_int, isi_bl, isi_non, isi_str, isi_tup, isi_lst, reduceCtorEq, decide_false, decide_true, Bool.not_true, Bool.not_false, or_false, false_or, or_true, true_or, ite_self, setiR, idxS_l, bfS_lenl, bfS_lists, bfS_listt, slcS_t, slcS_l, slcS_s, newL_f, newL_t, at5_0, at5_1, at5_2, at5_3, at5_4, ix5_1, ix5_2, ix5_3, copS_neb, copS_eqb, copS_isB, idx_fr0, idx_fr1, Ob.lst.injEq, List.set_set]
      refine ⟨⟨_, gs_of hb _⟩, (show 2 ≤ sizeLine by decide), _, gs_of hb _, ?_, ?_⟩
      · rw [List.length_map, List.length_map, List.length_take]; omega
      · refine hN _ _ ⟨_, _, _, rfl, ?_, fun z hz => ?_⟩
        · rw [tk]; simp [mvd, stD]
        · rw [tk] at hz
          rcases List.mem_append.mp hz with hz | hz
          · exact hi z hz
          · rw [List.mem_singleton.mp hz]; exact c
    · rw [decide_eq_false c]
      simp only [wSs, wS, wE, wEs, wHs, IL.g0, IL.g1, IL.s0, IL.s1, Option.some.injEq, exists_eq_left', exists_eq_left, IL.ex2, IL.ex3, and_true, true_and, isNop, IL.pWn, IL.pWs, tW, Bool.false_eq_true, if_true, if_false, D.int.injEq, D.bl.injEq, D.str.injEq, D.tup.injEq, D.lst.injEq, D.ref.injEq, setMany, bopS_add, bopS_sub, bopS_mul, bopS_fdiv, bopS_mod, bopS_addt, copS_lt, copS_le, copS_gt, copS_ge, copS_eqi, copS_nei, copS_isN, copS_isnN, bfS_lent, bfS_abs, bfS_max, bfS_min, bfS_int, decide_eq_true_eq, Bool.not_eq_true', decide_eq_false_iff_not, idxS_t, at2_0, at2_1, isi_int, isi_bl, isi_non, isi_str, isi_tup, isi_lst, reduceCtorEq, decide_false, decide_true, Bool.not_true, Bool.not_false, or_false, false_or, or_true, true_or, ite_self, setiR, idxS_l, bfS_lenl, bfS_lists, bfS_listt, slcS_t, slcS_l, slcS_s, newL_f, newL_t, at5_0, at5_1, at5_2, at5_3, at5_4, ix5_1, ix5_2, ix5_3, copS_neb, copS_eqb, copS_isB, idx_fr0, idx_fr1, Ob.lst.injEq, List.set_set]
      refine hr ?_ _
      rw [List.all_eq_false]
      exact ⟨mvd s y, List.mem_map_of_mem hym, by rw [decide_eq_true_eq]; exact c⟩
  case fin =>
    subst e1 e2
    have e : (r.map stD).length = r.length := List.length_map _
    rw [e, List.take_length] at hi ⊢
    exact hn (by rw [List.all_eq_true]; intro z hz; obtain ⟨y, hy, rfl⟩ := List.mem_map.mp hz; simpa using hi y hy) _ _ _
  case ini =>
    simp only [List.take_zero, List.map_nil]
    have hlt := get_of hb
    rw [List.getElem?_eq_getElem hlt] at hb
    have := Option.some.inj hb
    rw [← this, List.set_getElem_self]
theorem lsz_len {n : Nat} {s : Rat × Rat} {r : List (Rat × Rat)} (h : LSz (n + 1) (s :: r)) : LSz n (r.map (mvd s)) := h.2.2.2
theorem seqL_app {x : D} {l : List D} {g : Store} (h : seqL μ x = some l) : seqL (μ ++ g) x = some l := by
  cases x with
  | ref n =>
    have h : (match μ[n]? with | some (.lst l) => some l | _ => none) = some l := h
    show (match (μ ++ g)[n]? with | some (.lst l) => some l | _ => none) = some l
    cases q : μ[n]? with
    | none => rw [q] at h; cases h
    | some o => rw [List.getElem?_append_left (get_of q), q]; rw [q] at h; exact h
  | _ => exact h
theorem seqL_set {x : D} {l : List D} {a : Nat} {o : Ob} (h : seqL μ x = some l) (hx : x ≠ .ref a) : seqL (μ.set a o) x = some l := by
  cases x with
  | ref n =>
    have h : (match μ[n]? with | some (.lst l) => some l | _ => none) = some l := h
    show (match (μ.set a o)[n]? with | some (.lst l) => some l | _ => none) = some l
    rw [List.getElem?_set_ne (fun e => hx (by rw [e]))]
    exact h
  | _ => exact h
theorem len_ok {x : D} {l : List D} (h : seqL μ x = some l) {Q : DQ} (hQ : Q (.int l.length) μ) : bfS false .len [x] μ Q := by
  refine ⟨l, ?_, hQ⟩
  cases x with
  | tup l => cases h
  | _ => exact h
theorem idx_seq {x : D} {l : List D} {i : Int} {d : D} (h : seqL μ x = some l) (hd : atI l i = some d) {Q : DQ} (hQ : Q d μ) : idxS x (.int i) μ Q := by
  refine ⟨l, i, d, ?_, rfl, hd, hQ⟩
  cases x with
  | tup l => cases h
  | _ => exact h
theorem seqA_of {x : D} {l : List D} (h : seqL μ x = some l) : seqA μ x = some l := by
  cases x with
  | tup l => cases h
  | _ => exact h
theorem guard_of {x : D} {l : List D} (h : seqL μ x = some l) : guard x l μ := by
  cases x with
  | ref n =>
    have h : (match μ[n]? with | some (.lst l) => some l | _ => none) = some l := h
    show μ[n]? = some (.lst l)
    cases q : μ[n]? with
    | none => rw [q] at h; cases h
    | some o =>
      rw [q] at h
      cases o with
      | lst m => rw [Option.some.inj h]
      | _ => cases h
  | _ => trivial
theorem at_zero {d : D} {l : List D} : atI (d :: l) 0 = some d := by
  have := atI_nat (l := d :: l) (i := 0) (by simp)
  exact this
theorem ladN_len : ∀ {n : Nat} {pts : List (Rat × Rat)} {z : List (Rat × Rat) × Rat}, ladN n pts = some z → z.1.length ≤ pts.length
  | _, [], z, h => by simp [ladN] at h; subst h; simp
  | 0, _ :: _, z, h => by simp [ladN] at h
  | n + 1, s :: r, z, h => by
    unfold ladN at h
    split at h
    · split at h
      · cases h; simp
      · cases h
    · split at h
      · rw [Option.map_eq_some_iff] at h
        obtain ⟨w, h1, rfl⟩ := h
        have := ladN_len h1
        simpa using this
      · cases h
theorem tup_of_ref {a : Nat} {l : List D} (h : μ[a]? = some (.lst l)) {Q : DQ} (hQ : Q (.tup l) μ) : bfS false .tuple [.ref a] μ Q := by
  refine ⟨l, ?_, hQ⟩
  show (match μ[a]? with | some (.lst l) => some l | _ => none) = some l
  rw [h]
theorem w_lp2 {p : Option D} {pts : List (Rat × Rat)} {K : Ctl} {d0 : D} {o3 o4 o5 o6 o7 o8 o9 : Option D} (hC : C "ONE" = some (.tup [.int 1, .int 1])) (h1 : Has Φ "lowered" sp_lowered) (h2 : Has Φ "turn" sp_turn) (h3 : Has Φ "over" sp_over) (h4 : Has Φ "is_level" sp_is_level)
    (ok : PtsOk pts) (sz : LSz pts.length pts) (hl : pts.length ≤ 1000) (hd0 : d0 = .lst (pts.map stD))
    (hn : ∀ (g : Store) (st : List (Rat × Rat)) (o2 o3 o4 o5 o6 o7 o8 o9 : Option D), ladQ pts = some (st, 0) → K.nx [p, some (.ref μ.length), o2, o3, o4, o5, o6, o7, o8, o9] (μ ++ .lst (st.map stD) :: g))
    (hr : ∀ (g : Store) (z : List (Rat × Rat) × Rat), ladQ pts = some z → K.rt (ladD z.1 z.2) (μ ++ g))
    (hx : ∀ g : Store, ladQ pts = none → K.rt .non (μ ++ g)) :
    wS Φ C U lp_ladder_of_2 [p, some (.ref μ.length), some d0, o3, o4, o5, o6, o7, o8, o9] (μ ++ [.lst []]) K := by
  subst hd0
  show ∃ n, whlW _ _ n _ _ K
  refine whl_rule (fun m ρ μ' => ∃ (dn rm : List (Rat × Rat)) (x : D) (g : Store) (o3 o4 o5 o6 o7 o8 o9 : Option D), ρ = [p, some (.ref μ.length), some x, o3, o4, o5, o6, o7, o8, o9] ∧ m = rm.length ∧ μ' = μ ++ .lst (dn.map stD) :: g ∧
      seqL μ' x = some (rm.map stD) ∧ x ≠ .ref μ.length ∧ PtsOk rm ∧ LSz m rm ∧ ladQ pts = (ladN m rm).map (fun z => (dn ++ z.1, z.2)) ∧ dn.length + rm.length ≤ 1000)
    (fun m ρ μ' ⟨dn, rm, x, g, o3, o4, o5, o6, o7, o8, o9, e1, e2, e3, hs, hxa, okr, szr, hq, hle⟩ N hN => ?_) (m := pts.length) ⟨[], pts, _, [], o3, o4, o5, o6, o7, o8, o9, rfl, rfl, rfl, rfl, nofun, ok, sz, ?_, by simpa using hl⟩
  · have zz : (100001 : Nat) ≤ sizeLine := by decide
    subst e1 e2 e3
    simp only [wSs, wS, wE, wEs, wHs, IL.g0, IL.g1, IL.s0, IL.s1, Option.some.injEq, exists_eq_left', exists_eq_left, IL.ex2, IL.ex3, and_true, true_and, isNop, IL.pWn, IL.pWs, tW, Bool.false_eq_true, if_true, if_false, D.int.injEq, D.bl.injEq, D.str.injEq, D.tup.injEq, D.lst.injEq, D.ref.injEq, setMany, bopS_add, bopS_sub, bopS_mul, bopS_fdiv, bopS_mod, bopS_addt, copS_lt, copS_le, copS_gt, copS_ge, copS_eqi, copS_nei, copS_isN, copS_isnN, bfS_lent, bfS_abs, bfS_max, bfS_min, bfS_int, decide_eq_true_eq, Bool.not_eq_true', decide_eq_false_iff_not, idxS_t, at2_0, at2_1, isi_int, isi_bl, isi_non, isi_str, isi_tup, isi_lst, reduceCtorEq, decide_false, decide_true, Bool.not_true, Bool.not_false, or_false, false_or, or_true, true_or, ite_self, setiR, idxS_l, bfS_lenl, bfS_lists, bfS_listt, slcS_t, slcS_l, slcS_s, newL_f, newL_t, at5_0, at5_1, at5_2, at5_3, at5_4, ix5_1, ix5_2, ix5_3, copS_neb, copS_eqb, copS_isB, idx_fr0, idx_fr1, Ob.lst.injEq, List.set_set]
    refine len_ok hs ?_
    simp only [wSs, wS, wE, wEs, wHs, IL.g0, IL.g1, IL.s0, IL.s1, Option.some.injEq, exists_eq_left', exists_eq_left, IL.ex2, IL.ex3, and_true, true_and, isNop, IL.pWn, IL.pWs, tW, Bool.false_eq_true, if_true, if_false, D.int.injEq, D.bl.injEq, D.str.injEq, D.tup.injEq, D.lst.injEq, D.ref.injEq, setMany, bopS_add, bopS_sub, bopS_mul, bopS_fdiv, bopS_mod, bopS_addt, copS_lt, copS_le, copS_gt, copS_ge, copS_eqi, copS_nei, copS_isN, copS_isnN, bfS_lent, bfS_abs, bfS_max, bfS_min, bfS_int, decide_eq_true_eq, Bool.not_eq_true', decide_eq_false_iff_not, idxS_t, at2_0, at2_1, isi_int, isi_bl, isi_non, isi_str, isi_tup, isi_lst, reduceCtorEq, decide_false, decide_true, Bool.not_true, Bool.not_false, or_false, false_or, or_true, true_or, ite_self, setiR, idxS_l, bfS_lenl, bfS_lists, bfS_listt, slcS_t, slcS_l, slcS_s, newL_f, newL_t, at5_0, at5_1, at5_2, at5_3, at5_4, ix5_1, ix5_2, ix5_3, copS_neb, copS_eqb, copS_isB, idx_fr0, idx_fr1, Ob.lst.injEq, List.set_set]
    cases rm with
    | nil =>
      rw [if_neg (by simp)]
      simp only [List.length_nil, ladN, Option.map_some, List.append_nil] at hq
      exact hn _ _ _ _ _ _ _ _ _ _ hq
    | cons s r =>
      rw [if_pos (by simp)]
      refine idx_seq hs at_zero ⟨_, rfl, rfl, ?_⟩
      simp only [wSs, wS, wE, wEs, wHs, IL.g0, IL.g1, IL.s0, IL.s1, Option.some.injEq, exists_eq_left', exists_eq_left, IL.ex2, IL.ex3, and_true, true_and, isNop, IL.pWn, IL.pWs, tW, Bool.false_eq_true, if_true, if_false, D.int.injEq, D.bl.injEq, D.str.injEq, D.tup.injEq, D.lst.injEq, D.ref.injEq, setMany, bopS_add, bopS_sub, bopS_mul, bopS_fdiv, bopS_mod, bopS_addt, copS_lt, copS_le, copS_gt, copS_ge, copS_eqi, copS_nei, copS_isN, copS_isnN, bfS_lent, bfS_abs, bfS_max, bfS_min, bfS_int, decide_eq_true_eq, Bool.not_eq_true', decide_eq_false_iff_not, idxS_t, at2_0, at2_1, isi_int, isi_bl, isi_non, isi_str, isi_tup, isi_lst, reduceCtorEq, decide_false, decide_true, Bool.not_true, Bool.not_false, or_false, false_or, or_true, true_or, ite_self, setiR, idxS_l, bfS_lenl, bfS_lists, bfS_listt, slcS_t, slcS_l, slcS_s, newL_f, newL_t, at5_0, at5_1, at5_2, at5_3, at5_4, ix5_1, ix5_2, ix5_3, copS_neb, copS_eqb, copS_isB, idx_fr0, idx_fr1, Ob.lst.injEq, List.set_set, hC, fr_one, fr_mone]
      refine ⟨(show 2 ≤ sizeLine by decide), (show 2 ≤ sizeLine by decide), inn_pm ⟨_, rfl, ?_⟩⟩
      simp only [List.length_cons, ladN] at hq
      simp only [List.length_cons] at hle
      by_cases c : s.2 = 1 ∨ s.2 = -1
      · rw [if_pos (by simpa using c)]
        rw [if_pos c] at hq
        refine w_cp_all (l := s.2) (seqA_of hs) (guard_of hs) rfl rfl rfl (by simp; omega) ?_
        refine ⟨_, _, rfl, bools_map _ _, ?_⟩
        simp only [wSs, wS, wE, wEs, wHs, IL.g0, IL.g1, IL.s0, IL.s1, Option.some.injEq, exists_eq_left', exists_eq_left, IL.ex2, IL.ex3, and_true, true_and, isNop, IL.pWn, IL.pWs, tW, Bool.false_eq_true, if_true, if_false, D.int.injEq, D.bl.injEq, D.str.injEq, D.tup.injEq, D.lst.injEq, D.ref.injEq, setMany, bopS_add, bopS_sub, bopS_mul, bopS_fdiv, bopS_mod, bopS_addt, copS_lt, copS_le, copS_gt, copS_ge, copS_eqi, copS_nei, copS_isN, copS_isnN, bfS_lent, bfS_abs, bfS_max, bfS_min, bfS_int, decide_eq_true_eq, Bool.not_eq_true', decide_eq_false_iff_not, idxS_t, at2_0, at2_1, isi_int, isi_bl, isi_non, isi_str, isi_tup, isi_lst, reduceCtorEq, decide_false, decide_true, Bool.not_true, Bool.not_false, or_false, false_or, or_true, true_or, ite_self, setiR, idxS_l, bfS_lenl, bfS_lists, bfS_listt, slcS_t, slcS_l, slcS_s, newL_f, newL_t, at5_0, at5_1, at5_2, at5_3, at5_4, ix5_1, ix5_2, ix5_3, copS_neb, copS_eqb, copS_isB, idx_fr0, idx_fr1, Ob.lst.injEq, List.set_set]
        have e : ((s :: r).map fun s' => decide (s'.2 = s.2)).all id = r.all fun x => decide (x.2 = s.2) := by
          simp [List.all_map, Function.comp_def]
        rw [e]
        split
        · rename_i cc
          rw [if_pos cc] at hq
          refine tup_of_ref st_get ⟨(show 2 ≤ sizeLine by decide), ?_⟩
          have := hr (.lst (dn.map stD) :: g) _ hq
          simpa [ladD] using this
        · rename_i cc
          rw [if_neg cc] at hq
          exact hx _ hq
      · rw [if_neg (by simpa using c)]
        rw [if_neg c] at hq
        refine ⟨⟨_, st_get⟩, (show 2 ≤ sizeLine by decide), _, st_get, by rw [List.length_map]; omega, (show 0 ≤ sizeLine by decide), ?_⟩
        simp only [st_set]
        have e0 : ∀ (l : List D), (μ ++ Ob.lst (dn.map stD ++ [.tup [fr s.1, fr s.2]]) :: g ++ [Ob.lst []]).set (μ ++ Ob.lst (dn.map stD ++ [.tup [fr s.1, fr s.2]]) :: g).length (Ob.lst l) = μ ++ Ob.lst (dn.map stD ++ [.tup [fr s.1, fr s.2]]) :: (g ++ [Ob.lst l]) := fun l => by simp
        have hs2 : seqL (μ ++ Ob.lst (dn.map stD ++ [.tup [fr s.1, fr s.2]]) :: g ++ [Ob.lst []]) x = some ((s :: r).map stD) := by
          refine seqL_app ?_
          have := seqL_set (o := Ob.lst (dn.map stD ++ [.tup [fr s.1, fr s.2]])) hs hxa
          rwa [st_set] at this
        refine w_lp1 h1 h2 h3 h4 hs2 (by simp) okr c szr (by omega) (fun call o6 o7 o8 => ?_) (fun call l => ?_)
        · rw [if_pos call] at hq
          rw [e0]
          simp only [wSs, wS, wE, wEs, wHs, IL.g0, IL.g1, IL.s0, IL.s1, Option.some.injEq, exists_eq_left', exists_eq_left, IL.ex2, IL.ex3, and_true, true_and, isNop, IL.pWn, IL.pWs, tW, Bool.false_eq_true, if_true, if_false, D.int.injEq, D.bl.injEq, D.str.injEq, D.tup.injEq, D.lst.injEq, D.ref.injEq, setMany, bopS_add, bopS_sub, bopS_mul, bopS_fdiv, bopS_mod, bopS_addt, copS_lt, copS_le, copS_gt, copS_ge, copS_eqi, copS_nei, copS_isN, copS_isnN, bfS_lent, bfS_abs, bfS_max, bfS_min, bfS_int, decide_eq_true_eq, Bool.not_eq_true', decide_eq_false_iff_not, idxS_t, at2_0, at2_1, isi_int, isi_bl, isi_non, isi_str, isi_tup, isi_lst, reduceCtorEq, decide_false, decide_true, Bool.not_true, Bool.not_false, or_false, false_or, or_true, true_or, ite_self, setiR, idxS_l, bfS_lenl, bfS_lists, bfS_listt, slcS_t, slcS_l, slcS_s, newL_f, newL_t, at5_0, at5_1, at5_2, at5_3, at5_4, ix5_1, ix5_2, ix5_3, copS_neb, copS_eqb, copS_isB, idx_fr0, idx_fr1, Ob.lst.injEq, List.set_set]
          refine hN r.length _ _ (by simp) ⟨dn ++ [s], r.map (mvd s), .ref (μ ++ Ob.lst (dn.map stD ++ [.tup [fr s.1, fr s.2]]) :: g).length, g ++ [Ob.lst ((r.map (mvd s)).map stD)], _, _, _, _, _, _, _, rfl, by simp, by simp [stD], ?_, fun z => ?_, okr.tail call, szr.2.2.2, ?_, by simp; omega⟩
          · show (match (_ : Store)[(_ : Nat)]? with | some (.lst l) => some l | _ => none) = some ((r.map (mvd s)).map stD)
            rw [show μ ++ Ob.lst (dn.map stD ++ [D.tup [fr s.1, fr s.2]]) :: (g ++ [Ob.lst ((r.map (mvd s)).map stD)]) = (μ ++ Ob.lst (dn.map stD ++ [D.tup [fr s.1, fr s.2]]) :: g) ++ [Ob.lst ((r.map (mvd s)).map stD)] by simp]
            simp
          · have := D.ref.inj z
            simp at this
          · rw [hq, Option.map_map]
            congr 1
            funext z
            simp
        · rw [if_neg (by rw [call]; decide)] at hq
          rw [e0]
          exact hx _ hq
  · simp only [ladQ, List.nil_append]
    cases ladN pts.length pts <;> rfl
end
end IL

/-! ranges -/
namespace IL
open PySem L2
mutual
theorem inb_lay {n : Nat} : ∀ d : D, d.lay = true → d.inb n = true
  | .tup l, h => by
    simp only [D.lay] at h
    simp only [D.inb]
    exact inbs_lay l h
  | .lst l, h => by
    simp only [D.lay] at h
    simp only [D.inb]
    exact inbs_lay l h
  | .non, _ => by simp only [D.inb]
  | .bl _, _ => by simp only [D.inb]
  | .int _, _ => by simp only [D.inb]
  | .str _, _ => by simp only [D.inb]
  | .scr _, h => by simp [D.lay] at h
  | .fn _, h => by simp [D.lay] at h
  | .ref _, h => by simp [D.lay] at h
theorem inbs_lay {n : Nat} : ∀ l : List D, D.lays l = true → D.inbs n l = true
  | [], _ => by simp only [D.inbs]
  | d :: l, h => by
    simp only [D.lays, Bool.and_eq_true] at h
    simp only [D.inbs, inb_lay d h.1, inbs_lay l h.2, Bool.and_self]
end
theorem lay_stD (s : Rat × Rat) : (stD s).lay = true := lay_tup fun x hx => by
  simp only [List.mem_cons, List.not_mem_nil, or_false] at hx
  rcases hx with rfl | rfl <;> exact (ok_fr _).1
theorem lay_pts (l : List (Rat × Rat)) : (D.tup (l.map stD)).lay = true := lay_tup fun x hx => by
  obtain ⟨s, _, rfl⟩ := List.mem_map.mp hx
  exact lay_stD s
theorem lay_lad (l : List (Rat × Rat)) (q : Rat) : (ladD l q).lay = true := lay_tup fun x hx => by
  simp only [List.mem_cons, List.not_mem_nil, or_false] at hx
  rcases hx with rfl | rfl
  · exact lay_pts l
  · exact (ok_fr _).1
section
variable {Φ : Str → Spec} {C : Str → Option D} {U : Str → Str → Option Bool} {μ : Store} {P : DQ} {X : XQ} {ds : List D}
structure PtsS (pts : List (Rat × Rat)) : Prop extends PtsOk pts where
  sz : LSz pts.length pts
  n : pts.length ≤ 1000
def sp_ladder_of : Spec := fun ds μ P X => ∃ pts, ds = [.tup (pts.map stD)] ∧ PtsS pts ∧ (ladQ pts = none → P .non μ) ∧ (∀ z, ladQ pts = some z → P (ladD z.1 z.2) μ)
theorem fr_zero : D.tup [.int 0, .int 1] = fr 0 := rfl
theorem b_ladder_of (st : Stmt) (hC : C "ONE" = some (.tup [.int 1, .int 1])) (hZ : C "ZERO" = some (.tup [.int 0, .int 1])) (h1 : Has Φ "lowered" sp_lowered) (h2 : Has Φ "turn" sp_turn) (h3 : Has Φ "over" sp_over) (h4 : Has Φ "is_level" sp_is_level) (hc : Closed μ) (h : sp_ladder_of ds μ P X) : BodyOk Φ C U (d_ladder_of st) ds μ P X := by
  obtain ⟨pts, rfl, ok, hn, hs⟩ := h
  refine ⟨rfl, ?_⟩
  show wSs Φ C U il_ladder_of [some (.tup (pts.map stD)), none, none, none, none, none, none, none, none, none] μ _
  simp only [il_ladder_of, wSs, wS, wE, wEs, wHs, IL.g0, IL.g1, IL.s0, IL.s1, Option.some.injEq, exists_eq_left', exists_eq_left, IL.ex2, IL.ex3, and_true, true_and, isNop, IL.pWn, IL.pWs, tW, Bool.false_eq_true, if_true, if_false, D.int.injEq, D.bl.injEq, D.str.injEq, D.tup.injEq, D.lst.injEq, D.ref.injEq, setMany, bopS_add, bopS_sub, bopS_mul, bopS_fdiv, bopS_mod, bopS_addt, copS_lt, copS_le, copS_gt, copS_ge, copS_eqi, copS_nei, copS_isN, copS_isnN, bfS_lent, bfS_abs, bfS_max, bfS_min, bfS_int, decide_eq_true_eq, Bool.not_eq_true', decide_eq_false_iff_not, idxS_t, at2_0, at2_1, isi_int, isi_bl, isi_non, isi_str, isi_tup, isi_lst, reduceCtorEq, decide_false, decide_true, Bool.not_true, Bool.not_false, or_false, false_or, or_true, true_or, ite_self, setiR, idxS_l, bfS_lenl, bfS_lists, bfS_listt, slcS_t, slcS_l, slcS_s, newL_f, newL_t, at5_0, at5_1, at5_2, at5_3, at5_4, ix5_1, ix5_2, ix5_3, copS_neb, copS_eqb, copS_isB, idx_fr0, idx_fr1, Ob.lst.injEq, List.set_set]
  have zz : (100001 : Nat) ≤ sizeLine := by decide
  have := ok.n
  refine ⟨(show 0 ≤ sizeLine by decide), by rw [List.length_map]; omega, ?_⟩
  refine w_lp2 hC h1 h2 h3 h4 ok.toPtsOk ok.sz ok.n rfl (fun g st o2 o3 o4 o5 o6 o7 o8 o9 e => ?_) (fun g z e => .pure hc (inb_lay _ (lay_lad _ _)) (hs z e)) (fun g e => .pure hc (inb_lay _ rfl) (hn e))
  simp only [wSs, wS, wE, wEs, wHs, IL.g0, IL.g1, IL.s0, IL.s1, Option.some.injEq, exists_eq_left', exists_eq_left, IL.ex2, IL.ex3, and_true, true_and, isNop, IL.pWn, IL.pWs, tW, Bool.false_eq_true, if_true, if_false, D.int.injEq, D.bl.injEq, D.str.injEq, D.tup.injEq, D.lst.injEq, D.ref.injEq, setMany, bopS_add, bopS_sub, bopS_mul, bopS_fdiv, bopS_mod, bopS_addt, copS_lt, copS_le, copS_gt, copS_ge, copS_eqi, copS_nei, copS_isN, copS_isnN, bfS_lent, bfS_abs, bfS_max, bfS_min, bfS_int, decide_eq_true_eq, Bool.not_eq_true', decide_eq_false_iff_not, idxS_t, at2_0, at2_1, isi_int, isi_bl, isi_non, isi_str, isi_tup, isi_lst, reduceCtorEq, decide_false, decide_true, Bool.not_true, Bool.not_false, or_false, false_or, or_true, true_or, ite_self, setiR, idxS_l, bfS_lenl, bfS_lists, bfS_listt, slcS_t, slcS_l, slcS_s, newL_f, newL_t, at5_0, at5_1, at5_2, at5_3, at5_4, ix5_1, ix5_2, ix5_3, copS_neb, copS_eqb, copS_isB, idx_fr0, idx_fr1, Ob.lst.injEq, List.set_set, hZ]
  refine tup_of_ref st_get ⟨(show 2 ≤ sizeLine by decide), ?_⟩
  exact .pure hc (inb_lay _ (lay_lad st 0)) (hs _ e)
def sp_can_be_told : Spec := fun ds μ P X => ∃ pts, ds = [.tup (pts.map stD)] ∧ PtsS pts ∧ P (.bl (ladQ pts).isSome) μ
theorem b_can_be_told (st : Stmt) (h1 : Has Φ "ladder_of" sp_ladder_of) (h : sp_can_be_told ds μ P X) : BodyOk Φ C U (d_can_be_told st) ds μ P X := by
  obtain ⟨pts, rfl, ok, h⟩ := h
  refine ⟨rfl, ?_⟩
  show wSs Φ C U il_can_be_told [some (.tup (pts.map stD))] μ _
  simp only [il_can_be_told, wSs, wS, wE, wEs, wHs, IL.g0, IL.g1, IL.s0, IL.s1, Option.some.injEq, exists_eq_left', exists_eq_left, IL.ex2, IL.ex3, and_true, true_and, isNop, IL.pWn, IL.pWs, tW, Bool.false_eq_true, if_true, if_false, D.int.injEq, D.bl.injEq, D.str.injEq, D.tup.injEq, D.lst.injEq, D.ref.injEq, setMany, bopS_add, bopS_sub, bopS_mul, bopS_fdiv, bopS_mod, bopS_addt, copS_lt, copS_le, copS_gt, copS_ge, copS_eqi, copS_nei, copS_isN, copS_isnN, bfS_lent, bfS_abs, bfS_max, bfS_min, bfS_int, decide_eq_true_eq, Bool.not_eq_true', decide_eq_false_iff_not, idxS_t, at2_0, at2_1, isi_int, isi_bl, isi_non, isi_str, isi_tup, isi_lst, reduceCtorEq, decide_false, decide_true, Bool.not_true, Bool.not_false, or_false, false_or, or_true, true_or, ite_self, setiR, idxS_l, bfS_lenl, bfS_lists, bfS_listt, slcS_t, slcS_l, slcS_s, newL_f, newL_t, at5_0, at5_1, at5_2, at5_3, at5_4, ix5_1, ix5_2, ix5_3, copS_neb, copS_eqb, copS_isB, idx_fr0, idx_fr1, Ob.lst.injEq, List.set_set]
  refine h1 _ _ _ _ ⟨pts, rfl, ok, fun e => ?_, fun z e => ?_⟩
  · rw [e] at h
    exact .inl h
  · rw [e] at h
    exact .inl h
/-- the two ladders at the ends -/
def endsQ (z : List (Rat × Rat) × Rat) (x : Rat) : (List (Rat × Rat) × Rat) × (List (Rat × Rat) × Rat) :=
  if z.2 = 1 ∨ z.2 = -1 then (z, z) else if valQ z.1 1 x < valQ z.1 (-1) x then ((z.1, 1), (z.1, -1)) else ((z.1, -1), (z.1, 1))
def sp_ends_at : Spec := fun ds μ P X => ∃ pts x, ds = [.tup (pts.map stD), fr x] ∧ PtsS pts ∧ (-1 < x ∧ x < 1) ∧ (ladQ pts = none → X "CannotBe" μ) ∧
  ∀ z, ladQ pts = some z → LadOk z.1 z.2 ∧ (∀ l, (l = 1 ∨ l = -1) → VSz z.1 l x ∧ bz (valQ z.1 l x) ≤ 40000000) ∧ P (.tup [ladD (endsQ z x).1.1 (endsQ z x).1.2, ladD (endsQ z x).2.1 (endsQ z x).2.2]) μ
theorem LadOk.pm {st : List (Rat × Rat)} {q : Rat} (h : LadOk st q) {l : Rat} (hl : l = 1 ∨ l = -1) : LadOk st l := ⟨h.st, by rcases hl with rfl | rfl <;> decide⟩
theorem b_ends_at (st : Stmt) (hC : C "ONE" = some (.tup [.int 1, .int 1])) (h1 : Has Φ "ladder_of" sp_ladder_of) (h2 : Has Φ "is_full" sp_is_full) (h3 : Has Φ "less" sp_less) (h4 : Has Φ "value_on" sp_value_on) (h : sp_ends_at ds μ P X) : BodyOk Φ C U (d_ends_at st) ds μ P X := by
  obtain ⟨pts, x, rfl, ok, hx, hn, hs⟩ := h
  refine ⟨rfl, ?_⟩
  show wSs Φ C U il_ends_at [some (.tup (pts.map stD)), some (fr x), none, none] μ _
  simp only [il_ends_at, wSs, wS, wE, wEs, wHs, IL.g0, IL.g1, IL.s0, IL.s1, Option.some.injEq, exists_eq_left', exists_eq_left, IL.ex2, IL.ex3, and_true, true_and, isNop, IL.pWn, IL.pWs, tW, Bool.false_eq_true, if_true, if_false, D.int.injEq, D.bl.injEq, D.str.injEq, D.tup.injEq, D.lst.injEq, D.ref.injEq, setMany, bopS_add, bopS_sub, bopS_mul, bopS_fdiv, bopS_mod, bopS_addt, copS_lt, copS_le, copS_gt, copS_ge, copS_eqi, copS_nei, copS_isN, copS_isnN, bfS_lent, bfS_abs, bfS_max, bfS_min, bfS_int, decide_eq_true_eq, Bool.not_eq_true', decide_eq_false_iff_not, idxS_t, at2_0, at2_1, isi_int, isi_bl, isi_non, isi_str, isi_tup, isi_lst, reduceCtorEq, decide_false, decide_true, Bool.not_true, Bool.not_false, or_false, false_or, or_true, true_or, ite_self, setiR, idxS_l, bfS_lenl, bfS_lists, bfS_listt, slcS_t, slcS_l, slcS_s, newL_f, newL_t, at5_0, at5_1, at5_2, at5_3, at5_4, ix5_1, ix5_2, ix5_3, copS_neb, copS_eqb, copS_isB, idx_fr0, idx_fr1, Ob.lst.injEq, List.set_set]
  refine h1 _ _ _ _ ⟨pts, rfl, ok, fun e => ?_, fun z e => ?_⟩
  · simp only [D.nonB, wSs, wS, wE, wEs, wHs, IL.g0, IL.g1, IL.s0, IL.s1, Option.some.injEq, exists_eq_left', exists_eq_left, IL.ex2, IL.ex3, and_true, true_and, isNop, IL.pWn, IL.pWs, tW, Bool.false_eq_true, if_true, if_false, D.int.injEq, D.bl.injEq, D.str.injEq, D.tup.injEq, D.lst.injEq, D.ref.injEq, setMany, bopS_add, bopS_sub, bopS_mul, bopS_fdiv, bopS_mod, bopS_addt, copS_lt, copS_le, copS_gt, copS_ge, copS_eqi, copS_nei, copS_isN, copS_isnN, bfS_lent, bfS_abs, bfS_max, bfS_min, bfS_int, decide_eq_true_eq, Bool.not_eq_true', decide_eq_false_iff_not, idxS_t, at2_0, at2_1, isi_int, isi_bl, isi_non, isi_str, isi_tup, isi_lst, reduceCtorEq, decide_false, decide_true, Bool.not_true, Bool.not_false, or_false, false_or, or_true, true_or, ite_self, setiR, idxS_l, bfS_lenl, bfS_lists, bfS_listt, slcS_t, slcS_l, slcS_s, newL_f, newL_t, at5_0, at5_1, at5_2, at5_3, at5_4, ix5_1, ix5_2, ix5_3, copS_neb, copS_eqb, copS_isB, idx_fr0, idx_fr1, Ob.lst.injEq, List.set_set]
    exact .inl (hn e)
  · obtain ⟨lo, vs, h⟩ := hs z e
    simp only [ladD, D.nonB, wSs, wS, wE, wEs, wHs, IL.g0, IL.g1, IL.s0, IL.s1, Option.some.injEq, exists_eq_left', exists_eq_left, IL.ex2, IL.ex3, and_true, true_and, isNop, IL.pWn, IL.pWs, tW, Bool.false_eq_true, if_true, if_false, D.int.injEq, D.bl.injEq, D.str.injEq, D.tup.injEq, D.lst.injEq, D.ref.injEq, setMany, bopS_add, bopS_sub, bopS_mul, bopS_fdiv, bopS_mod, bopS_addt, copS_lt, copS_le, copS_gt, copS_ge, copS_eqi, copS_nei, copS_isN, copS_isnN, bfS_lent, bfS_abs, bfS_max, bfS_min, bfS_int, decide_eq_true_eq, Bool.not_eq_true', decide_eq_false_iff_not, idxS_t, at2_0, at2_1, isi_int, isi_bl, isi_non, isi_str, isi_tup, isi_lst, reduceCtorEq, decide_false, decide_true, Bool.not_true, Bool.not_false, or_false, false_or, or_true, true_or, ite_self, setiR, idxS_l, bfS_lenl, bfS_lists, bfS_listt, slcS_t, slcS_l, slcS_s, newL_f, newL_t, at5_0, at5_1, at5_2, at5_3, at5_4, ix5_1, ix5_2, ix5_3, copS_neb, copS_eqb, copS_isB, idx_fr0, idx_fr1, Ob.lst.injEq, List.set_set]
    refine h2 _ _ _ _ ⟨_, z.2, rfl, _, rfl, ?_⟩
    simp only [wSs, wS, wE, wEs, wHs, IL.g0, IL.g1, IL.s0, IL.s1, Option.some.injEq, exists_eq_left', exists_eq_left, IL.ex2, IL.ex3, and_true, true_and, isNop, IL.pWn, IL.pWs, tW, Bool.false_eq_true, if_true, if_false, D.int.injEq, D.bl.injEq, D.str.injEq, D.tup.injEq, D.lst.injEq, D.ref.injEq, setMany, bopS_add, bopS_sub, bopS_mul, bopS_fdiv, bopS_mod, bopS_addt, copS_lt, copS_le, copS_gt, copS_ge, copS_eqi, copS_nei, copS_isN, copS_isnN, bfS_lent, bfS_abs, bfS_max, bfS_min, bfS_int, decide_eq_true_eq, Bool.not_eq_true', decide_eq_false_iff_not, idxS_t, at2_0, at2_1, isi_int, isi_bl, isi_non, isi_str, isi_tup, isi_lst, reduceCtorEq, decide_false, decide_true, Bool.not_true, Bool.not_false, or_false, false_or, or_true, true_or, ite_self, setiR, idxS_l, bfS_lenl, bfS_lists, bfS_listt, slcS_t, slcS_l, slcS_s, newL_f, newL_t, at5_0, at5_1, at5_2, at5_3, at5_4, ix5_1, ix5_2, ix5_3, copS_neb, copS_eqb, copS_isB, idx_fr0, idx_fr1, Ob.lst.injEq, List.set_set]
    by_cases c : z.2 = 1 ∨ z.2 = -1
    · rw [if_pos c]
      refine ⟨(show 2 ≤ sizeLine by decide), .inl ?_⟩
      unfold endsQ at h
      rw [if_pos c] at h
      exact h
    · rw [if_neg c]
      simp only [wSs, wS, wE, wEs, wHs, IL.g0, IL.g1, IL.s0, IL.s1, Option.some.injEq, exists_eq_left', exists_eq_left, IL.ex2, IL.ex3, and_true, true_and, isNop, IL.pWn, IL.pWs, tW, Bool.false_eq_true, if_true, if_false, D.int.injEq, D.bl.injEq, D.str.injEq, D.tup.injEq, D.lst.injEq, D.ref.injEq, setMany, bopS_add, bopS_sub, bopS_mul, bopS_fdiv, bopS_mod, bopS_addt, copS_lt, copS_le, copS_gt, copS_ge, copS_eqi, copS_nei, copS_isN, copS_isnN, bfS_lent, bfS_abs, bfS_max, bfS_min, bfS_int, decide_eq_true_eq, Bool.not_eq_true', decide_eq_false_iff_not, idxS_t, at2_0, at2_1, isi_int, isi_bl, isi_non, isi_str, isi_tup, isi_lst, reduceCtorEq, decide_false, decide_true, Bool.not_true, Bool.not_false, or_false, false_or, or_true, true_or, ite_self, setiR, idxS_l, bfS_lenl, bfS_lists, bfS_listt, slcS_t, slcS_l, slcS_s, newL_f, newL_t, at5_0, at5_1, at5_2, at5_3, at5_4, ix5_1, ix5_2, ix5_3, copS_neb, copS_eqb, copS_isB, idx_fr0, idx_fr1, Ob.lst.injEq, List.set_set, hC, fr_one, fr_mone]
      refine ⟨(show 2 ≤ sizeLine by decide), (show 2 ≤ sizeLine by decide), (show 2 ≤ sizeLine by decide), (show 2 ≤ sizeLine by decide), ?_⟩
      have lp : LadOk z.1 1 := lo.pm (.inl rfl)
      have lm : LadOk z.1 (-1) := lo.pm (.inr rfl)
      obtain ⟨vp, bp⟩ := vs 1 (.inl rfl)
      obtain ⟨vm, bm⟩ := vs (-1) (.inr rfl)
      refine h4 _ _ _ _ ⟨z.1, 1, x, rfl, lp, hx, vp, h4 _ _ _ _ ⟨z.1, -1, x, rfl, lm, hx, vm, h3 _ _ _ _ ⟨_, _, rfl, by omega, _, rfl, ?_⟩⟩⟩
      unfold endsQ at h
      rw [if_neg c] at h
      simp only [wSs, wS, wE, wEs, wHs, IL.g0, IL.g1, IL.s0, IL.s1, Option.some.injEq, exists_eq_left', exists_eq_left, IL.ex2, IL.ex3, and_true, true_and, isNop, IL.pWn, IL.pWs, tW, Bool.false_eq_true, if_true, if_false, D.int.injEq, D.bl.injEq, D.str.injEq, D.tup.injEq, D.lst.injEq, D.ref.injEq, setMany, bopS_add, bopS_sub, bopS_mul, bopS_fdiv, bopS_mod, bopS_addt, copS_lt, copS_le, copS_gt, copS_ge, copS_eqi, copS_nei, copS_isN, copS_isnN, bfS_lent, bfS_abs, bfS_max, bfS_min, bfS_int, decide_eq_true_eq, Bool.not_eq_true', decide_eq_false_iff_not, idxS_t, at2_0, at2_1, isi_int, isi_bl, isi_non, isi_str, isi_tup, isi_lst, reduceCtorEq, decide_false, decide_true, Bool.not_true, Bool.not_false, or_false, false_or, or_true, true_or, ite_self, setiR, idxS_l, bfS_lenl, bfS_lists, bfS_listt, slcS_t, slcS_l, slcS_s, newL_f, newL_t, at5_0, at5_1, at5_2, at5_3, at5_4, ix5_1, ix5_2, ix5_3, copS_neb, copS_eqb, copS_isB, idx_fr0, idx_fr1, Ob.lst.injEq, List.set_set]
      split
      · rename_i cc
        rw [if_pos cc] at h
        exact ⟨(show 2 ≤ sizeLine by decide), .inl h⟩
      · rename_i cc
        rw [if_neg cc] at h
        exact ⟨(show 2 ≤ sizeLine by decide), .inl h⟩
def loQ (z : List (Rat × Rat) × Rat) (x : Rat) : Rat := valQ (endsQ z x).1.1 (endsQ z x).1.2 x
def hiQ (z : List (Rat × Rat) × Rat) (x : Rat) : Rat := valQ (endsQ z x).2.1 (endsQ z x).2.2 x
theorem ends_pm (z : List (Rat × Rat) × Rat) (x : Rat) : (endsQ z x).1.1 = z.1 ∧ (endsQ z x).2.1 = z.1 ∧ ((endsQ z x).1.2 = 1 ∨ (endsQ z x).1.2 = -1) ∧ ((endsQ z x).2.2 = 1 ∨ (endsQ z x).2.2 = -1) := by
  unfold endsQ
  split
  · rename_i c; exact ⟨rfl, rfl, c, c⟩
  · split <;> simp
def sp_range_at : Spec := fun ds μ P X => ∃ pts x, ds = [.tup (pts.map stD), fr x] ∧ PtsS pts ∧ (-1 < x ∧ x < 1) ∧ (ladQ pts = none → X "CannotBe" μ) ∧
  ∀ z, ladQ pts = some z → LadOk z.1 z.2 ∧ (∀ l, (l = 1 ∨ l = -1) → VSz z.1 l x ∧ bz (valQ z.1 l x) ≤ 40000000) ∧ P (.tup [fr (loQ z x), fr (hiQ z x)]) μ
theorem b_range_at (st : Stmt) (h1 : Has Φ "ends_at" sp_ends_at) (h4 : Has Φ "value_on" sp_value_on) (h : sp_range_at ds μ P X) : BodyOk Φ C U (d_range_at st) ds μ P X := by
  obtain ⟨pts, x, rfl, ok, hx, hn, hs⟩ := h
  refine ⟨rfl, ?_⟩
  show wSs Φ C U il_range_at [some (.tup (pts.map stD)), some (fr x), none, none] μ _
  simp only [il_range_at, wSs, wS, wE, wEs, wHs, IL.g0, IL.g1, IL.s0, IL.s1, Option.some.injEq, exists_eq_left', exists_eq_left, IL.ex2, IL.ex3, and_true, true_and, isNop, IL.pWn, IL.pWs, tW, Bool.false_eq_true, if_true, if_false, D.int.injEq, D.bl.injEq, D.str.injEq, D.tup.injEq, D.lst.injEq, D.ref.injEq, setMany, bopS_add, bopS_sub, bopS_mul, bopS_fdiv, bopS_mod, bopS_addt, copS_lt, copS_le, copS_gt, copS_ge, copS_eqi, copS_nei, copS_isN, copS_isnN, bfS_lent, bfS_abs, bfS_max, bfS_min, bfS_int, decide_eq_true_eq, Bool.not_eq_true', decide_eq_false_iff_not, idxS_t, at2_0, at2_1, isi_int, isi_bl, isi_non, isi_str, isi_tup, isi_lst, reduceCtorEq, decide_false, decide_true, Bool.not_true, Bool.not_false, or_false, false_or, or_true, true_or, ite_self, setiR, idxS_l, bfS_lenl, bfS_lists, bfS_listt, slcS_t, slcS_l, slcS_s, newL_f, newL_t, at5_0, at5_1, at5_2, at5_3, at5_4, ix5_1, ix5_2, ix5_3, copS_neb, copS_eqb, copS_isB, idx_fr0, idx_fr1, Ob.lst.injEq, List.set_set]
  refine h1 _ _ _ _ ⟨pts, x, rfl, ok, hx, fun e => .inl (hn e), fun z e => ?_⟩
  obtain ⟨lo, vs, h⟩ := hs z e
  refine ⟨lo, vs, _, rfl, rfl, ?_⟩
  simp only [wSs, wS, wE, wEs, wHs, IL.g0, IL.g1, IL.s0, IL.s1, Option.some.injEq, exists_eq_left', exists_eq_left, IL.ex2, IL.ex3, and_true, true_and, isNop, IL.pWn, IL.pWs, tW, Bool.false_eq_true, if_true, if_false, D.int.injEq, D.bl.injEq, D.str.injEq, D.tup.injEq, D.lst.injEq, D.ref.injEq, setMany, bopS_add, bopS_sub, bopS_mul, bopS_fdiv, bopS_mod, bopS_addt, copS_lt, copS_le, copS_gt, copS_ge, copS_eqi, copS_nei, copS_isN, copS_isnN, bfS_lent, bfS_abs, bfS_max, bfS_min, bfS_int, decide_eq_true_eq, Bool.not_eq_true', decide_eq_false_iff_not, idxS_t, at2_0, at2_1, isi_int, isi_bl, isi_non, isi_str, isi_tup, isi_lst, reduceCtorEq, decide_false, decide_true, Bool.not_true, Bool.not_false, or_false, false_or, or_true, true_or, ite_self, setiR, idxS_l, bfS_lenl, bfS_lists, bfS_listt, slcS_t, slcS_l, slcS_s, newL_f, newL_t, at5_0, at5_1, at5_2, at5_3, at5_4, ix5_1, ix5_2, ix5_3, copS_neb, copS_eqb, copS_isB, idx_fr0, idx_fr1, Ob.lst.injEq, List.set_set]
  obtain ⟨e1, e2, p1, p2⟩ := ends_pm z x
  refine h4 _ _ _ _ ⟨_, _, x, rfl, by rw [e1]; exact lo.pm p1, hx, by rw [e1]; exact (vs _ p1).1, h4 _ _ _ _ ⟨_, _, x, rfl, by rw [e2]; exact lo.pm p2, hx, by rw [e2]; exact (vs _ p2).1, ⟨(show 2 ≤ sizeLine by decide), .inl h⟩⟩⟩
end
end IL

/-! distances of places -/
namespace IL
open PySem L2
def absQ (q : Rat) : Rat := if q < 0 then -q else q
theorem absQ_nn (q : Rat) : 0 ≤ absQ q := by unfold absQ; split <;> grind
theorem absQ_lt {q : Rat} (h1 : -1 < q) (h2 : q < 1) : absQ q < 1 := by unfold absQ; split <;> grind
theorem absQ_neg (q : Rat) : absQ (-q) = absQ q := by unfold absQ; split <;> split <;> grind
theorem absQ_zero {q : Rat} : absQ q = 0 ↔ q = 0 := by unfold absQ; split <;> grind
theorem absQ_mul (a b : Rat) : absQ (a * b) = absQ a * absQ b := by
  unfold absQ
  by_cases ha : a < 0 <;> by_cases hb : b < 0
  · have := Rat.mul_pos (a := -a) (b := -b) (by grind) (by grind)
    rw [if_pos ha, if_pos hb, if_neg (by grind)]; grind
  · have := Rat.mul_nonneg (a := -a) (b := b) (by grind) (by grind)
    rw [if_pos ha, if_neg hb]; split <;> grind
  · have := Rat.mul_nonneg (a := a) (b := -b) (by grind) (by grind)
    rw [if_neg ha, if_pos hb]; split <;> grind
  · have := Rat.mul_nonneg (a := a) (b := b) (by grind) (by grind)
    rw [if_neg ha, if_neg hb]; split <;> grind
theorem absQ_cases (q : Rat) : (absQ q = q ∧ 0 ≤ q) ∨ (absQ q = -q ∧ q < 0) := by unfold absQ; split <;> grind
theorem bz_abs (q : Rat) : bz (absQ q) = bz q := by
  unfold absQ; split
  · rw [bz_neg]
  · rfl
theorem turn_def {a b : Rat} (d : 1 - a * b ≠ 0) : turnQ a b * (1 - a * b) = b - a := Rat.div_mul_cancel d
theorem lift_def {a b : Rat} (d : 1 + a * b ≠ 0) : liftQ a b * (1 + a * b) = a + b := Rat.div_mul_cancel d
theorem sub_z {a b : Rat} (h : a - b = 0) : a = b := by grind
theorem can_z {k x : Rat} (hk : k ≠ 0) (h : k * x = 0) : x = 0 := (Rat.mul_eq_zero.mp h).resolve_left hk
theorem eq_div {x p q : Rat} (hq : q ≠ 0) (h : x * q = p) : x = p / q := by rw [← h, Rat.mul_div_cancel hq]
theorem mul_ne {a b : Rat} (ha : a ≠ 0) (hb : b ≠ 0) : a * b ≠ 0 := fun h => (Rat.mul_eq_zero.mp h).elim ha hb
theorem comp_poly {a b c u v w : Rat} (e1 : u * (1 - a * b) = b - a) (e2 : v * (1 - b * c) = c - b) (e3 : w * (1 - a * c) = c - a) : (1 - a * b) * (1 - b * c) * (1 - a * c) * (w * (1 + u * v) - (u + v)) = 0 := by
  have h : (1 - a * b) * (1 - b * c) * (1 - a * c) * (w * (1 + u * v) - (u + v)) = (w * (1 - a * c)) * ((1 - a * b) * (1 - b * c) + (u * (1 - a * b)) * (v * (1 - b * c))) - (1 - a * c) * ((u * (1 - a * b)) * (1 - b * c) + (v * (1 - b * c)) * (1 - a * b)) := by grind
  rw [h, e1, e2, e3]; grind
theorem turn_comp {a b c : Rat} (a0 : -1 < a) (a1 : a < 1) (b0 : -1 < b) (b1 : b < 1) (c0 : -1 < c) (c1 : c < 1) : turnQ a c = liftQ (turnQ a b) (turnQ b c) := by
  have d1 := pos_ne (den_pos_of a0 a1 b0 b1)
  have d2 := pos_ne (den_pos_of b0 b1 c0 c1)
  have d3 := pos_ne (den_pos_of a0 a1 c0 c1)
  have hu := turn_st a0 a1 b0 b1
  have hv := turn_st b0 b1 c0 c1
  have d4 := pos_ne (one_add_pos hu.1 hu.2 (Rat.le_of_lt hv.1) (Rat.le_of_lt hv.2))
  refine eq_div d4 ?_
  have := can_z (mul_ne (mul_ne d1 d2) d3) (comp_poly (turn_def d1) (turn_def d2) (turn_def d3))
  exact sub_z this
theorem div_lt_div {a b c d : Rat} (hb : 0 < b) (hd : 0 < d) (h : a * d < c * b) : a / b < c / d := by
  rw [Rat.div_lt_iff hb]
  have e : c / d * b = (c * b) / d := by rw [Rat.div_def, Rat.div_def]; grind
  rw [e, Rat.lt_div_iff hd]; exact h
/-- of different signs -/
theorem lift_abs_m {u v : Rat} (u0 : 0 < u) (u1 : u < 1) (v0 : -1 < v) (v1 : v < 0) : absQ (liftQ u v) < liftQ u (-v) := by
  have d := one_add_pos (x := u) (y := v) (by grind) u1 (by grind) (by grind)
  have d' := one_sub_pos (x := u) (y := v) (by grind) u1 (by grind) (by grind)
  have hv : 0 < 1 - v * v := by have := Rat.mul_pos (a := 1 - v) (b := 1 + v) (by grind) (by grind); grind
  have hu : 0 < 1 - u * u := by have := Rat.mul_pos (a := 1 - u) (b := 1 + u) (by grind) (by grind); grind
  have p := Rat.mul_pos (a := -v) (b := 1 - u * u) (by grind) hu
  have q := Rat.mul_pos (a := u) (b := 1 - v * v) u0 hv
  have e : liftQ u (-v) = (u - v) / (1 - u * v) := by unfold liftQ; congr 1 <;> grind
  rw [e]
  rcases absQ_cases (liftQ u v) with ⟨h, _⟩ | ⟨h, _⟩
  · rw [h]; exact div_lt_div d d' (by grind)
  · rw [h]
    have e2 : -liftQ u v = (-(u + v)) / (1 + u * v) := by unfold liftQ; rw [Rat.div_def, Rat.div_def, Rat.neg_mul]
    rw [e2]; exact div_lt_div d d' (by grind)
theorem lift_comm (u v : Rat) : liftQ u v = liftQ v u := by unfold liftQ; rw [Rat.add_comm u v, Rat.mul_comm u v]
theorem lift_neg (u v : Rat) : liftQ (-u) (-v) = -liftQ u v := by
  unfold liftQ; rw [Rat.div_def, Rat.div_def, show 1 + -u * -v = 1 + u * v by grind, ← Rat.neg_mul]; congr 1; grind
theorem lift_zero (u : Rat) : liftQ u 0 = u := by unfold liftQ; rw [show u + 0 = u by grind, show 1 + u * 0 = 1 by grind, Rat.div_def]; grind
theorem lift_abs {u v : Rat} (u0 : -1 < u) (u1 : u < 1) (v0 : -1 < v) (v1 : v < 1) : ¬ liftQ (absQ u) (absQ v) < absQ (liftQ u v) ∧ (liftQ (absQ u) (absQ v) = absQ (liftQ u v) ↔ 0 ≤ u * v) := by
  have key : ∀ {u v : Rat}, -1 < u → u < 1 → -1 < v → v < 1 → 0 ≤ u → ¬ liftQ (absQ u) (absQ v) < absQ (liftQ u v) ∧ (liftQ (absQ u) (absQ v) = absQ (liftQ u v) ↔ 0 ≤ u * v) := fun {u v} u0 u1 v0 v1 su => by
    have d := one_add_pos u0 u1 (y := v) (by grind) (by grind)
    have eu : absQ u = u := by rcases absQ_cases u with h | h <;> grind
    rcases absQ_cases v with ⟨ev, sv⟩ | ⟨ev, sv⟩
    · have p := Rat.mul_nonneg su sv
      have q : 0 ≤ liftQ u v := by
        unfold liftQ; rw [Rat.div_def]; exact Rat.mul_nonneg (by grind) (Rat.le_of_lt (Rat.inv_pos.mpr d))
      have : absQ (liftQ u v) = liftQ u v := by rcases absQ_cases (liftQ u v) with h | h <;> grind
      rw [eu, ev, this]; constructor <;> grind
    · by_cases c : u = 0
      · subst c
        have e1 : ∀ w, liftQ 0 w = w := fun w => by rw [lift_comm, lift_zero]
        rw [eu, e1, e1]; constructor <;> grind
      · have m := lift_abs_m (u := u) (v := v) (by grind) u1 v0 sv
        have n := Rat.mul_pos (a := u) (b := -v) (by grind) (by grind)
        rw [eu, ev]; constructor <;> grind
  by_cases su : 0 ≤ u
  · exact key u0 u1 v0 v1 su
  · have := key (u := -u) (v := -v) (by grind) (by grind) (by grind) (by grind) (by grind)
    rw [absQ_neg, absQ_neg, lift_neg, absQ_neg, show -u * -v = u * v by grind] at this
    exact this
theorem tri (a b : Rat) : a < b ∨ a = b ∨ b < a := by grind
/-- between: the two turns have no different signs -/
theorem between_iff {a b c : Rat} (a0 : -1 < a) (a1 : a < 1) (b0 : -1 < b) (b1 : b < 1) (c0 : -1 < c) (c1 : c < 1) : 0 ≤ turnQ a b * turnQ b c ↔ (¬ a < b ∧ ¬ b < c) ∨ (¬ b < a ∧ ¬ c < b) := by
  have sg : ∀ {x y : Rat}, -1 < x → x < 1 → -1 < y → y < 1 → (x < y → 0 < turnQ x y) ∧ (y < x → turnQ x y < 0) ∧ (x = y → turnQ x y = 0) := fun {x y} x0 x1 y0 y1 => by
    have d := den_pos_of x0 x1 y0 y1
    refine ⟨fun h => ?_, fun h => ?_, fun h => by rw [h, turn_self]⟩
    · unfold turnQ; rw [Rat.lt_div_iff d]; grind
    · unfold turnQ; rw [Rat.div_lt_iff d]; grind
  obtain ⟨p1, p2, p3⟩ := sg a0 a1 b0 b1
  obtain ⟨q1, q2, q3⟩ := sg b0 b1 c0 c1
  rcases tri a b with h | h | h <;> rcases tri b c with k | k | k
  · have := Rat.mul_pos (p1 h) (q1 k); constructor <;> grind
  · rw [q3 k]; constructor <;> grind
  · have := Rat.mul_pos (a := turnQ a b) (b := -turnQ b c) (p1 h) (by have := q2 k; grind); constructor <;> grind
  · rw [p3 h]; constructor <;> grind
  · rw [p3 h]; constructor <;> grind
  · rw [p3 h]; constructor <;> grind
  · have := Rat.mul_pos (a := -turnQ a b) (b := turnQ b c) (by have := p2 h; grind) (q1 k); constructor <;> grind
  · rw [q3 k]; constructor <;> grind
  · have := Rat.mul_pos (a := -turnQ a b) (b := -turnQ b c) (by have := p2 h; grind) (by have := q2 k; grind); constructor <;> grind
theorem turn_eq_zero {a b : Rat} (a0 : -1 < a) (a1 : a < 1) (b0 : -1 < b) (b1 : b < 1) : turnQ a b = 0 ↔ a = b :=
  ⟨fun h => turn_zero h (pos_ne (den_pos_of a0 a1 b0 b1)), fun h => by rw [h, turn_self]⟩
theorem turn_negs {a b : Rat} : turnQ (-a) (-b) = -turnQ a b := by
  unfold turnQ; rw [Rat.div_def, Rat.div_def, show 1 - -a * -b = 1 - a * b by grind, ← Rat.neg_mul]; congr 1; grind
/-- back again -/
theorem turn_back {z a : Rat} (z0 : -1 < z) (z1 : z < 1) (a0 : -1 < a) (a1 : a < 1) : turnQ (-z) (turnQ z a) = a := by
  have := turn_comp (a := 0) (b := z) (c := a) (by decide) (by decide) z0 z1 a0 a1
  have e : ∀ x, turnQ 0 x = x := fun x => by unfold turnQ; rw [show x - 0 = x by grind, show (1 : Rat) - 0 * x = 1 by grind, Rat.div_def]; grind
  rw [e, e, liftQ_turn] at this
  exact this.symm
/-- turning keeps turns -/
theorem turn_iso {z a b : Rat} (z0 : -1 < z) (z1 : z < 1) (a0 : -1 < a) (a1 : a < 1) (b0 : -1 < b) (b1 : b < 1) : turnQ (turnQ z a) (turnQ z b) = turnQ a b := by
  have t := turn_st z0 z1 a0 a1
  have h := turn_comp (a := z) (b := a) (c := b) z0 z1 a0 a1 b0 b1
  have s := turn_st a0 a1 b0 b1
  have := turn_back (z := -turnQ z a) (a := turnQ a b) (by grind) (by grind) s.1 s.2
  rw [show - -turnQ z a = turnQ z a by grind, ← liftQ_turn, ← h] at this
  exact this
end IL

/-! ladders bring places nearer -/
namespace IL
open PySem L2
theorem sq_nn (x : Rat) : 0 ≤ x * x := by
  by_cases h : 0 ≤ x
  · exact Rat.mul_nonneg h h
  · have := Rat.mul_nonneg (a := -x) (b := -x) (by grind) (by grind); grind
theorem le_of_mul {k a b : Rat} (hk : 0 < k) (h : k * a ≤ k * b) : a ≤ b := Rat.le_of_mul_le_mul_left h hk
theorem mul_le {k a b : Rat} (hk : 0 ≤ k) (h : a ≤ b) : k * a ≤ k * b := Rat.mul_le_mul_of_nonneg_left h hk
theorem sq_le {x y : Rat} : absQ x ≤ absQ y ↔ x * x ≤ y * y := by
  have ex : x * x = absQ x * absQ x := by rcases absQ_cases x with ⟨h, _⟩ | ⟨h, _⟩ <;> rw [h] <;> grind
  have ey : y * y = absQ y * absQ y := by rcases absQ_cases y with ⟨h, _⟩ | ⟨h, _⟩ <;> rw [h] <;> grind
  rw [ex, ey]
  have a := absQ_nn x
  have b := absQ_nn y
  generalize absQ x = p at *
  generalize absQ y = q at *
  constructor
  · intro h
    have h1 := mul_le a h
    have h2 := mul_le b h
    grind
  · intro h
    by_cases c : p ≤ q
    · exact c
    · have h1 := Rat.mul_pos (a := p - q) (b := p) (by grind) (by grind)
      have h2 := Rat.mul_nonneg (a := p - q) (b := q) (by grind) b
      grind
theorem dist_le {a b c d : Rat} (da : 0 < 1 - a * b) (dc : 0 < 1 - c * d) : absQ (turnQ a b) ≤ absQ (turnQ c d) ↔ (1 - c * c) * (1 - d * d) * ((1 - a * b) * (1 - a * b)) ≤ (1 - a * a) * (1 - b * b) * ((1 - c * d) * (1 - c * d)) := by
  rw [sq_le]
  have ex := turn_def (pos_ne da)
  have ey := turn_def (pos_ne dc)
  generalize turnQ a b = x at *
  generalize turnQ c d = y at *
  have k := Rat.mul_pos (Rat.mul_pos da da) (Rat.mul_pos dc dc)
  have e1 : (1 - a * a) * (1 - b * b) = (1 - a * b) * (1 - a * b) * (1 - x * x) := by
    have : (1 - a * b) * (1 - a * b) * (1 - x * x) = (1 - a * b) * (1 - a * b) - (x * (1 - a * b)) * (x * (1 - a * b)) := by grind
    rw [this, ex]; grind
  have e2 : (1 - c * c) * (1 - d * d) = (1 - c * d) * (1 - c * d) * (1 - y * y) := by
    have : (1 - c * d) * (1 - c * d) * (1 - y * y) = (1 - c * d) * (1 - c * d) - (y * (1 - c * d)) * (y * (1 - c * d)) := by grind
    rw [this, ey]; grind
  rw [e1, e2]
  generalize 1 - a * b = m at *
  generalize 1 - c * d = n at *
  have f1 : n * n * (1 - y * y) * (m * m) = m * m * (n * n) * (1 - y * y) := by grind
  have f2 : m * m * (1 - x * x) * (n * n) = m * m * (n * n) * (1 - x * x) := by grind
  rw [f1, f2]
  constructor
  · intro h; exact mul_le (Rat.le_of_lt k) (by grind)
  · intro h; have := le_of_mul k h; grind
theorem am_gm {a b m : Rat} (ha : 0 ≤ a) (hb : 0 ≤ b) (h : m * m ≤ a * b) : 2 * m ≤ a + b := by
  by_cases c : 2 * m ≤ a + b
  · exact c
  · have h1 := Rat.mul_pos (a := 2 * m - (a + b)) (b := 2 * m) (by grind) (by grind)
    have h2 := Rat.mul_nonneg (a := 2 * m - (a + b)) (b := a + b) (by grind) (by grind)
    have h3 := sq_nn (a - b)
    grind
theorem one_sq {x : Rat} (h0 : -1 < x) (h1 : x < 1) : 0 < 1 - x * x := by
  have := Rat.mul_pos (a := 1 - x) (b := 1 + x) (by grind) (by grind); grind
theorem schur_step {s t u v : Rat} (s0 : -1 < s) (s1 : s < 1) (t0 : -1 < t) (t1 : t < 1) (u0 : -1 < u) (u1 : u < 1) (v0 : -1 < v) (v1 : v < 1)
    (h : (1 - u * u) * (1 - v * v) * ((1 - s * t) * (1 - s * t)) ≤ (1 - s * s) * (1 - t * t) * ((1 - u * v) * (1 - u * v))) :
    (1 - u * u) * (1 - v * v) * ((1 - u * s * (v * t)) * (1 - u * s * (v * t))) ≤ (1 - u * s * (u * s)) * (1 - v * t * (v * t)) * ((1 - u * v) * (1 - u * v)) := by
  have du := one_sq u0 u1
  have dv := one_sq v0 v1
  have ds := one_sq s0 s1
  have dt := one_sq t0 t1
  have duv := den_pos_of u0 u1 v0 v1
  have k := Rat.mul_pos (Rat.mul_pos du dv) (Rat.mul_pos duv duv)
  have hp : (1 - s * s) / (1 - u * u) * (1 - u * u) = 1 - s * s := Rat.div_mul_cancel (pos_ne du)
  have hr : (1 - t * t) / (1 - v * v) * (1 - v * v) = 1 - t * t := Rat.div_mul_cancel (pos_ne dv)
  have hq : (1 - s * t) / (1 - u * v) * (1 - u * v) = 1 - s * t := Rat.div_mul_cancel (pos_ne duv)
  have pp : 0 < (1 - s * s) / (1 - u * u) := by rw [Rat.div_def]; exact Rat.mul_pos ds (Rat.inv_pos.mpr du)
  have rp : 0 < (1 - t * t) / (1 - v * v) := by rw [Rat.div_def]; exact Rat.mul_pos dt (Rat.inv_pos.mpr dv)
  generalize (1 - s * s) / (1 - u * u) = p at *
  generalize (1 - t * t) / (1 - v * v) = r at *
  generalize (1 - s * t) / (1 - u * v) = q at *
  have hpr : q * q ≤ p * r := by
    rw [← hp, ← hr, ← hq] at h
    refine le_of_mul k ?_
    grind
  have hm : (u * v * q) * (u * v * q) ≤ (u * u * p) * (v * v * r) := by
    have := mul_le (k := u * u * (v * v)) (Rat.mul_nonneg (sq_nn u) (sq_nn v)) hpr
    grind
  have ha := am_gm (Rat.mul_nonneg (sq_nn u) (Rat.le_of_lt pp)) (Rat.mul_nonneg (sq_nn v) (Rat.le_of_lt rp)) hm
  have e1 : 1 - u * s * (u * s) = (1 - u * u) * (1 + u * u * p) := by
    have : (1 - u * u) * (1 + u * u * p) = (1 - u * u) + u * u * (p * (1 - u * u)) := by grind
    rw [this, hp]; grind
  have e2 : 1 - v * t * (v * t) = (1 - v * v) * (1 + v * v * r) := by
    have : (1 - v * v) * (1 + v * v * r) = (1 - v * v) + v * v * (r * (1 - v * v)) := by grind
    rw [this, hr]; grind
  have e3 : 1 - u * s * (v * t) = (1 - u * v) * (1 + u * v * q) := by
    have : (1 - u * v) * (1 + u * v * q) = (1 - u * v) + u * v * (q * (1 - u * v)) := by grind
    rw [this, hq]; grind
  rw [e1, e2, e3]
  have f1 : (1 - u * u) * (1 - v * v) * ((1 - u * v) * (1 + u * v * q) * ((1 - u * v) * (1 + u * v * q))) = (1 - u * u) * (1 - v * v) * ((1 - u * v) * (1 - u * v)) * ((1 + u * v * q) * (1 + u * v * q)) := by grind
  have f2 : (1 - u * u) * (1 + u * u * p) * ((1 - v * v) * (1 + v * v * r)) * ((1 - u * v) * (1 - u * v)) = (1 - u * u) * (1 - v * v) * ((1 - u * v) * (1 - u * v)) * ((1 + u * u * p) * (1 + v * v * r)) := by grind
  rw [f1, f2]
  refine mul_le (Rat.le_of_lt k) ?_
  grind
theorem val_step {s : Rat × Rat} {r : List (Rat × Rat)} {last x : Rat} (h : LadOk (s :: r) last) (x0 : -1 < x) (x1 : x < 1) : -1 < valQ (s :: r) last x ∧ valQ (s :: r) last x < 1 := by
  obtain ⟨⟨a, b⟩, c, d⟩ := h.st s (List.mem_cons_self ..)
  have t := turn_st a b x0 x1
  have g := val_bd x0 x1 h.tail
  have m : -1 < turnQ s.1 x * valQ r last x ∧ turnQ s.1 x * valQ r last x < 1 := by
    have h1 := one_sub_pos t.1 t.2 g.1 g.2
    have h2 := one_add_pos t.1 t.2 g.1 g.2
    constructor <;> grind
  exact lift_st c d m.1 m.2
theorem lift_iso {l s t : Rat} (l0 : -1 < l) (l1 : l < 1) (s0 : -1 < s) (s1 : s < 1) (t0 : -1 < t) (t1 : t < 1) : turnQ (liftQ l s) (liftQ l t) = turnQ s t := by
  rw [liftQ_turn, liftQ_turn]; exact turn_iso (by grind) (by grind) s0 s1 t0 t1
theorem mul_st {a b : Rat} (a0 : -1 < a) (a1 : a < 1) (b0 : -1 ≤ b) (b1 : b ≤ 1) : -1 < a * b ∧ a * b < 1 := by
  have h1 := one_sub_pos a0 a1 b0 b1
  have h2 := one_add_pos a0 a1 b0 b1
  constructor <;> grind
/-- a ladder brings places nearer to one another -/
theorem schwarz {x y last : Rat} (x0 : -1 < x) (x1 : x < 1) (y0 : -1 < y) (y1 : y < 1) : ∀ {steps : List (Rat × Rat)}, LadOk steps last → (-1 < valQ steps last x ∧ valQ steps last x < 1) → (-1 < valQ steps last y ∧ valQ steps last y < 1) →
    absQ (turnQ (valQ steps last x) (valQ steps last y)) ≤ absQ (turnQ x y)
  | [], h, hx, hy => by
    simp only [valQ]
    rw [turn_self]
    have := absQ_nn (turnQ x y)
    rw [show absQ 0 = 0 by decide]; exact this
  | st :: r, h, hx, hy => by
    obtain ⟨⟨a, b⟩, c, d⟩ := h.st st (List.mem_cons_self ..)
    have gx := val_bd x0 x1 h.tail
    have gy := val_bd y0 y1 h.tail
    have u := turn_st a b x0 x1
    have v := turn_st a b y0 y1
    have mx := mul_st u.1 u.2 gx.1 gx.2
    have my := mul_st v.1 v.2 gy.1 gy.2
    simp only [valQ]
    rw [lift_iso c d mx.1 mx.2 my.1 my.2, ← turn_iso a b x0 x1 y0 y1]
    have duv := den_pos_of u.1 u.2 v.1 v.2
    have dst := den_pos_of mx.1 mx.2 my.1 my.2
    rw [dist_le dst duv]
    cases r with
    | nil =>
      simp only [valQ] at *
      have hl : last = 1 ∨ last = -1 ∨ (-1 < last ∧ last < 1) := by have := h.la; grind
      rcases hl with rfl | rfl | hl
      · grind
      · grind
      · refine schur_step hl.1 hl.2 hl.1 hl.2 u.1 u.2 v.1 v.2 ?_
        have := (dist_le (a := last) (b := last) (c := turnQ st.1 x) (d := turnQ st.1 y) (den_pos_of hl.1 hl.2 hl.1 hl.2) duv).mp (by rw [turn_self, show absQ 0 = 0 by decide]; exact absQ_nn _)
        exact this
    | cons s2 r2 =>
      have ix := val_step h.tail x0 x1
      have iy := val_step h.tail y0 y1
      have ih := schwarz x0 x1 y0 y1 h.tail ix iy
      rw [← turn_iso a b x0 x1 y0 y1, dist_le (den_pos_of ix.1 ix.2 iy.1 iy.2) duv] at ih
      exact schur_step ix.1 ix.2 iy.1 iy.2 u.1 u.2 v.1 v.2 ih
theorem lift_mono {b s t : Rat} (b0 : -1 < b) (b1 : b < 1) (s0 : -1 < s) (s1 : s < 1) (t0 : -1 < t) (t1 : t < 1) (h : s < t) : liftQ b s < liftQ b t := by
  have d1 := one_add_pos b0 b1 (Rat.le_of_lt s0) (Rat.le_of_lt s1)
  have d2 := one_add_pos b0 b1 (Rat.le_of_lt t0) (Rat.le_of_lt t1)
  have p := Rat.mul_pos (a := t - s) (b := 1 - b * b) (by grind) (one_sq b0 b1)
  exact div_lt_div d1 d2 (by grind)
end IL

/-! tables of points: forms that are never below 0 -/
namespace IL
open PySem L2
def sm {α : Type} : List α → (α → Rat) → Rat
  | [], _ => 0
  | a :: l, f => f a + sm l f
theorem sm_congr {α : Type} {f g : α → Rat} : ∀ {l : List α}, (∀ a ∈ l, f a = g a) → sm l f = sm l g
  | [], _ => rfl
  | a :: l, h => by simp only [sm]; rw [h a (List.mem_cons_self ..), sm_congr fun b hb => h b (List.mem_cons_of_mem _ hb)]
theorem sm_add {α : Type} {f g : α → Rat} : ∀ l : List α, sm l (fun a => f a + g a) = sm l f + sm l g
  | [] => by simp only [sm]; grind
  | a :: l => by simp only [sm]; rw [sm_add l]; grind
theorem sm_mul {α : Type} {f : α → Rat} {k : Rat} : ∀ l : List α, sm l (fun a => k * f a) = k * sm l f
  | [] => by simp only [sm]; grind
  | a :: l => by simp only [sm]; rw [sm_mul l]; grind
theorem sm_map {α β : Type} {f : β → Rat} {g : α → β} : ∀ l : List α, sm (l.map g) f = sm l fun a => f (g a)
  | [] => rfl
  | a :: l => by simp only [sm, List.map_cons]; rw [sm_map l]
/-- a weighed point -/
abbrev WP := Rat × (Rat × Rat)
def pk (p q : Rat × Rat) : Rat := (1 - p.2 * q.2) / (1 - p.1 * q.1)
theorem pk_comm (p q : Rat × Rat) : pk p q = pk q p := by unfold pk; rw [Rat.mul_comm p.2, Rat.mul_comm p.1]
/-- the row's sum on the table -/
def fm (l : List WP) : Rat := sm l fun a => sm l fun b => a.1 * b.1 * pk a.2 b.2
/-- the table is never below 0 -/
def Psd (pts : List (Rat × Rat)) : Prop := ∀ l : List WP, l.map (·.2) = pts → 0 ≤ fm l
def ln (s : Rat × Rat) (l : List WP) : Rat := sm l fun a => a.1 * pk s a.2
theorem fm_cons (t : Rat) (s : Rat × Rat) (l : List WP) : fm ((t, s) :: l) = t * t * pk s s + 2 * t * ln s l + fm l := by
  unfold fm ln
  simp only [sm]
  rw [sm_add]
  have e1 : sm l (fun b => t * b.1 * pk s b.2) = t * sm l (fun a => a.1 * pk s a.2) := by
    rw [← sm_mul]; exact sm_congr fun a _ => by grind
  have e2 : sm l (fun a => a.1 * t * pk a.2 s) = t * sm l (fun a => a.1 * pk s a.2) := by
    rw [← sm_mul]; exact sm_congr fun a _ => by rw [pk_comm]; grind
  rw [e1, e2]; grind
/-- what is left behind a step with s -/
theorem fm_left {s : Rat × Rat} {d : Rat} (hd : d ≠ 0) (l : List WP) : fm l - ln s l * ln s l / d = sm l fun a => sm l fun b => a.1 * b.1 * (pk a.2 b.2 - pk s a.2 * pk s b.2 / d) := by
  have e : (sm l fun a => sm l fun b => a.1 * b.1 * (pk a.2 b.2 - pk s a.2 * pk s b.2 / d)) = sm l fun a => (sm l fun b => a.1 * b.1 * pk a.2 b.2) + (-(1 / d) * ln s l) * (a.1 * pk s a.2) := sm_congr fun a _ => by
    unfold ln
    have : -(1 / d) * (sm l fun a => a.1 * pk s a.2) * (a.1 * pk s a.2) = (-(1 / d) * (a.1 * pk s a.2)) * (sm l fun a => a.1 * pk s a.2) := by grind
    rw [this, ← sm_mul, ← sm_add]
    refine sm_congr fun b _ => ?_
    rw [Rat.div_def, Rat.div_def]; grind
  rw [e, sm_add, sm_mul]
  unfold fm ln
  rw [Rat.div_def, Rat.div_def]; grind
theorem quad {d b e : Rat} (hd : 0 < d) : (∀ t : Rat, 0 ≤ t * t * d + 2 * t * b + e) ↔ 0 ≤ e - b * b / d := by
  have hb : b / d * d = b := Rat.div_mul_cancel (pos_ne hd)
  have e2 : b * b / d = b * (b / d) := by rw [Rat.div_def, Rat.div_def]; grind
  rw [e2]
  generalize b / d = q at *
  constructor
  · intro h
    have := h (-q)
    have : -q * -q * d + 2 * -q * b + e = e - b * q := by rw [← hb]; grind
    grind
  · intro h t
    have k := Rat.mul_nonneg (sq_nn (t + q)) (Rat.le_of_lt hd)
    have : t * t * d + 2 * t * b + e = (t + q) * (t + q) * d + (e - b * q) := by rw [← hb]; grind
    rw [this]; grind
theorem psd_cons {s : Rat × Rat} {r : List (Rat × Rat)} (hd : 0 < pk s s) : Psd (s :: r) ↔ ∀ l : List WP, l.map (·.2) = r → 0 ≤ sm l fun a => sm l fun b => a.1 * b.1 * (pk a.2 b.2 - pk s a.2 * pk s b.2 / pk s s) := by
  constructor
  · intro h l hl
    rw [← fm_left (pos_ne hd)]
    refine (quad hd).mp fun t => ?_
    have := h ((t, s) :: l) (by simp [hl])
    rwa [fm_cons] at this
  · intro h l hl
    cases l with
    | nil => cases hl
    | cons a l =>
      obtain ⟨t, s'⟩ := a
      simp only [List.map_cons, List.cons.injEq] at hl
      obtain ⟨rfl, hl⟩ := hl
      rw [fm_cons]
      refine (quad hd).mpr ?_ t
      rw [fm_left (pos_ne hd)]
      exact h l hl
end IL

/-! points can be told just where their table is never below 0 -/
namespace IL
open PySem L2
theorem move_poly {x0 w0 x y w v z z' t t' a b A B : Rat} (hz : z * a = x - x0) (hz' : z' * b = y - x0) (ht : t * A = w - w0) (ht' : t' * B = v - w0) (ha : a = 1 - x0 * x) (hb : b = 1 - x0 * y) (hA : A = 1 - w0 * w) (hB : B = 1 - w0 * v) :
    (1 - x * y) * (1 - x0 * x0) = a * b * (1 - z * z') ∧ (1 - w * v) * (1 - w0 * w0) = A * B * (1 - t * t') := by
  constructor
  · have : a * b * (1 - z * z') = a * b - (z * a) * (z' * b) := by grind
    rw [this, hz, hz', ha, hb]; grind
  · have : A * B * (1 - t * t') = A * B - (t * A) * (t' * B) := by grind
    rw [this, ht, ht', hA, hB]; grind
def al (s p : Rat × Rat) : Rat := (1 - s.2 * p.2) * turnQ s.1 p.1
theorem pk_move {s p q : Rat × Rat} (s0 : -1 < s.1 ∧ s.1 < 1) (s1 : -1 < s.2 ∧ s.2 < 1) (p0 : -1 < p.1 ∧ p.1 < 1) (p1 : -1 ≤ p.2 ∧ p.2 ≤ 1) (q0 : -1 < q.1 ∧ q.1 < 1) (q1 : -1 ≤ q.2 ∧ q.2 ≤ 1) (np : s.1 ≠ p.1) (nq : s.1 ≠ q.1) :
    pk p q - pk s p * pk s q / pk s s = al s p * al s q / (1 - s.2 * s.2) * pk (mvd s p) (mvd s q) := by
  obtain ⟨x0, w0⟩ := s
  obtain ⟨x, w⟩ := p
  obtain ⟨y, v⟩ := q
  simp only at *
  have da := pos_ne (den_pos_of s0.1 s0.2 p0.1 p0.2)
  have db := pos_ne (den_pos_of s0.1 s0.2 q0.1 q0.2)
  have dA := pos_ne (one_sub_pos s1.1 s1.2 p1.1 p1.2)
  have dB := pos_ne (one_sub_pos s1.1 s1.2 q1.1 q1.2)
  have dn := pos_ne (den_pos_of p0.1 p0.2 q0.1 q0.2)
  have dD := pos_ne (one_sq s0.1 s0.2)
  have dE := pos_ne (one_sq s1.1 s1.2)
  have zn : turnQ x0 x ≠ 0 := fun h => np ((turn_eq_zero s0.1 s0.2 p0.1 p0.2).mp h)
  have zn' : turnQ x0 y ≠ 0 := fun h => nq ((turn_eq_zero s0.1 s0.2 q0.1 q0.2).mp h)
  obtain ⟨i1, i2⟩ := move_poly (turn_def da) (turn_def db) (turn_def dA) (turn_def dB) rfl rfl rfl rfl
  simp only [pk, mvd, al]
  have hK : (1 - w * v) / (1 - x * y) * (1 - x * y) = 1 - w * v := Rat.div_mul_cancel dn
  have h1 : (1 - w0 * w) / (1 - x0 * x) * (1 - x0 * x) = 1 - w0 * w := Rat.div_mul_cancel da
  have h2 : (1 - w0 * v) / (1 - x0 * y) * (1 - x0 * y) = 1 - w0 * v := Rat.div_mul_cancel db
  have h3 : (1 - w0 * w0) / (1 - x0 * x0) * (1 - x0 * x0) = 1 - w0 * w0 := Rat.div_mul_cancel dD
  have h3n : (1 - w0 * w0) / (1 - x0 * x0) ≠ 0 := fun h => dE (by rw [← h3, h]; grind)
  have hm : (1 - w0 * w) / (1 - x0 * x) * ((1 - w0 * v) / (1 - x0 * y)) / ((1 - w0 * w0) / (1 - x0 * x0)) * ((1 - w0 * w0) / (1 - x0 * x0)) = (1 - w0 * w) / (1 - x0 * x) * ((1 - w0 * v) / (1 - x0 * y)) := Rat.div_mul_cancel h3n
  have hw : turnQ w0 w / turnQ x0 x * turnQ x0 x = turnQ w0 w := Rat.div_mul_cancel zn
  have hv : turnQ w0 v / turnQ x0 y * turnQ x0 y = turnQ w0 v := Rat.div_mul_cancel zn'
  have hK' : (1 - turnQ w0 w / turnQ x0 x * (turnQ w0 v / turnQ x0 y)) / (1 - x * y) * (1 - x * y) = 1 - turnQ w0 w / turnQ x0 x * (turnQ w0 v / turnQ x0 y) := Rat.div_mul_cancel dn
  have hR : (1 - w0 * w) * turnQ x0 x * ((1 - w0 * v) * turnQ x0 y) / (1 - w0 * w0) * (1 - w0 * w0) = (1 - w0 * w) * turnQ x0 x * ((1 - w0 * v) * turnQ x0 y) := Rat.div_mul_cancel dE
  generalize turnQ w0 w / turnQ x0 x = w' at *
  generalize turnQ w0 v / turnQ x0 y = v' at *
  generalize (1 - w' * v') / (1 - x * y) = K' at *
  generalize (1 - w0 * w) * turnQ x0 x * ((1 - w0 * v) * turnQ x0 y) / (1 - w0 * w0) = R at *
  generalize (1 - w0 * w) / (1 - x0 * x) * ((1 - w0 * v) / (1 - x0 * y)) / ((1 - w0 * w0) / (1 - x0 * x0)) = m at *
  generalize (1 - w * v) / (1 - x * y) = K at *
  generalize (1 - w0 * w) / (1 - x0 * x) = k1 at *
  generalize (1 - w0 * v) / (1 - x0 * y) = k2 at *
  generalize (1 - w0 * w0) / (1 - x0 * x0) = d at *
  generalize turnQ x0 x = z at *
  generalize turnQ x0 y = z' at *
  generalize turnQ w0 w = t at *
  generalize turnQ w0 v = t' at *
  refine sub_z (can_z (mul_ne dn dE) ?_)
  -- everything times (1 - x y) E
  have f1 : m * (1 - x * y) * (1 - w0 * w0) = (1 - w0 * w) * (1 - w0 * v) * (1 - z * z') := by
    rw [← h3]
    have : m * (1 - x * y) * (d * (1 - x0 * x0)) = m * d * ((1 - x * y) * (1 - x0 * x0)) := by grind
    rw [this, hm, i1]
    have : k1 * k2 * ((1 - x0 * x) * (1 - x0 * y) * (1 - z * z')) = (k1 * (1 - x0 * x)) * (k2 * (1 - x0 * y)) * (1 - z * z') := by grind
    rw [this, h1, h2]
  have f2 : K * (1 - x * y) * (1 - w0 * w0) = (1 - w0 * w) * (1 - w0 * v) * (1 - t * t') := by rw [hK, i2]
  have f3 : R * K' * (1 - x * y) * (1 - w0 * w0) = (1 - w0 * w) * (1 - w0 * v) * (z * z' - t * t') := by
    have : R * K' * (1 - x * y) * (1 - w0 * w0) = (R * (1 - w0 * w0)) * (K' * (1 - x * y)) := by grind
    rw [this, hR, hK', ← hw, ← hv]; grind
  have : (1 - x * y) * (1 - w0 * w0) * (K - m - R * K') = K * (1 - x * y) * (1 - w0 * w0) - m * (1 - x * y) * (1 - w0 * w0) - R * K' * (1 - x * y) * (1 - w0 * w0) := by grind
  rw [this, f1, f2, f3]; grind
theorem pk_self {s : Rat × Rat} (s0 : -1 < s.1 ∧ s.1 < 1) (s1 : -1 < s.2 ∧ s.2 < 1) : 0 < pk s s := by
  unfold pk; rw [Rat.div_def]; exact Rat.mul_pos (one_sq s1.1 s1.2) (Rat.inv_pos.mpr (one_sq s0.1 s0.2))
theorem psd_step {s : Rat × Rat} {r : List (Rat × Rat)} (ok : PtsOk (s :: r)) (hs : ¬ (s.2 = 1 ∨ s.2 = -1)) : Psd (s :: r) ↔ Psd (r.map (mvd s)) := by
  have s0 := ok.pl s (List.mem_cons_self ..)
  have s1' := ok.lv s (List.mem_cons_self ..)
  have s1 : -1 < s.2 ∧ s.2 < 1 := by grind
  have nd := ok.nd
  rw [List.map_cons, List.nodup_cons] at nd
  have np : ∀ p ∈ r, s.1 ≠ p.1 := fun p hp e => nd.1 (by rw [e]; exact List.mem_map_of_mem hp)
  have E := one_sq s1.1 s1.2
  have an : ∀ p ∈ r, al s p ≠ 0 := fun p hp => mul_ne (pos_ne (one_sub_pos s1.1 s1.2 (ok.lv p (List.mem_cons_of_mem _ hp)).1 (ok.lv p (List.mem_cons_of_mem _ hp)).2)) fun h => np p hp ((turn_eq_zero s0.1 s0.2 (ok.pl p (List.mem_cons_of_mem _ hp)).1 (ok.pl p (List.mem_cons_of_mem _ hp)).2).mp h)
  rw [psd_cons (pk_self s0 s1)]
  have key : ∀ l : List WP, (∀ a ∈ l, a.2 ∈ r) → (sm l fun a => sm l fun b => a.1 * b.1 * (pk a.2 b.2 - pk s a.2 * pk s b.2 / pk s s)) = 1 / (1 - s.2 * s.2) * fm (l.map fun a => (a.1 * al s a.2, mvd s a.2)) := fun l hl => by
    unfold fm
    rw [sm_map, ← sm_mul]
    refine sm_congr fun a ha => ?_
    rw [sm_map, ← sm_mul]
    refine sm_congr fun b hb => ?_
    rw [pk_move s0 s1 (ok.pl _ (List.mem_cons_of_mem _ (hl a ha))) (ok.lv _ (List.mem_cons_of_mem _ (hl a ha))) (ok.pl _ (List.mem_cons_of_mem _ (hl b hb))) (ok.lv _ (List.mem_cons_of_mem _ (hl b hb))) (np _ (hl a ha)) (np _ (hl b hb))]
    simp only
    rw [Rat.div_def, Rat.div_def]; grind
  have inv0 : 0 < 1 / (1 - s.2 * s.2) := by rw [Rat.div_def]; exact Rat.mul_pos (by decide) (Rat.inv_pos.mpr E)
  constructor
  · intro h l' hl'
    -- the same sums, weighed back
    have hlen : l'.length = r.length := by have := congrArg List.length hl'; simpa using this
    let l : List WP := List.zipWith (fun (c : WP) p => (c.1 / al s p, p)) l' r
    have e1 : l.map (·.2) = r := by
      apply List.ext_getElem
      · simp [l, hlen]
      · intro i h1 h2; simp [l]
    have e2 : (l.map fun a => (a.1 * al s a.2, mvd s a.2)) = l' := by
      apply List.ext_getElem
      · simp [l, hlen]
      · intro i h1 h2
        have hr : i < r.length := by rw [← hlen]; exact h2
        have e3 : l'[i].2 = mvd s r[i] := by
          have := congrArg (fun z => z[i]?) hl'
          simp [h2, hr] at this
          exact this
        have ne := an r[i] (List.getElem_mem hr)
        have e4 : l'[i].1 / al s r[i] * al s r[i] = l'[i].1 := Rat.div_mul_cancel ne
        simp [l, e4, ← e3]
    have := h l e1
    rw [key l (fun a ha => by rw [← e1]; exact List.mem_map_of_mem ha), e2] at this
    by_cases c : 0 ≤ fm l'
    · exact c
    · have := Rat.mul_pos (a := 1 / (1 - s.2 * s.2)) (b := -fm l') inv0 (by grind)
      grind
  · intro h l hl
    rw [key l (fun a ha => by rw [← hl]; exact List.mem_map_of_mem ha)]
    refine Rat.mul_nonneg (Rat.le_of_lt inv0) (h _ ?_)
    rw [List.map_map, ← hl, List.map_map]; rfl
end IL

namespace IL
open PySem L2
theorem ln_zero {s : Rat × Rat} : ∀ r : List (Rat × Rat), ln s (r.map fun p => ((0 : Rat), p)) = 0
  | [] => rfl
  | p :: r => by
    have := ln_zero (s := s) r
    unfold ln at *
    simp only [List.map_cons, sm]
    rw [this]; grind
theorem fm_zero : ∀ r : List (Rat × Rat), fm (r.map fun p => ((0 : Rat), p)) = 0
  | [] => rfl
  | p :: r => by rw [List.map_cons, fm_cons, fm_zero r]; grind
theorem psd_tail {s : Rat × Rat} {r : List (Rat × Rat)} (h : Psd (s :: r)) : Psd r := fun l hl => by
  have := h ((0, s) :: l) (by simp [hl])
  rw [fm_cons] at this; grind
theorem psd_head {s : Rat × Rat} {r : List (Rat × Rat)} (h : Psd (s :: r)) : 0 ≤ pk s s := by
  have := h ((1, s) :: r.map fun p => ((0 : Rat), p)) (by simp [Function.comp_def])
  rw [fm_cons, ln_zero, fm_zero] at this; grind
theorem psd_diag : ∀ {pts : List (Rat × Rat)}, Psd pts → ∀ p ∈ pts, 0 ≤ pk p p
  | s :: r, h, p, hp => by
    rcases List.mem_cons.mp hp with rfl | hp
    · exact psd_head h
    · exact psd_diag (psd_tail h) p hp
theorem lv_of_pk {p : Rat × Rat} (h0 : -1 < p.1 ∧ p.1 < 1) (h : 0 ≤ pk p p) : -1 ≤ p.2 ∧ p.2 ≤ 1 := by
  have d := one_sq h0.1 h0.2
  have e : pk p p * (1 - p.1 * p.1) = 1 - p.2 * p.2 := Rat.div_mul_cancel (pos_ne d)
  have k := Rat.mul_nonneg h (Rat.le_of_lt d)
  rw [e] at k
  constructor
  · by_cases c : -1 ≤ p.2
    · exact c
    · have := Rat.mul_pos (a := -1 - p.2) (b := 1 - p.2) (by grind) (by grind); grind
  · by_cases c : p.2 ≤ 1
    · exact c
    · have := Rat.mul_pos (a := p.2 - 1) (b := 1 + p.2) (by grind) (by grind); grind
theorem sm_nn {α : Type} {f : α → Rat} : ∀ {l : List α}, (∀ a ∈ l, 0 ≤ f a) → 0 ≤ sm l f
  | [], _ => by simp only [sm]; exact Rat.le_refl
  | a :: l, h => by
    have h1 := h a (List.mem_cons_self ..)
    have h2 := sm_nn (l := l) fun b hb => h b (List.mem_cons_of_mem _ hb)
    simp only [sm]; grind
theorem sm_pos {α : Type} {f : α → Rat} : ∀ {l : List α} {x : α}, (∀ a ∈ l, 0 ≤ f a) → x ∈ l → 0 < f x → 0 < sm l f
  | a :: l, x, h, hx, hp => by
    have h1 := h a (List.mem_cons_self ..)
    have hl : ∀ b ∈ l, 0 ≤ f b := fun b hb => h b (List.mem_cons_of_mem _ hb)
    simp only [sm]
    rcases List.mem_cons.mp hx with rfl | hx
    · have := sm_nn hl; grind
    · have := sm_pos hl hx hp; grind
theorem sm_z {α : Type} {f : α → Rat} : ∀ {l : List α}, (∀ a ∈ l, f a = 0) → sm l f = 0
  | [], _ => rfl
  | a :: l, h => by simp only [sm]; rw [h a (List.mem_cons_self ..), sm_z fun b hb => h b (List.mem_cons_of_mem _ hb)]; grind
/-- a level of size 1: all levels are the same -/
theorem psd_full {s : Rat × Rat} {r : List (Rat × Rat)} (ok : PtsOk (s :: r)) (hs : s.2 = 1 ∨ s.2 = -1) : Psd (s :: r) ↔ ∀ q ∈ r, q.2 = s.2 := by
  have ss : s.2 * s.2 = 1 := by rcases hs with h | h <;> rw [h] <;> grind
  have z : ∀ p q : Rat × Rat, p.2 = s.2 → q.2 = s.2 → pk p q = 0 := fun p q h1 h2 => by
    unfold pk; rw [h1, h2, ss, Rat.div_def]; grind
  constructor
  · intro h q hq
    by_cases c : q.2 = s.2
    · exact c
    · exfalso
      have ql := ok.lv q (List.mem_cons_of_mem _ hq)
      have q0 := ok.pl q (List.mem_cons_of_mem _ hq)
      have s0 := ok.pl s (List.mem_cons_self ..)
      have dn := den_pos_of s0.1 s0.2 q0.1 q0.2
      have pn : pk s q ≠ 0 := fun e => by
        have e2 : pk s q * (1 - s.1 * q.1) = 1 - s.2 * q.2 := Rat.div_mul_cancel (pos_ne dn)
        rw [e] at e2
        rcases hs with hs | hs <;> rw [hs] at e2 c <;> grind
      have lp : 0 < ln s (r.map fun p => (pk s p, p)) := by
        unfold ln
        rw [sm_map]
        refine sm_pos (x := q) (fun a _ => sq_nn _) hq ?_
        have := sq_nn (pk s q)
        have : pk s q * pk s q ≠ 0 := mul_ne pn pn
        grind
      have key := h ((-(fm (r.map fun p => (pk s p, p)) + 1) / (2 * ln s (r.map fun p => (pk s p, p))), s) :: r.map fun p => (pk s p, p)) (by simp [Function.comp_def])
      rw [fm_cons, z s s rfl rfl] at key
      generalize fm (r.map fun p => (pk s p, p)) = f at *
      generalize ln s (r.map fun p => (pk s p, p)) = n at *
      have e3 : -(f + 1) / (2 * n) * (2 * n) = -(f + 1) := Rat.div_mul_cancel (pos_ne (by grind))
      grind
  · intro h l hl
    have m : ∀ a ∈ l, a.2.2 = s.2 := fun a ha => by
      have : a.2 ∈ s :: r := by rw [← hl]; exact List.mem_map_of_mem ha
      rcases List.mem_cons.mp this with e | e
      · rw [e]
      · exact h _ e
    unfold fm
    rw [sm_z fun a ha => sm_z fun b hb => by rw [z _ _ (m a ha) (m b hb)]; grind]
    exact Rat.le_refl
theorem told_iffN : ∀ (n : Nat) {pts : List (Rat × Rat)}, pts.length = n → PtsOk pts → ((ladN n pts).isSome = true ↔ Psd pts)
  | 0, [], _, _ => by
    simp only [ladN, Option.isSome_some, true_iff]
    intro l hl
    have : l = [] := by simpa using hl
    rw [this]; exact Rat.le_refl
  | 0, _ :: _, h, _ => by simp at h
  | n + 1, [], h, _ => by simp at h
  | n + 1, s :: r, h, ok => by
    have hn : (r.map (mvd s)).length = n := by simpa using h
    unfold ladN
    by_cases c : s.2 = 1 ∨ s.2 = -1
    · rw [if_pos c, psd_full ok c]
      by_cases d : r.all (fun x => decide (x.2 = s.2)) = true
      · rw [if_pos d]
        simp only [Option.isSome_some, true_iff]
        intro q hq
        simpa using List.all_eq_true.mp d q hq
      · rw [if_neg d]
        constructor
        · intro z; cases z
        · intro z; exact absurd (List.all_eq_true.mpr fun q hq => by simpa using z q hq) d
    · rw [if_neg c, psd_step ok c]
      by_cases d : (r.map (mvd s)).all (fun x => decide (-1 ≤ x.2 ∧ x.2 ≤ 1)) = true
      · rw [if_pos d, Option.isSome_map]
        exact told_iffN n hn (ok.tail d)
      · rw [if_neg d]
        constructor
        · intro z; cases z
        · intro z
          refine absurd (List.all_eq_true.mpr fun q hq => ?_) d
          rw [decide_eq_true_eq]
          refine lv_of_pk ?_ (psd_diag z q hq)
          obtain ⟨y, hy, rfl⟩ := List.mem_map.mp hq
          exact ok.pl y (List.mem_cons_of_mem _ hy)
/-- points can be told just where their table is never below 0 -/
theorem told_iff {pts : List (Rat × Rat)} (ok : PtsOk pts) : (ladQ pts).isSome = true ↔ Psd pts := told_iffN _ rfl ok
end IL

/-! fewer points, other orders -/
namespace IL
open PySem L2
def wt (l : List WP) (p : Rat × Rat) : Rat := sm l fun a => if a.2 = p then a.1 else 0
theorem sm_one {x : Rat} {q : Rat × Rat} {g : Rat × Rat → Rat} : ∀ {pts : List (Rat × Rat)}, pts.Nodup → q ∈ pts → sm pts (fun p => (if q = p then x else 0) * g p) = x * g q
  | s :: r, hn, hq => by
    rw [List.nodup_cons] at hn
    simp only [sm]
    by_cases c : q = s
    · subst c
      rw [if_pos rfl, sm_z fun p hp => by rw [if_neg fun e => hn.1 (by rw [e]; exact hp)]; grind]; grind
    · have hr : q ∈ r := (List.mem_cons.mp hq).resolve_left c
      rw [if_neg c, sm_one hn.2 hr]; grind
theorem sm_merge {pts : List (Rat × Rat)} {g : Rat × Rat → Rat} (hn : pts.Nodup) : ∀ {l : List WP}, (∀ a ∈ l, a.2 ∈ pts) → sm pts (fun p => wt l p * g p) = sm l fun a => a.1 * g a.2
  | [], _ => by rw [sm_z fun p _ => by simp only [wt, sm]; grind]; rfl
  | a :: l, h => by
    have e : sm pts (fun p => wt (a :: l) p * g p) = sm pts fun p => (if a.2 = p then a.1 else 0) * g p + wt l p * g p := sm_congr fun p _ => by
      simp only [wt, sm]; grind
    rw [e, sm_add, sm_one hn (h a (List.mem_cons_self ..)), sm_merge hn fun b hb => h b (List.mem_cons_of_mem _ hb)]
    rfl
theorem fm_lin (l : List WP) : fm l = sm l fun a => a.1 * sm l fun b => b.1 * pk a.2 b.2 := by
  unfold fm
  refine sm_congr fun a _ => ?_
  rw [← sm_mul]
  exact sm_congr fun b _ => by grind
theorem fm_merge {pts : List (Rat × Rat)} (hn : pts.Nodup) {l : List WP} (h : ∀ a ∈ l, a.2 ∈ pts) : fm (pts.map fun p => (wt l p, p)) = fm l := by
  rw [fm_lin, fm_lin, sm_map]
  have e : ∀ q, (sm (pts.map fun p => (wt l p, p)) fun b => b.1 * pk q b.2) = sm l fun b => b.1 * pk q b.2 := fun q => by
    rw [sm_map]; exact sm_merge hn h
  simp only [e]
  exact sm_merge hn h
theorem psd_mem {pts : List (Rat × Rat)} (hn : pts.Nodup) (h : Psd pts) {l : List WP} (hl : ∀ a ∈ l, a.2 ∈ pts) : 0 ≤ fm l := by
  rw [← fm_merge hn hl]
  exact h _ (by simp [Function.comp_def])
theorem psd_sub {pts qs : List (Rat × Rat)} (hn : pts.Nodup) (h : Psd pts) (hs : ∀ q ∈ qs, q ∈ pts) : Psd qs := fun l hl => psd_mem hn h fun a ha => hs _ (by rw [← hl]; exact List.mem_map_of_mem ha)
theorem nodup_map {α β : Type} {f : α → β} : ∀ {l : List α}, (l.map f).Nodup → l.Nodup
  | [], _ => List.nodup_nil
  | a :: l, h => by
    rw [List.map_cons, List.nodup_cons] at h
    exact List.nodup_cons.mpr ⟨fun z => h.1 (List.mem_map_of_mem z), nodup_map h.2⟩
theorem PtsOk.nodup {pts : List (Rat × Rat)} (h : PtsOk pts) : pts.Nodup := nodup_map h.nd
theorem PtsOk.sub {pts qs : List (Rat × Rat)} (h : PtsOk pts) (hs : ∀ q ∈ qs, q ∈ pts) (hn : (qs.map (·.1)).Nodup) : PtsOk qs := ⟨fun x hx => h.pl x (hs x hx), fun x hx => h.lv x (hs x hx), hn⟩
theorem told_sub {pts qs : List (Rat × Rat)} (ok : PtsOk pts) (hs : ∀ q ∈ qs, q ∈ pts) (hn : (qs.map (·.1)).Nodup) (h : (ladQ pts).isSome = true) : (ladQ qs).isSome = true :=
  (told_iff (ok.sub hs hn)).mpr (psd_sub ok.nodup ((told_iff ok).mp h) hs)
end IL

/-! closer sizes -/
namespace IL
open PySem L2
theorem num_eq (q : Rat) : (q.num : Rat) = q * (q.den : Int) := by
  conv => rhs; lhs; rw [← Rat.num_divInt_den q, Rat.divInt_eq_div]
  have : ((q.den : Int) : Rat) ≠ 0 := fun h => den_ne q (Rat.intCast_eq_zero_iff.mp h)
  exact (Rat.div_mul_cancel this).symm
theorem turn_di (p x : Rat) : turnQ p x = Rat.divInt (x.num * p.den - p.num * x.den) (p.den * x.den - p.num * x.num) := by
  have dp : ((p.den : Int) : Rat) ≠ 0 := fun h => den_ne p (Rat.intCast_eq_zero_iff.mp h)
  have dx : ((x.den : Int) : Rat) ≠ 0 := fun h => den_ne x (Rat.intCast_eq_zero_iff.mp h)
  rw [Rat.divInt_eq_div]
  simp only [Rat.intCast_sub, Rat.intCast_mul, num_eq]
  unfold turnQ
  generalize ((p.den : Int) : Rat) = d at *
  generalize ((x.den : Int) : Rat) = e at *
  have k := mul_ne dp dx
  rw [show x * e * d - p * d * e = d * e * (x - p) by grind, show d * e - p * d * (x * e) = d * e * (1 - p * x) by grind]
  by_cases c : 1 - p * x = 0
  · rw [c, Rat.mul_zero, Rat.div_def, Rat.div_def, Rat.inv_zero, Rat.mul_zero, Rat.mul_zero]
  · refine (eq_div (mul_ne k c) ?_)
    have := turn_def c
    unfold turnQ at this
    grind
theorem bz_turn1 (p x : Rat) : bz (turnQ p x) ≤ bz p + bz x + 1 := by
  rw [turn_di]
  have h1 := nd_lt x p
  have h2 := nd_lt p x
  have h3 := dd_lt p x
  have h4 := nn_lt p x
  rw [Nat.add_comm (bz x)] at h1
  have e : 2 ^ (bz p + bz x + 1) = 2 * 2 ^ (bz p + bz x) := by rw [Nat.pow_succ, Nat.mul_comm]
  by_cases c : (p.den : Int) * x.den - p.num * x.num = 0
  · rw [c, Rat.divInt_zero, bz_zero]; omega
  · exact bz_di (by omega) c (by omega) (by omega)
theorem bz_lift1 (p x : Rat) : bz (liftQ p x) ≤ bz p + bz x + 1 := by
  rw [liftQ_turn]
  have := bz_turn1 (-p) x
  rw [bz_neg] at this; exact this
/-- values of ladders are short -/
theorem bz_val1 {k : Nat} {x last : Rat} (hx : bz x ≤ k) (hl : bz last ≤ k) : ∀ {steps : List (Rat × Rat)}, (∀ s ∈ steps, bz s.1 ≤ k ∧ bz s.2 ≤ k) → bz (valQ steps last x) ≤ k + (3 * k + 2) * steps.length
  | [], _ => by simp [valQ]; omega
  | s :: r, h => by
    have ih := bz_val1 hx hl (steps := r) fun y hy => h y (List.mem_cons_of_mem _ hy)
    obtain ⟨h1, h2⟩ := h s (List.mem_cons_self ..)
    have t := bz_turn1 s.1 x
    have m := bz_mul (turnQ s.1 x) (valQ r last x)
    have l := bz_lift1 s.2 (turnQ s.1 x * valQ r last x)
    have e : (3 * k + 2) * (s :: r).length = (3 * k + 2) * r.length + (3 * k + 2) := by
      rw [List.length_cons, Nat.mul_succ]
    rw [e]
    simp only [valQ]
    omega
theorem bz_mvd {s p : Rat × Rat} : bz (mvd s p).2 ≤ bz s.2 + bz p.2 + bz s.1 + bz p.1 + 2 := by
  have h1 := bz_turn1 s.2 p.2
  have h2 := bz_turn1 s.1 p.1
  have h3 := bz_div (turnQ s.2 p.2) (turnQ s.1 p.1)
  simp only [mvd]; omega
/-- few points of short places and levels stay short on the way -/
theorem lsz_of {k : Nat} (hk : k ≤ 1000000) : ∀ (n : Nat) {b : Nat} {pts : List (Rat × Rat)}, (∀ p ∈ pts, bz p.1 ≤ k ∧ bz p.2 ≤ b) → (b + 2 * k + 2) * 2 ^ n ≤ 10000000 + 2 * k + 2 → pts.length ≤ n + 1 → ∀ m, LSz m pts
  | _, _, [], _, _, _, m => by cases m <;> trivial
  | 0, b, [s], h, hb, hn, m => by
    obtain ⟨h1, h2⟩ := h s (List.mem_cons_self ..)
    cases m with
    | zero => trivial
    | succ m =>
      simp at hb
      exact ⟨by omega, by omega, nofun, by cases m <;> trivial⟩
  | 0, _, _ :: _ :: _, _, _, hn, _ => by simp at hn
  | n + 1, b, s :: r, h, hb, hn, m => by
    obtain ⟨h1, h2⟩ := h s (List.mem_cons_self ..)
    have e : (b + 2 * k + 2) * 2 ^ (n + 1) = (2 * b + 2 * k + 2 + 2 * k + 2) * 2 ^ n := by rw [Nat.pow_succ]; grind
    have hb0 : b ≤ 10000000 := by
      have : 1 ≤ 2 ^ (n + 1) := Nat.one_le_two_pow
      have := Nat.mul_le_mul_left (b + 2 * k + 2) this
      omega
    cases m with
    | zero => trivial
    | succ m =>
      refine ⟨by omega, by omega, fun x hx => ?_, ?_⟩
      · have := h x (List.mem_cons_of_mem _ hx); omega
      · refine lsz_of hk n (b := 2 * b + 2 * k + 2) (fun p hp => ?_) (by rw [← e]; exact hb) (by simpa using hn) m
        obtain ⟨y, hy, rfl⟩ := List.mem_map.mp hp
        obtain ⟨h3, h4⟩ := h y (List.mem_cons_of_mem _ hy)
        have := bz_mvd (s := s) (p := y)
        exact ⟨h3, by omega⟩
end IL

/-! points of a ladder can be told -/
namespace IL
open PySem L2
theorem told_zero : ∀ (n : Nat) {pts : List (Rat × Rat)}, pts.length = n → (∀ p ∈ pts, p.2 = 0) → (ladN n pts).isSome = true
  | 0, [], _, _ => rfl
  | 0, _ :: _, h, _ => by simp at h
  | n + 1, [], h, _ => by simp at h
  | n + 1, s :: r, h, hz => by
    have hn : (r.map (mvd s)).length = n := by simpa using h
    have s0 := hz s (List.mem_cons_self ..)
    have m0 : ∀ q ∈ r.map (mvd s), q.2 = 0 := fun q hq => by
      obtain ⟨y, hy, rfl⟩ := List.mem_map.mp hq
      simp only [mvd, s0, hz y (List.mem_cons_of_mem _ hy), turn_self]
      rw [Rat.div_def]; grind
    unfold ladN
    have c : ¬ (s.2 = 1 ∨ s.2 = -1) := by rw [s0]; decide
    have d : (r.map (mvd s)).all (fun x => decide (-1 ≤ x.2 ∧ x.2 ≤ 1)) = true := List.all_eq_true.mpr fun q hq => by rw [m0 q hq]; decide
    rw [if_neg c, if_pos d, Option.isSome_map]
    exact told_zero n hn m0
/-- the sum over weighed places of a function's table -/
def fp (f : Rat → Rat) (l : List (Rat × Rat)) : Rat := sm l fun a => sm l fun b => a.1 * b.1 * pk (a.2, f a.2) (b.2, f b.2)
theorem fp_zero {l : List (Rat × Rat)} (h : ∀ a ∈ l, -1 < a.2 ∧ a.2 < 1) (hn : (l.map (·.2)).Nodup) : 0 ≤ fp (fun _ => 0) l := by
  have ok : PtsOk (l.map fun a => (a.2, (0 : Rat))) := by
    refine ⟨fun x hx => ?_, fun x hx => ?_, by rw [List.map_map]; exact hn⟩
    · obtain ⟨a, ha, rfl⟩ := List.mem_map.mp hx; exact h a ha
    · obtain ⟨a, ha, rfl⟩ := List.mem_map.mp hx; exact ⟨(by decide : (-1 : Rat) ≤ 0), (by decide : (0 : Rat) ≤ 1)⟩
  have p := (told_iff ok).mp (told_zero _ rfl fun q hq => by obtain ⟨a, ha, rfl⟩ := List.mem_map.mp hq; rfl)
  have := p (l.map fun a => (a.1, (a.2, (0 : Rat)))) (by rw [List.map_map]; rfl)
  unfold fm at this
  rw [sm_map] at this
  unfold fp
  have e : (sm l fun a => sm (l.map fun a => (a.1, (a.2, (0 : Rat)))) fun b => a.1 * b.1 * pk (a.2, 0) b.2) = sm l fun a => sm l fun b => a.1 * b.1 * pk (a.2, 0) (b.2, 0) := sm_congr fun a _ => by rw [sm_map]
  rw [← e]; exact this
theorem fp_const {k : Rat} (l : List (Rat × Rat)) : fp (fun _ => k) l = (1 - k * k) * fp (fun _ => 0) l := by
  unfold fp
  rw [← sm_mul]
  refine sm_congr fun a _ => ?_
  rw [← sm_mul]
  refine sm_congr fun b _ => ?_
  simp only [pk]
  rw [Rat.div_def, Rat.div_def]; grind
theorem lift_poly {l p x y g h z z' f f' : Rat} (hz : z * (1 - p * x) = x - p) (hz' : z' * (1 - p * y) = y - p) (hf : f * (1 + l * (z * g)) = l + z * g) (hf' : f' * (1 + l * (z' * h)) = l + z' * h) :
    (1 - f * f') * ((1 + l * (z * g)) * (1 - p * x) * ((1 + l * (z' * h)) * (1 - p * y))) = (1 - l * l) * ((1 - p * p) * (1 - x * y) + (x - p) * (y - p) * (1 - g * h)) := by
  have e : (1 - f * f') * ((1 + l * (z * g)) * (1 - p * x) * ((1 + l * (z' * h)) * (1 - p * y))) = ((1 + l * (z * g)) * (1 + l * (z' * h)) - (f * (1 + l * (z * g))) * (f' * (1 + l * (z' * h)))) * ((1 - p * x) * (1 - p * y)) := by grind
  rw [e, hf, hf']
  have e2 : ((1 + l * (z * g)) * (1 + l * (z' * h)) - (l + z * g) * (l + z' * h)) * ((1 - p * x) * (1 - p * y)) = (1 - l * l) * ((1 - p * x) * (1 - p * y) - (z * (1 - p * x)) * (z' * (1 - p * y)) * (g * h)) := by grind
  rw [e2, hz, hz']; grind
theorem sm_sq {l : List (Rat × Rat)} {u : Rat × Rat → Rat} : (sm l fun a => sm l fun b => u a * u b) = sm l u * sm l u := by
  have : (sm l fun a => sm l fun b => u a * u b) = sm l fun a => sm l u * u a := sm_congr fun a _ => by rw [sm_mul]; grind
  rw [this, sm_mul]
theorem fp_nn {last : Rat} : ∀ {steps : List (Rat × Rat)}, LadOk steps last → ∀ {l : List (Rat × Rat)}, (∀ a ∈ l, -1 < a.2 ∧ a.2 < 1) → (l.map (·.2)).Nodup → 0 ≤ fp (valQ steps last) l
  | [], h, l, hl, hn => by
    have e : valQ [] last = fun _ => last := rfl
    rw [e, fp_const]
    refine Rat.mul_nonneg ?_ (fp_zero hl hn)
    have := Rat.mul_nonneg (a := 1 - last) (b := 1 + last) (by have := h.la; grind) (by have := h.la; grind)
    grind
  | s :: r, h, l, hl, hn => by
    obtain ⟨⟨p0, p1⟩, l0, l1⟩ := h.st s (List.mem_cons_self ..)
    let dl : Rat → Rat := fun x => (1 + s.2 * (turnQ s.1 x * valQ r last x)) * (1 - s.1 * x)
    have dn : ∀ a ∈ l, 1 + s.2 * (turnQ s.1 a.2 * valQ r last a.2) ≠ 0 ∧ 1 - s.1 * a.2 ≠ 0 := fun a ha => by
      have t := turn_st p0 p1 (hl a ha).1 (hl a ha).2
      have g := val_bd (hl a ha).1 (hl a ha).2 h.tail
      have m := mul_bd (a := turnQ s.1 a.2) (b := valQ r last a.2) (by grind) (by grind) g.1 g.2
      exact ⟨pos_ne (one_add_pos l0 l1 m.1 m.2), pos_ne (den_pos_of p0 p1 (hl a ha).1 (hl a ha).2)⟩
    have key : ∀ a ∈ l, ∀ b ∈ l, a.1 * b.1 * pk (a.2, valQ (s :: r) last a.2) (b.2, valQ (s :: r) last b.2) = (1 - s.2 * s.2) * ((1 - s.1 * s.1) * ((a.1 / dl a.2) * (b.1 / dl b.2)) + (a.1 * (a.2 - s.1) / dl a.2) * (b.1 * (b.2 - s.1) / dl b.2) * pk (a.2, valQ r last a.2) (b.2, valQ r last b.2)) := fun a ha b hb => by
      obtain ⟨a1, a2⟩ := dn a ha
      obtain ⟨b1, b2⟩ := dn b hb
      have n := pos_ne (den_pos_of (hl a ha).1 (hl a ha).2 (hl b hb).1 (hl b hb).2)
      have poly := lift_poly (turn_def a2) (turn_def b2) (lift_def a1) (lift_def b1)
      have da : dl a.2 ≠ 0 := mul_ne a1 a2
      have db : dl b.2 ≠ 0 := mul_ne b1 b2
      have q1 : a.1 / dl a.2 * dl a.2 = a.1 := Rat.div_mul_cancel da
      have q2 : b.1 / dl b.2 * dl b.2 = b.1 := Rat.div_mul_cancel db
      have q3 : a.1 * (a.2 - s.1) / dl a.2 = a.1 / dl a.2 * (a.2 - s.1) := by rw [Rat.div_def, Rat.div_def]; grind
      have q4 : b.1 * (b.2 - s.1) / dl b.2 = b.1 / dl b.2 * (b.2 - s.1) := by rw [Rat.div_def, Rat.div_def]; grind
      have k1 : pk (a.2, valQ (s :: r) last a.2) (b.2, valQ (s :: r) last b.2) * (1 - a.2 * b.2) = 1 - valQ (s :: r) last a.2 * valQ (s :: r) last b.2 := Rat.div_mul_cancel n
      have k2 : pk (a.2, valQ r last a.2) (b.2, valQ r last b.2) * (1 - a.2 * b.2) = 1 - valQ r last a.2 * valQ r last b.2 := Rat.div_mul_cancel n
      have poly2 : (1 - valQ (s :: r) last a.2 * valQ (s :: r) last b.2) * (dl a.2 * dl b.2) = (1 - s.2 * s.2) * ((1 - s.1 * s.1) * (1 - a.2 * b.2) + (a.2 - s.1) * (b.2 - s.1) * (1 - valQ r last a.2 * valQ r last b.2)) := poly
      rw [q3, q4]
      generalize pk (a.2, valQ (s :: r) last a.2) (b.2, valQ (s :: r) last b.2) = K at *
      generalize pk (a.2, valQ r last a.2) (b.2, valQ r last b.2) = K' at *
      generalize a.1 / dl a.2 = u at *
      generalize b.1 / dl b.2 = v at *
      generalize dl a.2 = A at *
      generalize dl b.2 = B at *
      rw [← k1, ← k2] at poly2
      refine sub_z (can_z n ?_)
      rw [← q1, ← q2]
      have e1 : (1 - a.2 * b.2) * (u * A * (v * B) * K - (1 - s.2 * s.2) * ((1 - s.1 * s.1) * (u * v) + u * (a.2 - s.1) * (v * (b.2 - s.1)) * K')) = u * v * (K * (1 - a.2 * b.2) * (A * B) - (1 - s.2 * s.2) * ((1 - s.1 * s.1) * (1 - a.2 * b.2) + (a.2 - s.1) * (b.2 - s.1) * (K' * (1 - a.2 * b.2)))) := by grind
      rw [e1, poly2]; grind
    have e : fp (valQ (s :: r) last) l = (1 - s.2 * s.2) * ((1 - s.1 * s.1) * ((sm l fun a => a.1 / dl a.2) * (sm l fun a => a.1 / dl a.2)) + fp (valQ r last) (l.map fun a => (a.1 * (a.2 - s.1) / dl a.2, a.2))) := by
      rw [← sm_sq]
      unfold fp
      rw [sm_map, ← sm_mul, ← sm_add, ← sm_mul]
      refine sm_congr fun a ha => ?_
      rw [sm_map, ← sm_mul, ← sm_add, ← sm_mul]
      exact sm_congr fun b hb => key a ha b hb
    rw [e]
    have ih := fp_nn h.tail (l := l.map fun a => (a.1 * (a.2 - s.1) / dl a.2, a.2)) (fun a ha => by obtain ⟨c, hc, rfl⟩ := List.mem_map.mp ha; exact hl c hc) (by rw [List.map_map]; exact hn)
    have k1 := Rat.le_of_lt (one_sq l0 l1)
    have k2 := Rat.mul_nonneg (Rat.le_of_lt (one_sq p0 p1)) (sq_nn (sm l fun a => a.1 / dl a.2))
    exact Rat.mul_nonneg k1 (by grind)
/-- points of a ladder -/
theorem psd_lad {steps : List (Rat × Rat)} {last : Rat} (h : LadOk steps last) {xs : List Rat} (hx : ∀ x ∈ xs, -1 < x ∧ x < 1) (hn : xs.Nodup) : Psd (xs.map fun x => (x, valQ steps last x)) := fun l hl => by
  have hxs : l.map (fun a => a.2.1) = xs := by
    have := congrArg (List.map (·.1)) hl
    rw [List.map_map, List.map_map] at this
    have e : xs.map ((fun p : Rat × Rat => p.1) ∘ fun x => (x, valQ steps last x)) = xs := by
      have : ((fun p : Rat × Rat => p.1) ∘ fun x => (x, valQ steps last x)) = id := rfl
      rw [this, List.map_id]
    rw [e] at this; exact this
  have lv : ∀ a ∈ l, a.2 = (a.2.1, valQ steps last a.2.1) := fun a ha => by
    have : a.2 ∈ xs.map fun x => (x, valQ steps last x) := by rw [← hl]; exact List.mem_map_of_mem ha
    obtain ⟨x, _, e⟩ := List.mem_map.mp this
    rw [← e]
  have := fp_nn h (l := l.map fun a => (a.1, a.2.1)) (fun a ha => by
    obtain ⟨c, hc, rfl⟩ := List.mem_map.mp ha
    exact hx _ (by rw [← hxs]; exact List.mem_map_of_mem hc)) (by rw [List.map_map]; show (l.map fun a => a.2.1).Nodup; rw [hxs]; exact hn)
  unfold fp at this
  rw [sm_map] at this
  unfold fm
  have e : (sm l fun a => sm (l.map fun a => (a.1, a.2.1)) fun b => a.1 * b.1 * pk (a.2.1, valQ steps last a.2.1) (b.2, valQ steps last b.2)) = sm l fun a => sm l fun b => a.1 * b.1 * pk a.2 b.2 := sm_congr fun a ha => by
    rw [sm_map]
    exact sm_congr fun b hb => by rw [← lv a ha, ← lv b hb]
  rw [← e]; exact this
end IL

/-! middles of levels -/
namespace IL
open PySem L2
theorem psdF {f : Rat → Rat} {xs : List Rat} : Psd (xs.map fun x => (x, f x)) ↔ ∀ l : List (Rat × Rat), l.map (·.2) = xs → 0 ≤ fp f l := by
  have conv : ∀ l : List (Rat × Rat), fm (l.map fun a => (a.1, (a.2, f a.2))) = fp f l := fun l => by
    unfold fm fp
    rw [sm_map]
    exact sm_congr fun a _ => by rw [sm_map]
  constructor
  · intro h l hl
    rw [← conv]
    refine h _ ?_
    rw [List.map_map, ← hl, List.map_map]; rfl
  · intro h l hl
    have hx : l.map (fun a => a.2.1) = xs := by
      have := congrArg (List.map (·.1)) hl
      rw [List.map_map, List.map_map] at this
      have e : xs.map ((fun p : Rat × Rat => p.1) ∘ fun x => (x, f x)) = xs := by
        have : ((fun p : Rat × Rat => p.1) ∘ fun x => (x, f x)) = id := rfl
        rw [this, List.map_id]
      rw [e] at this; exact this
    have lv : ∀ a ∈ l, a.2 = (a.2.1, f a.2.1) := fun a ha => by
      have : a.2 ∈ xs.map fun x => (x, f x) := by rw [← hl]; exact List.mem_map_of_mem ha
      obtain ⟨x, _, e⟩ := List.mem_map.mp this
      rw [← e]
    have k := h (l.map fun a => (a.1, a.2.1)) (by rw [List.map_map]; exact hx)
    rw [← conv, List.map_map] at k
    have e : l.map ((fun a : Rat × Rat => (a.1, (a.2, f a.2))) ∘ fun a => (a.1, a.2.1)) = l := by
      conv => rhs; rw [← List.map_id l]
      refine List.map_congr_left fun a ha => ?_
      show (a.1, (a.2.1, f a.2.1)) = a
      rw [← lv a ha]
    rwa [e] at k
/-- levels between two that can be told can be told -/
theorem psd_mix {f g : Rat → Rat} {t : Rat} (t0 : 0 ≤ t) (t1 : t ≤ 1) {xs : List Rat} (hx : ∀ x ∈ xs, -1 < x ∧ x < 1) (hn : xs.Nodup) (hf : Psd (xs.map fun x => (x, f x))) (hg : Psd (xs.map fun x => (x, g x))) :
    Psd (xs.map fun x => (x, (1 - t) * f x + t * g x)) := by
  rw [psdF] at *
  intro l hl
  have h1 := hf l hl
  have h2 := hg l hl
  have h3 := fp_zero (l := l.map fun a => (a.1 * (f a.2 - g a.2), a.2)) (fun a ha => by obtain ⟨c, hc, rfl⟩ := List.mem_map.mp ha; exact hx _ (by rw [← hl]; exact List.mem_map.mpr ⟨c, hc, rfl⟩)) (by rw [List.map_map]; show (l.map fun a => a.2).Nodup; rw [hl]; exact hn)
  have e : fp (fun x => (1 - t) * f x + t * g x) l = (1 - t) * fp f l + (t * fp g l + t * (1 - t) * fp (fun _ => 0) (l.map fun a => (a.1 * (f a.2 - g a.2), a.2))) := by
    unfold fp
    rw [sm_map, ← sm_mul, ← sm_mul, ← sm_mul, ← sm_add, ← sm_add]
    refine sm_congr fun a _ => ?_
    rw [sm_map, ← sm_mul, ← sm_mul, ← sm_mul, ← sm_add, ← sm_add]
    refine sm_congr fun b _ => ?_
    simp only [pk]
    rw [Rat.div_def, Rat.div_def, Rat.div_def, Rat.div_def]; grind
  rw [e]
  have k1 := Rat.mul_nonneg (a := 1 - t) (by grind) h1
  have k2 := Rat.mul_nonneg t0 h2
  have k3 := Rat.mul_nonneg (Rat.mul_nonneg t0 (b := 1 - t) (by grind)) h3
  grind
/-- a smaller multiple of levels that can be told -/
theorem psd_scale {f : Rat → Rat} {t : Rat} (t0 : -1 ≤ t) (t1 : t ≤ 1) {xs : List Rat} (hx : ∀ x ∈ xs, -1 < x ∧ x < 1) (hn : xs.Nodup) (hf : Psd (xs.map fun x => (x, f x))) : Psd (xs.map fun x => (x, t * f x)) := by
  rw [psdF] at *
  intro l hl
  have h1 := hf l hl
  have h0 := fp_zero (l := l) (fun a ha => hx _ (by rw [← hl]; exact List.mem_map_of_mem ha)) (by rw [hl]; exact hn)
  have e : fp (fun x => t * f x) l = t * t * fp f l + (1 - t * t) * fp (fun _ => 0) l := by
    unfold fp
    rw [← sm_mul, ← sm_mul, ← sm_add]
    refine sm_congr fun a _ => ?_
    rw [← sm_mul, ← sm_mul, ← sm_add]
    refine sm_congr fun b _ => ?_
    simp only [pk]
    rw [Rat.div_def, Rat.div_def, Rat.div_def]; grind
  rw [e]
  have k1 := Rat.mul_nonneg (sq_nn t) h1
  have k2 := Rat.mul_nonneg (a := 1 - t * t) (by have := Rat.mul_nonneg (a := 1 - t) (b := 1 + t) (by grind) (by grind); grind) h0
  grind
/-- the ladder that is found goes through all points -/
theorem ladN_val : ∀ {n : Nat} {pts : List (Rat × Rat)} {z : List (Rat × Rat) × Rat}, ladN n pts = some z → PtsOk pts → ∀ {l : Rat}, (z.2 = 1 ∨ z.2 = -1 → l = z.2) → (-1 ≤ l ∧ l ≤ 1) → ∀ p ∈ pts, valQ z.1 l p.1 = p.2
  | _, [], z, _, _, l, _, _, p, hp => by cases hp
  | 0, _ :: _, z, h, _, _, _, _, _, _ => by simp [ladN] at h
  | n + 1, s :: r, z, h, ok, l, hl, hb, p, hp => by
    unfold ladN at h
    by_cases c : s.2 = 1 ∨ s.2 = -1
    · rw [if_pos c] at h
      split at h
      · rename_i d
        cases h
        simp only [valQ]
        rw [hl c]
        rcases List.mem_cons.mp hp with rfl | hp
        · rfl
        · have := List.all_eq_true.mp d p hp
          exact (of_decide_eq_true this).symm
      · cases h
    · rw [if_neg c] at h
      split at h
      · rename_i d
        rw [Option.map_eq_some_iff] at h
        obtain ⟨w, h1, rfl⟩ := h
        have okt := ok.tail d
        have s0 := ok.pl s (List.mem_cons_self ..)
        have s1' := ok.lv s (List.mem_cons_self ..)
        have s1 : -1 < s.2 ∧ s.2 < 1 := by grind
        simp only [valQ]
        rcases List.mem_cons.mp hp with rfl | hp
        · rw [turn_self]
          unfold liftQ
          rw [Rat.zero_mul, Rat.mul_zero, show p.2 + 0 = p.2 by grind, show (1 : Rat) + 0 = 1 by grind, Rat.div_def]; grind
        · have ih := ladN_val h1 okt hl hb (mvd s p) (List.mem_map_of_mem hp)
          have p0 := ok.pl p (List.mem_cons_of_mem _ hp)
          have p1 := ok.lv p (List.mem_cons_of_mem _ hp)
          simp only [mvd] at ih
          rw [ih]
          have nd := ok.nd
          rw [List.map_cons, List.nodup_cons] at nd
          have np : turnQ s.1 p.1 ≠ 0 := fun e => nd.1 (by rw [(turn_eq_zero s0.1 s0.2 p0.1 p0.2).mp e]; exact List.mem_map_of_mem hp)
          rw [Rat.mul_comm, Rat.div_mul_cancel np]
          -- lifted back
          have dn := pos_ne (one_sub_pos s1.1 s1.2 p1.1 p1.2)
          have t := turn_bd s1.1 s1.2 p1.1 p1.2
          have ne := pos_ne (one_add_pos s1.1 s1.2 t.1 t.2)
          have e1 := turn_def dn
          have e2 := lift_def ne
          have k := pos_ne (one_sq s1.1 s1.2)
          generalize turnQ s.2 p.2 = u at *
          generalize liftQ s.2 u = v at *
          refine sub_z (can_z (mul_ne (mul_ne ne dn) k) ?_)
          have f1 : (1 + s.2 * u) * (1 - s.2 * p.2) * (1 - s.2 * s.2) * (v - p.2) = (1 - s.2 * s.2) * ((v * (1 + s.2 * u)) * (1 - s.2 * p.2) - p.2 * ((1 - s.2 * p.2) + s.2 * (u * (1 - s.2 * p.2)))) := by grind
          rw [f1, e2]
          have f2 : (s.2 + u) * (1 - s.2 * p.2) = s.2 * (1 - s.2 * p.2) + u * (1 - s.2 * p.2) := by grind
          rw [f2, e1]; grind
      · cases h
end IL

/-! ranges -/
namespace IL
open PySem L2
/-- a step taken back -/
theorem mv_back {s p : Rat × Rat} (s0 : -1 < s.1 ∧ s.1 < 1) (s1 : -1 < s.2 ∧ s.2 < 1) (p0 : -1 < p.1 ∧ p.1 < 1) (p1 : -1 ≤ p.2 ∧ p.2 ≤ 1) (ne : s.1 ≠ p.1) : liftQ s.2 (turnQ s.1 p.1 * (mvd s p).2) = p.2 := by
  have np : turnQ s.1 p.1 ≠ 0 := fun e => ne ((turn_eq_zero s0.1 s0.2 p0.1 p0.2).mp e)
  simp only [mvd]
  rw [Rat.mul_comm, Rat.div_mul_cancel np]
  have dn := pos_ne (one_sub_pos s1.1 s1.2 p1.1 p1.2)
  have t := turn_bd s1.1 s1.2 p1.1 p1.2
  have ne := pos_ne (one_add_pos s1.1 s1.2 t.1 t.2)
  have e1 := turn_def dn
  have e2 := lift_def ne
  have k := pos_ne (one_sq s1.1 s1.2)
  generalize turnQ s.2 p.2 = u at *
  generalize liftQ s.2 u = v at *
  refine sub_z (can_z (mul_ne (mul_ne ne dn) k) ?_)
  have f1 : (1 + s.2 * u) * (1 - s.2 * p.2) * (1 - s.2 * s.2) * (v - p.2) = (1 - s.2 * s.2) * ((v * (1 + s.2 * u)) * (1 - s.2 * p.2) - p.2 * ((1 - s.2 * p.2) + s.2 * (u * (1 - s.2 * p.2)))) := by grind
  rw [f1, e2]
  have f2 : (s.2 + u) * (1 - s.2 * p.2) = s.2 * (1 - s.2 * p.2) + u * (1 - s.2 * p.2) := by grind
  rw [f2, e1]; grind
def mvl : List (Rat × Rat) → Rat × Rat → Rat × Rat
  | [], p => p
  | s :: r, p => mvl r (mvd s p)
theorem mvl_fst : ∀ {st : List (Rat × Rat)} {p : Rat × Rat}, (mvl st p).1 = p.1
  | [], _ => rfl
  | s :: r, p => by simp only [mvl]; rw [mvl_fst]; rfl
theorem PtsOk.left {a b : List (Rat × Rat)} (h : PtsOk (a ++ b)) : PtsOk a := ⟨fun x hx => h.pl x (List.mem_append_left _ hx), fun x hx => h.lv x (List.mem_append_left _ hx), by have := h.nd; rw [List.map_append] at this; exact (List.nodup_append.mp this).1⟩
theorem PtsOk.right {a b : List (Rat × Rat)} (h : PtsOk (a ++ b)) : PtsOk b := ⟨fun x hx => h.pl x (List.mem_append_right _ hx), fun x hx => h.lv x (List.mem_append_right _ hx), by have := h.nd; rw [List.map_append] at this; exact (List.nodup_append.mp this).2.1⟩
theorem PtsOk.hd {s : Rat × Rat} {r : List (Rat × Rat)} (ok : PtsOk (s :: r)) {p : Rat × Rat} (hp : p ∈ r) : s.1 ≠ p.1 := fun e => by
  have nd := ok.nd
  rw [List.map_cons, List.nodup_cons] at nd
  exact nd.1 (by rw [e]; exact List.mem_map_of_mem hp)
/-- what is told behind told points -/
theorem told_app {m : Nat} : ∀ (n : Nat) {pts R : List (Rat × Rat)} {z : List (Rat × Rat) × Rat}, pts.length = n → ladN n pts = some z → (ladN (n + m) (pts ++ R)).isSome = true → PtsOk (pts ++ R) →
    ((z.2 = 1 ∨ z.2 = -1) ∧ ∀ p ∈ R, valQ z.1 z.2 p.1 = p.2) ∨
    (¬ (z.2 = 1 ∨ z.2 = -1) ∧ (ladN m (R.map (mvl z.1))).isSome = true ∧ PtsOk (R.map (mvl z.1)) ∧ ∀ p ∈ R, valQ z.1 (mvl z.1 p).2 p.1 = p.2)
  | 0, [], R, z, _, h, ht, ok => by
    cases h
    refine .inr ⟨by decide, ?_, ?_, fun p hp => rfl⟩
    · have e : R.map (mvl []) = R := by
        conv => rhs; rw [← List.map_id R]
        exact List.map_congr_left fun a _ => rfl
      rw [e]; simpa using ht
    · have e : R.map (mvl []) = R := by
        conv => rhs; rw [← List.map_id R]
        exact List.map_congr_left fun a _ => rfl
      rw [e]; exact ok
  | n + 1, s :: r, R, z, hn, h, ht, ok => by
    rw [Nat.add_right_comm, List.cons_append] at ht
    rw [List.cons_append] at ok
    unfold ladN at h ht
    by_cases c : s.2 = 1 ∨ s.2 = -1
    · rw [if_pos c] at h ht
      split at h
      · cases h
        split at ht
        · rename_i d
          refine .inl ⟨c, fun p hp => ?_⟩
          have := of_decide_eq_true (List.all_eq_true.mp d p (List.mem_append_right _ hp))
          simp only [valQ]; exact this.symm
        · cases ht
      · cases h
    · rw [if_neg c] at h ht
      split at h
      · split at ht
        · rename_i d1 d2
          rw [Option.map_eq_some_iff] at h
          obtain ⟨w, h1, rfl⟩ := h
          rw [Option.isSome_map] at ht
          have okt := ok.tail d2
          rw [List.map_append] at ht okt
          have s0 := ok.pl s (List.mem_cons_self ..)
          have s1' := ok.lv s (List.mem_cons_self ..)
          have s1 : -1 < s.2 ∧ s.2 < 1 := by grind
          have back : ∀ p ∈ R, liftQ s.2 (turnQ s.1 p.1 * (mvd s p).2) = p.2 := fun p hp =>
            mv_back s0 s1 (ok.pl p (List.mem_cons_of_mem _ (List.mem_append_right _ hp))) (ok.lv p (List.mem_cons_of_mem _ (List.mem_append_right _ hp))) (ok.hd (List.mem_append_right _ hp))
          rcases told_app n (by simpa using hn) h1 ht okt with ⟨f, g⟩ | ⟨f, g1, g2, g3⟩
          · refine .inl ⟨f, fun p hp => ?_⟩
            have := g (mvd s p) (List.mem_map_of_mem hp)
            simp only [valQ]
            rw [show p.1 = (mvd s p).1 from rfl, this]
            exact back p hp
          · rw [List.map_map] at g1 g2
            refine .inr ⟨f, g1, g2, fun p hp => ?_⟩
            have := g3 (mvd s p) (List.mem_map_of_mem hp)
            simp only [valQ, mvl]
            rw [show p.1 = (mvd s p).1 from rfl, this]
            exact back p hp
        · cases ht
      · cases h
/-- the found ladder -/
theorem ladN_ok : ∀ {n : Nat} {pts : List (Rat × Rat)} {z : List (Rat × Rat) × Rat}, ladN n pts = some z → PtsOk pts → LadOk z.1 z.2 ∧ ∀ s ∈ z.1, ∃ p ∈ pts, p.1 = s.1
  | _, [], z, h, _ => by
    unfold ladN at h; cases h
    exact ⟨⟨nofun, by decide⟩, nofun⟩
  | 0, _ :: _, z, h, _ => by simp [ladN] at h
  | n + 1, s :: r, z, h, ok => by
    unfold ladN at h
    have s0 := ok.pl s (List.mem_cons_self ..)
    have s1' := ok.lv s (List.mem_cons_self ..)
    by_cases c : s.2 = 1 ∨ s.2 = -1
    · rw [if_pos c] at h
      split at h
      · cases h; exact ⟨⟨nofun, s1'⟩, nofun⟩
      · cases h
    · rw [if_neg c] at h
      split at h
      · rename_i d
        rw [Option.map_eq_some_iff] at h
        obtain ⟨w, h1, rfl⟩ := h
        have s1 : -1 < s.2 ∧ s.2 < 1 := by grind
        obtain ⟨i1, i2⟩ := ladN_ok h1 (ok.tail d)
        refine ⟨⟨fun y hy => ?_, i1.la⟩, fun y hy => ?_⟩
        · rcases List.mem_cons.mp hy with rfl | hy
          · exact ⟨s0, s1⟩
          · exact i1.st y hy
        · rcases List.mem_cons.mp hy with rfl | hy
          · exact ⟨y, List.mem_cons_self .., rfl⟩
          · obtain ⟨p, hp, e⟩ := i2 y hy
            obtain ⟨q, hq, rfl⟩ := List.mem_map.mp hp
            exact ⟨q, List.mem_cons_of_mem _ hq, e⟩
      · cases h
theorem lift_mono' {b s t : Rat} (b0 : -1 < b) (b1 : b < 1) (s0 : -1 ≤ s) (s1 : s ≤ 1) (t0 : -1 ≤ t) (t1 : t ≤ 1) (h : s < t) : liftQ b s < liftQ b t := by
  have d1 := one_add_pos b0 b1 s0 s1
  have d2 := one_add_pos b0 b1 t0 t1
  have p := Rat.mul_pos (a := t - s) (b := 1 - b * b) (by grind) (one_sq b0 b1)
  exact div_lt_div d1 d2 (by grind)
/-- the level at a place goes one way with the last level -/
theorem val_dir {x : Rat} (x0 : -1 < x) (x1 : x < 1) {last : Rat} : ∀ {st : List (Rat × Rat)}, LadOk st last → (∀ s ∈ st, s.1 ≠ x) →
    (∀ a b, -1 ≤ a → a < b → b ≤ 1 → valQ st a x < valQ st b x) ∨ (∀ a b, -1 ≤ a → a < b → b ≤ 1 → valQ st b x < valQ st a x)
  | [], _, _ => .inl fun a b _ h _ => h
  | s :: r, ok, hx => by
    obtain ⟨s0, s1⟩ := ok.st s (List.mem_cons_self ..)
    have t := turn_st s0.1 s0.2 x0 x1
    have tz : turnQ s.1 x ≠ 0 := fun e => hx s (List.mem_cons_self ..) ((turn_eq_zero s0.1 s0.2 x0 x1).mp e)
    have bd : ∀ a, -1 ≤ a → a ≤ 1 → -1 ≤ valQ r a x ∧ valQ r a x ≤ 1 := fun a h1 h2 => val_bd x0 x1 ⟨ok.tail.st, h1, h2⟩
    have mb : ∀ a, -1 ≤ a → a ≤ 1 → -1 ≤ turnQ s.1 x * valQ r a x ∧ turnQ s.1 x * valQ r a x ≤ 1 := fun a h1 h2 => mul_bd (Rat.le_of_lt t.1) (Rat.le_of_lt t.2) (bd a h1 h2).1 (bd a h1 h2).2
    simp only [valQ]
    generalize turnQ s.1 x = u at *
    have step : ∀ a b, -1 ≤ a → a ≤ 1 → -1 ≤ b → b ≤ 1 → u * valQ r a x < u * valQ r b x → liftQ s.2 (u * valQ r a x) < liftQ s.2 (u * valQ r b x) := fun a b a0 a1 b0 b1 h =>
      lift_mono' s1.1 s1.2 (mb a a0 a1).1 (mb a a0 a1).2 (mb b b0 b1).1 (mb b b0 b1).2 h
    have up : ∀ p q : Rat, p < q → 0 < u → u * p < u * q := fun p q h h2 => Rat.mul_lt_mul_of_pos_left h h2
    have dn : ∀ p q : Rat, p < q → u < 0 → u * q < u * p := fun p q h h2 => by
      have := Rat.mul_lt_mul_of_pos_left (a := p) (b := q) (c := -u) h (by grind)
      grind
    have um : 0 < u ∨ u < 0 := by grind
    rcases val_dir x0 x1 ok.tail (fun y hy => hx y (List.mem_cons_of_mem _ hy)) with d | d <;> rcases um with k | k
    · exact .inl fun a b h1 h2 h3 => step a b h1 (by grind) (by grind) h3 (up _ _ (d a b h1 h2 h3) k)
    · exact .inr fun a b h1 h2 h3 => step b a (by grind) h3 h1 (by grind) (dn _ _ (d a b h1 h2 h3) k)
    · exact .inr fun a b h1 h2 h3 => step b a (by grind) h3 h1 (by grind) (up _ _ (d a b h1 h2 h3) k)
    · exact .inl fun a b h1 h2 h3 => step a b h1 (by grind) (by grind) h3 (dn _ _ (d a b h1 h2 h3) k)
theorem lo_le_hi {z : List (Rat × Rat) × Rat} {x : Rat} : ¬ hiQ z x < loQ z x := by
  unfold loQ hiQ endsQ
  split
  · exact Rat.lt_irrefl
  · split
    · rename_i h; simp only; grind
    · rename_i h; exact h
theorem full_eq {z : List (Rat × Rat) × Rat} {x : Rat} (h : z.2 = 1 ∨ z.2 = -1) : loQ z x = valQ z.1 z.2 x ∧ hiQ z x = valQ z.1 z.2 x := by
  unfold loQ hiQ endsQ
  rw [if_pos h]; exact ⟨rfl, rfl⟩
/-- the ends, as levels of the ladders with the last levels -1 and 1 -/
theorem ends_cases {z : List (Rat × Rat) × Rat} {x : Rat} (h : ¬ (z.2 = 1 ∨ z.2 = -1)) : (loQ z x = valQ z.1 (-1) x ∧ hiQ z x = valQ z.1 1 x) ∨ (loQ z x = valQ z.1 1 x ∧ hiQ z x = valQ z.1 (-1) x) := by
  unfold loQ hiQ endsQ
  rw [if_neg h]
  split
  · exact .inr ⟨rfl, rfl⟩
  · exact .inl ⟨rfl, rfl⟩
theorem nodup_snoc {pts : List (Rat × Rat)} {x w : Rat} (h : PtsOk (pts ++ [(x, w)])) : ∀ p ∈ pts, p.1 ≠ x := fun p hp e => by
  have nd := h.nd
  rw [List.map_append] at nd
  exact (List.nodup_append.mp nd).2.2 p.1 (List.mem_map_of_mem hp) x (by simp) e
/-- what can be told lies in the range -/
theorem in_range {pts : List (Rat × Rat)} {z : List (Rat × Rat) × Rat} {x w : Rat} (hz : ladQ pts = some z) (ok : PtsOk (pts ++ [(x, w)])) (ht : Psd (pts ++ [(x, w)])) : loQ z x ≤ w ∧ w ≤ hiQ z x := by
  have ht2 := (told_iff ok).mpr ht
  unfold ladQ at ht2 hz
  rw [List.length_append] at ht2
  have okl := ok.left
  obtain ⟨lo, lp⟩ := ladN_ok hz okl
  have hx := ok.pl (x, w) (by simp)
  rcases told_app (m := 1) pts.length rfl hz ht2 ok with ⟨f, g⟩ | ⟨f, g1, g2, g3⟩
  · have := g (x, w) (by simp)
    obtain ⟨e1, e2⟩ := full_eq (x := x) f
    simp only at this
    rw [e1, e2, this]
    exact ⟨Rat.le_refl, Rat.le_refl⟩
  · have hw := g3 (x, w) (by simp)
    have lv := g2.lv (mvl z.1 (x, w)) (by simp)
    simp only at hw
    generalize (mvl z.1 (x, w)).2 = l at *
    have np : ∀ s ∈ z.1, s.1 ≠ x := fun s hs => by
      obtain ⟨p, hp, e⟩ := lp s hs
      rw [← e]; exact nodup_snoc ok p hp
    have key : ∀ a b, -1 ≤ a → a ≤ b → b ≤ 1 → (valQ z.1 a x ≤ valQ z.1 b x ∨ a = b) ∧ (valQ z.1 b x ≤ valQ z.1 a x ∨ a = b) ∨ True := fun _ _ _ _ _ => .inr trivial
    have m1 : valQ z.1 (-1) x ≤ w ∧ w ≤ valQ z.1 1 x ∨ valQ z.1 1 x ≤ w ∧ w ≤ valQ z.1 (-1) x := by
      rw [← hw]
      rcases val_dir hx.1 hx.2 lo np with d | d
      · refine .inl ⟨?_, ?_⟩
        · rcases Rat.le_iff_lt_or_eq.mp lv.1 with k | k
          · exact Rat.le_of_lt (d _ _ (by decide) k lv.2)
          · rw [k]; exact Rat.le_refl
        · rcases Rat.le_iff_lt_or_eq.mp lv.2 with k | k
          · exact Rat.le_of_lt (d _ _ lv.1 k (by decide))
          · rw [k]; exact Rat.le_refl
      · refine .inr ⟨?_, ?_⟩
        · rcases Rat.le_iff_lt_or_eq.mp lv.2 with k | k
          · exact Rat.le_of_lt (d _ _ lv.1 k (by decide))
          · rw [k]; exact Rat.le_refl
        · rcases Rat.le_iff_lt_or_eq.mp lv.1 with k | k
          · exact Rat.le_of_lt (d _ _ (by decide) k lv.2)
          · rw [k]; exact Rat.le_refl
    have ll := lo_le_hi (z := z) (x := x)
    rcases ends_cases (x := x) f with ⟨e1, e2⟩ | ⟨e1, e2⟩ <;> rw [e1, e2] at ll ⊢ <;> grind
/-- the levels between the ends can be told -/
theorem range_told {pts : List (Rat × Rat)} {z : List (Rat × Rat) × Rat} {x t : Rat} (hz : ladQ pts = some z) (ok : PtsOk pts) (hx : -1 < x ∧ x < 1) (nx : ∀ p ∈ pts, p.1 ≠ x) (t0 : 0 ≤ t) (t1 : t ≤ 1) :
    PtsOk (pts ++ [(x, loQ z x + t * (hiQ z x - loQ z x))]) ∧ Psd (pts ++ [(x, loQ z x + t * (hiQ z x - loQ z x))]) := by
  obtain ⟨lo, lp⟩ := ladN_ok hz ok
  obtain ⟨a, b, ha, hb, e1, e2⟩ : ∃ a b, ((-1 ≤ a ∧ a ≤ 1) ∧ (z.2 = 1 ∨ z.2 = -1 → a = z.2)) ∧ ((-1 ≤ b ∧ b ≤ 1) ∧ (z.2 = 1 ∨ z.2 = -1 → b = z.2)) ∧ loQ z x = valQ z.1 a x ∧ hiQ z x = valQ z.1 b x := by
    by_cases f : z.2 = 1 ∨ z.2 = -1
    · obtain ⟨e1, e2⟩ := full_eq (x := x) f
      exact ⟨z.2, z.2, ⟨lo.la, fun _ => rfl⟩, ⟨lo.la, fun _ => rfl⟩, e1, e2⟩
    · rcases ends_cases (x := x) f with ⟨e1, e2⟩ | ⟨e1, e2⟩
      · exact ⟨-1, 1, ⟨by decide, fun h => absurd h f⟩, ⟨by decide, fun h => absurd h f⟩, e1, e2⟩
      · exact ⟨1, -1, ⟨by decide, fun h => absurd h f⟩, ⟨by decide, fun h => absurd h f⟩, e1, e2⟩
  rw [e1, e2]
  have xs : ∀ y ∈ pts.map (·.1) ++ [x], -1 < y ∧ y < 1 := fun y hy => by
    rcases List.mem_append.mp hy with hy | hy
    · obtain ⟨p, hp, rfl⟩ := List.mem_map.mp hy; exact ok.pl p hp
    · simp at hy; subst hy; exact hx
  have nd : (pts.map (·.1) ++ [x]).Nodup := by
    refine List.nodup_append.mpr ⟨ok.nd, by simp, fun y hy w hw => ?_⟩
    obtain ⟨p, hp, rfl⟩ := List.mem_map.mp hy
    simp at hw; subst hw; exact nx p hp
  have pa := psd_lad ⟨lo.st, ha.1⟩ xs nd
  have pb := psd_lad ⟨lo.st, hb.1⟩ xs nd
  have pm := psd_mix t0 t1 xs nd pa pb
  have va := ladN_val hz ok ha.2 ha.1
  have vb := ladN_val hz ok hb.2 hb.1
  have e : (pts.map (·.1) ++ [x]).map (fun x => (x, (1 - t) * valQ z.1 a x + t * valQ z.1 b x)) = pts ++ [(x, valQ z.1 a x + t * (valQ z.1 b x - valQ z.1 a x))] := by
    rw [List.map_append, List.map_map]
    congr 1
    · conv => rhs; rw [← List.map_id pts]
      refine List.map_congr_left fun p hp => ?_
      show (p.1, (1 - t) * valQ z.1 a p.1 + t * valQ z.1 b p.1) = p
      rw [va p hp, vb p hp, show (1 - t) * p.2 + t * p.2 = p.2 by grind]
    · simp only [List.map_cons, List.map_nil]
      rw [show (1 - t) * valQ z.1 a x + t * valQ z.1 b x = valQ z.1 a x + t * (valQ z.1 b x - valQ z.1 a x) by grind]
  rw [e] at pm
  have ba := val_bd hx.1 hx.2 (steps := z.1) ⟨lo.st, ha.1⟩
  have bb := val_bd hx.1 hx.2 (steps := z.1) ⟨lo.st, hb.1⟩
  have m1 := Rat.mul_nonneg t0 (b := 1 - valQ z.1 b x) (by grind)
  have m2 := Rat.mul_nonneg t0 (b := valQ z.1 b x + 1) (by grind)
  have m3 := Rat.mul_nonneg (a := 1 - t) (b := 1 - valQ z.1 a x) (by grind) (by grind)
  have m4 := Rat.mul_nonneg (a := 1 - t) (b := valQ z.1 a x + 1) (by grind) (by grind)
  refine ⟨⟨fun p hp => ?_, fun p hp => ?_, ?_⟩, pm⟩
  · rcases List.mem_append.mp hp with hp | hp
    · exact ok.pl p hp
    · simp at hp; subst hp; exact hx
  · rcases List.mem_append.mp hp with hp | hp
    · exact ok.lv p hp
    · simp at hp; subst hp; simp only; constructor <;> grind
  · rw [List.map_append]; exact nd
/-- behind an end there is one level alone -/
theorem edge_one {pts : List (Rat × Rat)} {z : List (Rat × Rat) × Rat} {x w y v v' : Rat} (hz : ladQ pts = some z) (hw : w = loQ z x ∨ w = hiQ z x) (ok : PtsOk (pts ++ [(x, w), (y, v)])) (ok' : PtsOk (pts ++ [(x, w), (y, v')]))
    (ht : Psd (pts ++ [(x, w), (y, v)])) (ht' : Psd (pts ++ [(x, w), (y, v')])) : v = v' := by
  have one : ∀ {v : Rat}, PtsOk (pts ++ [(x, w), (y, v)]) → Psd (pts ++ [(x, w), (y, v)]) → ∃ l, (l = 1 ∨ l = -1) ∧ (z.2 = 1 ∨ z.2 = -1 → l = z.2) ∧ valQ z.1 l x = w ∧ valQ z.1 l y = v := by
    intro v ok ht
    have ht2 := (told_iff ok).mpr ht
    have okl := ok.left
    have hz' := hz
    unfold ladQ at ht2 hz'
    rw [List.length_append] at ht2
    obtain ⟨lo, lp⟩ := ladN_ok hz' okl
    have hx := ok.pl (x, w) (by simp)
    have nx : ∀ p ∈ pts, p.1 ≠ x := fun p hp e => by
      have nd := ok.nd
      rw [List.map_append] at nd
      exact (List.nodup_append.mp nd).2.2 p.1 (List.mem_map_of_mem hp) x (by simp) e
    have np : ∀ s ∈ z.1, s.1 ≠ x := fun s hs => by
      obtain ⟨p, hp, e⟩ := lp s hs
      rw [← e]; exact nx p hp
    rcases told_app (m := 2) pts.length rfl hz' ht2 ok with ⟨f, g⟩ | ⟨f, g1, g2, g3⟩
    · exact ⟨z.2, f, fun _ => rfl, g (x, w) (by simp), g (y, v) (by simp)⟩
    · have h1 := g3 (x, w) (by simp)
      have h2 := g3 (y, v) (by simp)
      have lv := g2.lv (mvl z.1 (x, w)) (by simp)
      simp only at h1 h2
      have inj : ∀ a b, -1 ≤ a → a ≤ 1 → -1 ≤ b → b ≤ 1 → valQ z.1 a x = valQ z.1 b x → a = b := fun a b a0 a1 b0 b1 e => by
        rcases tri a b with k | k | k
        · rcases val_dir hx.1 hx.2 lo np with d | d
          · have := d a b a0 k b1; rw [e] at this; exact absurd this Rat.lt_irrefl
          · have := d a b a0 k b1; rw [e] at this; exact absurd this Rat.lt_irrefl
        · exact k
        · rcases val_dir hx.1 hx.2 lo np with d | d
          · have := d b a b0 k a1; rw [e] at this; exact absurd this Rat.lt_irrefl
          · have := d b a b0 k a1; rw [e] at this; exact absurd this Rat.lt_irrefl
      obtain ⟨l, hl, el⟩ : ∃ l, (l = 1 ∨ l = -1) ∧ w = valQ z.1 l x := by
        rcases ends_cases (x := x) f with ⟨e1, e2⟩ | ⟨e1, e2⟩ <;> rw [e1, e2] at hw <;> rcases hw with h | h
        · exact ⟨-1, .inr rfl, h⟩
        · exact ⟨1, .inl rfl, h⟩
        · exact ⟨1, .inl rfl, h⟩
        · exact ⟨-1, .inr rfl, h⟩
      have e3 : (mvl z.1 (x, w)).2 = l := inj _ _ lv.1 lv.2 (by rcases hl with rfl | rfl <;> decide) (by rcases hl with rfl | rfl <;> decide) (h1.trans el)
      have e4 : (mvl z.1 (y, v)).2 = l := by
        simp only [List.map_cons, List.map_nil] at g1
        unfold ladN at g1
        rw [e3, if_pos hl] at g1
        split at g1
        · rename_i d
          simpa using d
        · cases g1
      rw [e3] at h1
      rw [e4] at h2
      exact ⟨l, hl, fun h => absurd h f, h1, h2⟩
  obtain ⟨l, a1, a2, a3, a4⟩ := one ok ht
  obtain ⟨l', b1, b2, b3, b4⟩ := one ok' ht'
  have e : l = l' := by
    by_cases f : z.2 = 1 ∨ z.2 = -1
    · rw [a2 f, b2 f]
    · have hx := ok.pl (x, w) (by simp)
      obtain ⟨lo, lp⟩ := ladN_ok hz ok.left
      have nx : ∀ p ∈ pts, p.1 ≠ x := fun p hp e => by
        have nd := ok.nd
        rw [List.map_append] at nd
        exact (List.nodup_append.mp nd).2.2 p.1 (List.mem_map_of_mem hp) x (by simp) e
      have np : ∀ s ∈ z.1, s.1 ≠ x := fun s hs => by
        obtain ⟨p, hp, e⟩ := lp s hs
        rw [← e]; exact nx p hp
      have lt : valQ z.1 (-1) x < valQ z.1 1 x ∨ valQ z.1 1 x < valQ z.1 (-1) x := by
        rcases val_dir hx.1 hx.2 lo np with d | d
        · exact .inl (d (-1) 1 (by decide) (by decide) (by decide))
        · exact .inr (d (-1) 1 (by decide) (by decide) (by decide))
      rcases a1 with rfl | rfl <;> rcases b1 with rfl | rfl
      · rfl
      · rw [a3, b3] at lt; rcases lt with h | h <;> exact absurd h Rat.lt_irrefl
      · rw [a3, b3] at lt; rcases lt with h | h <;> exact absurd h Rat.lt_irrefl
      · rfl
  rw [← a4, ← b4, e]
/-- sizes on the way of the found ladder -/
theorem lad_sz {k : Nat} {x l : Rat} (hx : bz x ≤ k) (hl : bz l ≤ 1) : ∀ (n : Nat) {m b : Nat} {pts : List (Rat × Rat)} {z : List (Rat × Rat) × Rat}, ladN n pts = some z → (∀ p ∈ pts, bz p.1 ≤ k ∧ bz p.2 ≤ b) → pts.length ≤ m → (b + 2 * k + 2) * 2 ^ m ≤ 6000000 →
    VSz z.1 l x ∧ bz (valQ z.1 l x) + b ≤ 1 + (b + 2 * k + 2) * 2 ^ m
  | n, m, b, [], z, h, _, _, hb => by
    have : z = ([], 0) := by cases n <;> (unfold ladN at h; cases h; rfl)
    subst this
    have : 1 ≤ 2 ^ m := Nat.one_le_two_pow
    have := Nat.mul_le_mul_left (b + 2 * k + 2) this
    exact ⟨trivial, by simp only [valQ]; omega⟩
  | 0, _, _, _ :: _, z, h, _, _, _ => by simp [ladN] at h
  | n + 1, m, b, s :: r, z, h, hs, hm, hb => by
    have : 1 ≤ 2 ^ m := Nat.one_le_two_pow
    have := Nat.mul_le_mul_left (b + 2 * k + 2) this
    unfold ladN at h
    by_cases c : s.2 = 1 ∨ s.2 = -1
    · rw [if_pos c] at h
      split at h
      · cases h
        exact ⟨trivial, by simp only [valQ]; omega⟩
      · cases h
    · rw [if_neg c] at h
      split at h
      · rw [Option.map_eq_some_iff] at h
        obtain ⟨w, h1, rfl⟩ := h
        obtain ⟨m, rfl⟩ : ∃ m', m = m' + 1 := ⟨m - 1, by simp at hm; omega⟩
        have e : (b + 2 * k + 2) * 2 ^ (m + 1) = (2 * b + 2 * k + 2 + 2 * k + 2) * 2 ^ m := by rw [Nat.pow_succ]; grind
        obtain ⟨b1, b2⟩ := hs s (List.mem_cons_self ..)
        obtain ⟨i1, i2⟩ := lad_sz hx hl n (m := m) (b := 2 * b + 2 * k + 2) h1 (fun p hp => by
          obtain ⟨q, hq, rfl⟩ := List.mem_map.mp hp
          obtain ⟨q1, q2⟩ := hs q (List.mem_cons_of_mem _ hq)
          have := bz_mvd (s := s) (p := q)
          exact ⟨q1, by omega⟩) (by simpa using hm) (by rw [← e]; exact hb)
        rw [e] at hb
        have j1 := bz_turn1 s.1 x
        have j2 := bz_mul (turnQ s.1 x) (valQ w.1 l x)
        have j3 := bz_lift1 s.2 (turnQ s.1 x * valQ w.1 l x)
        refine ⟨⟨by omega, by omega, by omega, i1⟩, ?_⟩
        rw [e]
        simp only [valQ]
        omega
      · cases h
/-- a further point, in its order -/
theorem psd_of {A B : List (Rat × Rat)} (ok : PtsOk A) (h : Psd A) (hs : ∀ q ∈ B, q ∈ A) : Psd B := psd_sub ok.nodup h hs
end IL

/-! a point more -/
namespace IL
open PySem L2
section
variable {Φ : Str → Spec} {C : Str → Option D} {U : Str → Str → Option Bool} {μ : Store} {P : DQ} {X : XQ} {ds : List D}
def unst : D → Rat
  | .tup [x, _] => unfr x
  | _ => 0
theorem unst_st (s : Rat × Rat) : unst (stD s) = s.1 := unfr_fr s.1
theorem idx_st0 {s : Rat × Rat} {Q : DQ} : idxS (stD s) (.int 0) μ Q ↔ Q (fr s.1) μ := by
  unfold stD; rw [idxS_t]; simp [at2_0]
theorem idx_st1 {s : Rat × Rat} {Q : DQ} : idxS (stD s) (.int 1) μ Q ↔ Q (fr s.2) μ := by
  unfold stD; rw [idxS_t]; simp [at2_1]
def withP (pts : List (Rat × Rat)) (x w : Rat) : List (Rat × Rat) := pts.filter (fun p => decide (p.1 < x)) ++ [(x, w)] ++ pts.filter fun p => decide (x < p.1)
def sp_with_point : Spec := fun ds μ P X => ∃ pts x w, ds = [.tup (pts.map stD), fr x, fr w] ∧ pts.length ≤ 1000 ∧ (∀ p ∈ pts, bz p.1 + bz x ≤ 100000000) ∧ P (.tup ((withP pts x w).map stD)) μ
theorem filter_st {pts : List (Rat × Rat)} (p : Rat → Bool) : (pts.map stD).filter (fun d => p (unst d)) = (pts.filter fun s => p s.1).map stD := by
  rw [List.filter_map]
  congr 1
  refine List.filter_congr fun s _ => ?_
  show p (unst (stD s)) = _
  rw [unst_st]
theorem filter_len (pts : List (Rat × Rat)) (p : Rat × Rat → Bool) : (pts.filter p).length ≤ pts.length := List.length_filter_le _ _
theorem b_with_point (st : Stmt) (h1 : Has Φ "less" sp_less) (h : sp_with_point ds μ P X) : BodyOk Φ C U (d_with_point st) ds μ P X := by
  obtain ⟨pts, x, w, rfl, hl, hz, h⟩ := h
  refine ⟨rfl, ?_⟩
  show wSs Φ C U il_with_point [some (.tup (pts.map stD)), some (fr x), some (fr w), none, none] μ _
  have zz : (100001 : Nat) ≤ sizeLine := by decide
  simp only [il_with_point, wSs, wS, wE, wEs, wHs, IL.g0, IL.g1, IL.s0, IL.s1, Option.some.injEq, exists_eq_left', exists_eq_left, IL.ex2, IL.ex3, and_true, true_and, isNop, IL.pWn, IL.pWs, tW, Bool.false_eq_true, if_true, if_false, D.int.injEq, D.bl.injEq, D.str.injEq, D.tup.injEq, D.lst.injEq, D.ref.injEq, setMany, bopS_add, bopS_sub, bopS_mul, bopS_fdiv, bopS_mod, bopS_addt, copS_lt, copS_le, copS_gt, copS_ge, copS_eqi, copS_nei, copS_isN, copS_isnN, bfS_lent, bfS_abs, bfS_max, bfS_min, bfS_int, decide_eq_true_eq, Bool.not_eq_true', decide_eq_false_iff_not, idxS_t, at2_0, at2_1, isi_int, isi_bl, isi_non, isi_str, isi_tup, isi_lst, reduceCtorEq, decide_false, decide_true, Bool.not_true, Bool.not_false, or_false, false_or, or_true, true_or, ite_self, setiR, idxS_l, bfS_lenl, bfS_lists, bfS_listt, slcS_t, slcS_l, slcS_s, newL_f, newL_t, at5_0, at5_1, at5_2, at5_3, at5_4, ix5_1, ix5_2, ix5_3, copS_neb, copS_eqb, copS_isB, idx_fr0, idx_fr1, Ob.lst.injEq, List.set_set]
  simp only [cp_with_point_0, itW, itS, wSs, wS, wE, wEs, wHs, IL.g0, IL.g1, IL.s0, IL.s1, Option.some.injEq, exists_eq_left', exists_eq_left, IL.ex2, IL.ex3, and_true, true_and, isNop, IL.pWn, IL.pWs, tW, Bool.false_eq_true, if_true, if_false, D.int.injEq, D.bl.injEq, D.str.injEq, D.tup.injEq, D.lst.injEq, D.ref.injEq, setMany, bopS_add, bopS_sub, bopS_mul, bopS_fdiv, bopS_mod, bopS_addt, copS_lt, copS_le, copS_gt, copS_ge, copS_eqi, copS_nei, copS_isN, copS_isnN, bfS_lent, bfS_abs, bfS_max, bfS_min, bfS_int, decide_eq_true_eq, Bool.not_eq_true', decide_eq_false_iff_not, idxS_t, at2_0, at2_1, isi_int, isi_bl, isi_non, isi_str, isi_tup, isi_lst, reduceCtorEq, decide_false, decide_true, Bool.not_true, Bool.not_false, or_false, false_or, or_true, true_or, ite_self, setiR, idxS_l, bfS_lenl, bfS_lists, bfS_listt, slcS_t, slcS_l, slcS_s, newL_f, newL_t, at5_0, at5_1, at5_2, at5_3, at5_4, ix5_1, ix5_2, ix5_3, copS_neb, copS_eqb, copS_isB, idx_fr0, idx_fr1, Ob.lst.injEq, List.set_set]
  refine ⟨_, rfl, comp_pure (fun d => decide (unst d < x)) id trivial (by rw [List.length_map]; omega) (fun i d hd => ?_) ?_⟩
  · obtain ⟨s, _, hs, rfl⟩ := stD_at hd
    show _ ∧ _
    simp only [wipeD, Tg.slots, wSs, wS, wE, wEs, wHs, IL.g0, IL.g1, IL.s0, IL.s1, Option.some.injEq, exists_eq_left', exists_eq_left, IL.ex2, IL.ex3, and_true, true_and, isNop, IL.pWn, IL.pWs, tW, Bool.false_eq_true, if_true, if_false, D.int.injEq, D.bl.injEq, D.str.injEq, D.tup.injEq, D.lst.injEq, D.ref.injEq, setMany, bopS_add, bopS_sub, bopS_mul, bopS_fdiv, bopS_mod, bopS_addt, copS_lt, copS_le, copS_gt, copS_ge, copS_eqi, copS_nei, copS_isN, copS_isnN, bfS_lent, bfS_abs, bfS_max, bfS_min, bfS_int, decide_eq_true_eq, Bool.not_eq_true', decide_eq_false_iff_not, idxS_t, at2_0, at2_1, isi_int, isi_bl, isi_non, isi_str, isi_tup, isi_lst, reduceCtorEq, decide_false, decide_true, Bool.not_true, Bool.not_false, or_false, false_or, or_true, true_or, ite_self, setiR, idxS_l, bfS_lenl, bfS_lists, bfS_listt, slcS_t, slcS_l, slcS_s, newL_f, newL_t, at5_0, at5_1, at5_2, at5_3, at5_4, ix5_1, ix5_2, ix5_3, copS_neb, copS_eqb, copS_isB, idx_fr0, idx_fr1, Ob.lst.injEq, List.set_set]
    refine ⟨fun R X' hR => ?_, fun _ R X' hR => hR⟩
    rw [unst_st] at hR
    exact idx_st0.mpr (h1 _ _ _ _ ⟨s.1, x, rfl, hz s hs, hR⟩)
  · rw [List.map_id, filter_st fun y => decide (y < x)]
    have f1 := filter_len pts fun p => decide (p.1 < x)
    have f2 := filter_len pts fun p => decide (x < p.1)
    refine ⟨by rw [List.length_map]; omega, _, rfl, (show 2 ≤ sizeLine by decide), (show 1 ≤ sizeLine by decide), by rw [List.length_map]; show _ + 1 ≤ sizeLine; omega, ?_⟩
    simp only [cp_with_point_1, itW, itS, wSs, wS, wE, wEs, wHs, IL.g0, IL.g1, IL.s0, IL.s1, Option.some.injEq, exists_eq_left', exists_eq_left, IL.ex2, IL.ex3, and_true, true_and, isNop, IL.pWn, IL.pWs, tW, Bool.false_eq_true, if_true, if_false, D.int.injEq, D.bl.injEq, D.str.injEq, D.tup.injEq, D.lst.injEq, D.ref.injEq, setMany, bopS_add, bopS_sub, bopS_mul, bopS_fdiv, bopS_mod, bopS_addt, copS_lt, copS_le, copS_gt, copS_ge, copS_eqi, copS_nei, copS_isN, copS_isnN, bfS_lent, bfS_abs, bfS_max, bfS_min, bfS_int, decide_eq_true_eq, Bool.not_eq_true', decide_eq_false_iff_not, idxS_t, at2_0, at2_1, isi_int, isi_bl, isi_non, isi_str, isi_tup, isi_lst, reduceCtorEq, decide_false, decide_true, Bool.not_true, Bool.not_false, or_false, false_or, or_true, true_or, ite_self, setiR, idxS_l, bfS_lenl, bfS_lists, bfS_listt, slcS_t, slcS_l, slcS_s, newL_f, newL_t, at5_0, at5_1, at5_2, at5_3, at5_4, ix5_1, ix5_2, ix5_3, copS_neb, copS_eqb, copS_isB, idx_fr0, idx_fr1, Ob.lst.injEq, List.set_set]
    refine ⟨_, rfl, comp_pure (fun d => decide (x < unst d)) id trivial (by rw [List.length_map]; omega) (fun i d hd => ?_) ?_⟩
    · obtain ⟨s, _, hs, rfl⟩ := stD_at hd
      show _ ∧ _
      simp only [wipeD, Tg.slots, wSs, wS, wE, wEs, wHs, IL.g0, IL.g1, IL.s0, IL.s1, Option.some.injEq, exists_eq_left', exists_eq_left, IL.ex2, IL.ex3, and_true, true_and, isNop, IL.pWn, IL.pWs, tW, Bool.false_eq_true, if_true, if_false, D.int.injEq, D.bl.injEq, D.str.injEq, D.tup.injEq, D.lst.injEq, D.ref.injEq, setMany, bopS_add, bopS_sub, bopS_mul, bopS_fdiv, bopS_mod, bopS_addt, copS_lt, copS_le, copS_gt, copS_ge, copS_eqi, copS_nei, copS_isN, copS_isnN, bfS_lent, bfS_abs, bfS_max, bfS_min, bfS_int, decide_eq_true_eq, Bool.not_eq_true', decide_eq_false_iff_not, idxS_t, at2_0, at2_1, isi_int, isi_bl, isi_non, isi_str, isi_tup, isi_lst, reduceCtorEq, decide_false, decide_true, Bool.not_true, Bool.not_false, or_false, false_or, or_true, true_or, ite_self, setiR, idxS_l, bfS_lenl, bfS_lists, bfS_listt, slcS_t, slcS_l, slcS_s, newL_f, newL_t, at5_0, at5_1, at5_2, at5_3, at5_4, ix5_1, ix5_2, ix5_3, copS_neb, copS_eqb, copS_isB, idx_fr0, idx_fr1, Ob.lst.injEq, List.set_set]
      refine ⟨fun R X' hR => ?_, fun _ R X' hR => hR⟩
      rw [unst_st] at hR
      exact idx_st0.mpr (h1 _ _ _ _ ⟨x, s.1, rfl, by have := hz s hs; omega, hR⟩)
    · rw [List.map_id, filter_st fun y => decide (x < y)]
      refine ⟨by rw [List.length_map]; omega, _, rfl, by rw [List.length_append, List.length_map, List.length_map]; show _ + 1 + _ ≤ sizeLine; omega, .inl ?_⟩
      have e : (withP pts x w).map stD = (pts.filter fun s => decide (s.1 < x)).map stD ++ [.tup [fr x, fr w]] ++ (pts.filter fun s => decide (x < s.1)).map stD := by
        simp [withP, stD]
      rw [← e]; exact h
end
end IL

/-! drawn places -/
namespace IL
open PySem L2
structure PlS (most : Nat) (xs : List Rat) : Prop where
  nd : xs.Nodup
  pl : ∀ x ∈ xs, (-1 < x ∧ x < 1) ∧ bz x ≤ 3
  n : xs.length ≤ most
theorem swap_nodup {xs : List Rat} {i j : Nat} (hi : i < xs.length) (hj : j < xs.length) (h : xs.Nodup) : ((xs.set i xs[j]).set j xs[i]).Nodup := by
  rw [List.nodup_iff_pairwise_ne, List.pairwise_iff_getElem] at *
  intro a b ha hb hab
  simp only [List.length_set] at ha hb
  have inj : ∀ (u v : Nat) (hu : u < xs.length) (hv : v < xs.length), xs[u] = xs[v] → u = v := fun u v hu hv e => by
    rcases Nat.lt_trichotomy u v with c | c | c
    · exact absurd e (h u v hu hv c)
    · exact c
    · exact absurd e.symm (h v u hv hu c)
  simp only [List.getElem_set]
  intro e
  by_cases a1 : j = a <;> by_cases b1 : j = b <;> by_cases a2 : i = a <;> by_cases b2 : i = b <;> simp only [a1, b1, a2, b2, if_true, if_false] at e <;> first | omega | (have := inj _ _ _ _ e; omega) | grind
theorem swap_mem {xs : List Rat} {i j : Nat} (hi : i < xs.length) (hj : j < xs.length) {x : Rat} (h : x ∈ (xs.set i xs[j]).set j xs[i]) : x ∈ xs := by
  rcases List.mem_or_eq_of_mem_set h with h | rfl
  · rcases List.mem_or_eq_of_mem_set h with h | rfl
    · exact h
    · exact List.getElem_mem _
  · exact List.getElem_mem _
section
variable {Φ : Str → Spec} {C : Str → Option D} {U : Str → Str → Option Bool} {μ : Store} {P : DQ} {X : XQ} {ds : List D}
theorem ap_get {m : Nat} {o o' x : Ob} (h : μ[m]? = some o) : (μ.set m o' ++ [x])[m]? = some o' := by
  rw [List.getElem?_append_left (by rw [List.length_set]; exact get_of h)]; exact gs_of h o'
theorem ap_set {m : Nat} {o o' o2 x : Ob} (h : μ[m]? = some o) : (μ.set m o' ++ [x]).set m o2 = μ.set m o2 ++ [x] := by
  rw [List.set_append_left _ _ (by rw [List.length_set]; exact get_of h), List.set_set]
theorem ap_last {m : Nat} {o' x : Ob} : (μ.set m o' ++ [x])[μ.length]? = some x := by
  rw [List.getElem?_append_right (by rw [List.length_set]; exact Nat.le_refl _), List.length_set, Nat.sub_self]; rfl
theorem ap_setl {m : Nat} {o' x y : Ob} : (μ.set m o' ++ [x]).set μ.length y = μ.set m o' ++ [y] := by
  have : (μ.set m o').length = μ.length := List.length_set ..
  rw [← this, List.set_append_right _ _ (Nat.le_refl _), Nat.sub_self]; rfl
theorem nin_fr {xs : List Rat} {y : Rat} {x : D} {Q : DQ} (h : seqA μ x = some (xs.map fr)) (hQ : Q (.bl (!decide (y ∈ xs))) μ) : copS .nin (fr y) x μ Q := by
  refine ⟨_, h, ok_fr y, ⟨lay_tup fun d hd => ?_, ?_⟩, ?_⟩
  · obtain ⟨z, _, rfl⟩ := List.mem_map.mp hd; exact (ok_fr z).1
  · have : ∀ l : List Rat, D.deps (l.map fr) ≤ 1 := by
      intro l
      induction l with
      | nil => simp [D.deps]
      | cons a l ih => have := dep_fr a; simp only [List.map_cons, D.deps]; omega
    have := this xs
    simp only [D.dep]; omega
  · have e : ((xs.map fr).any fun z => D.eqv z (fr y)) = decide (y ∈ xs) := by
      rw [Bool.eq_iff_iff, List.any_eq_true, decide_eq_true_eq]
      constructor
      · rintro ⟨d, hd, he⟩
        obtain ⟨z, hz, rfl⟩ := List.mem_map.mp hd
        rw [eqv_fr, decide_eq_true_eq] at he
        rw [← he]; exact hz
      · intro hy
        exact ⟨fr y, List.mem_map_of_mem hy, by rw [eqv_fr]; simp⟩
    rw [e]; exact hQ
theorem w_places0 {m c most : Nat} {o : Ob} {K : Ctl} (h1 : Has Φ "_law_draw" sp_draw) (h2 : Has Φ "_law_place" sp_place) (hμ : μ[m]? = some o) (hp : Pool c o) (hm : most ≤ 1000) (hc : c + 10000 < 2 ^ 64)
    (h : ∀ (xs : List Rat) (o' : Ob) (k p : Option D), PlS most xs → Pool (c + 2 * most + 1) o' → K.nx [some (.ref m), some (.int (most : Nat)), some (.ref μ.length), k, none, p] (μ.set m o' ++ [.lst (xs.map fr)])) :
    wS Φ C U lp_law_places_0 [some (.ref m), some (.int (most : Nat)), some (.ref μ.length), none, none, none] (μ ++ [.lst []]) K := by
  have zz : (100001 : Nat) ≤ sizeLine := by decide
  simp only [lp_law_places_0, itW, itS, wSs, wS, wE, wEs, wHs, IL.g0, IL.g1, IL.s0, IL.s1, Option.some.injEq, exists_eq_left', exists_eq_left, IL.ex2, IL.ex3, and_true, true_and, isNop, IL.pWn, IL.pWs, tW, Bool.false_eq_true, if_true, if_false, D.int.injEq, D.bl.injEq, D.str.injEq, D.tup.injEq, D.lst.injEq, D.ref.injEq, setMany, bopS_add, bopS_sub, bopS_mul, bopS_fdiv, bopS_mod, bopS_addt, copS_lt, copS_le, copS_gt, copS_ge, copS_eqi, copS_nei, copS_isN, copS_isnN, bfS_lent, bfS_abs, bfS_max, bfS_min, bfS_int, decide_eq_true_eq, Bool.not_eq_true', decide_eq_false_iff_not, idxS_t, at2_0, at2_1, isi_int, isi_bl, isi_non, isi_str, isi_tup, isi_lst, reduceCtorEq, decide_false, decide_true, Bool.not_true, Bool.not_false, or_false, false_or, or_true, true_or, ite_self, setiR, idxS_l, bfS_lenl, bfS_lists, bfS_listt, slcS_t, slcS_l, slcS_s, newL_f, newL_t, at5_0, at5_1, at5_2, at5_3, at5_4, ix5_1, ix5_2, ix5_3, copS_neb, copS_eqb, copS_isB, idx_fr0, idx_fr1, Ob.lst.injEq, List.set_set]
  have hμ0 : (μ ++ [Ob.lst []])[m]? = some o := by rw [List.getElem?_append_left (get_of hμ)]; exact hμ
  refine h1 _ _ _ _ ⟨m, _, c, o, rfl, by omega, by omega, hμ0, hp, by omega, fun k o1 k0 k1 hp1 => ?_⟩
  refine ⟨_, rfl, by omega, by omega, ?_⟩
  have hkm : k.toNat ≤ most := by omega
  generalize k.toNat = kk at *
  rw [List.set_append_left _ _ (get_of hμ)]
  refine loop_rule (fun i ρ μ' => ∃ (xs : List Rat) (o' : Ob) (k p : Option D), ρ = [some (.ref m), some (.int (most : Nat)), some (.ref μ.length), k, none, p] ∧ μ' = μ.set m o' ++ [.lst (xs.map fr)] ∧ PlS i xs ∧ i ≤ kk ∧ Pool (c + 1 + 2 * i) o')
    (fun i d ρ μ' hd ⟨xs, o', k, p, e1, e2, hx, hik, hp'⟩ => ⟨trivial, ?_⟩) (fun ρ μ' ⟨xs, o', k, p, e1, e2, hx, hik, hp'⟩ => ⟨trivial, ?_⟩) ⟨[], o1, none, none, rfl, rfl, ⟨List.nodup_nil, fun _ h => (nomatch h), Nat.zero_le _⟩, Nat.zero_le _, hp1⟩
  · obtain ⟨rfl, hi⟩ := rng_at hd
    subst e1 e2
    intro N hN
    simp only [wSs, wS, wE, wEs, wHs, IL.g0, IL.g1, IL.s0, IL.s1, Option.some.injEq, exists_eq_left', exists_eq_left, IL.ex2, IL.ex3, and_true, true_and, isNop, IL.pWn, IL.pWs, tW, Bool.false_eq_true, if_true, if_false, D.int.injEq, D.bl.injEq, D.str.injEq, D.tup.injEq, D.lst.injEq, D.ref.injEq, setMany, bopS_add, bopS_sub, bopS_mul, bopS_fdiv, bopS_mod, bopS_addt, copS_lt, copS_le, copS_gt, copS_ge, copS_eqi, copS_nei, copS_isN, copS_isnN, bfS_lent, bfS_abs, bfS_max, bfS_min, bfS_int, decide_eq_true_eq, Bool.not_eq_true', decide_eq_false_iff_not, idxS_t, at2_0, at2_1, isi_int, isi_bl, isi_non, isi_str, isi_tup, isi_lst, reduceCtorEq, decide_false, decide_true, Bool.not_true, Bool.not_false, or_false, false_or, or_true, true_or, ite_self, setiR, idxS_l, bfS_lenl, bfS_lists, bfS_listt, slcS_t, slcS_l, slcS_s, newL_f, newL_t, at5_0, at5_1, at5_2, at5_3, at5_4, ix5_1, ix5_2, ix5_3, copS_neb, copS_eqb, copS_isB, idx_fr0, idx_fr1, Ob.lst.injEq, List.set_set]
    refine h2 _ _ _ _ ⟨m, _, o', rfl, ap_get hμ, hp', by omega, fun q o2 q0 q1 qz hp2 => ?_⟩
    rw [ap_set hμ]
    have sq : seqA (μ.set m o2 ++ [Ob.lst (xs.map fr)]) (.ref μ.length) = some (xs.map fr) := by
      show (match (_ : Store)[(_ : Nat)]? with | some (.lst l) => some l | _ => none) = some (xs.map fr)
      rw [ap_last]
    refine nin_fr sq ?_
    simp only [wSs, wS, wE, wEs, wHs, IL.g0, IL.g1, IL.s0, IL.s1, Option.some.injEq, exists_eq_left', exists_eq_left, IL.ex2, IL.ex3, and_true, true_and, isNop, IL.pWn, IL.pWs, tW, Bool.false_eq_true, if_true, if_false, D.int.injEq, D.bl.injEq, D.str.injEq, D.tup.injEq, D.lst.injEq, D.ref.injEq, setMany, bopS_add, bopS_sub, bopS_mul, bopS_fdiv, bopS_mod, bopS_addt, copS_lt, copS_le, copS_gt, copS_ge, copS_eqi, copS_nei, copS_isN, copS_isnN, bfS_lent, bfS_abs, bfS_max, bfS_min, bfS_int, decide_eq_true_eq, Bool.not_eq_true', decide_eq_false_iff_not, idxS_t, at2_0, at2_1, isi_int, isi_bl, isi_non, isi_str, isi_tup, isi_lst, reduceCtorEq, decide_false, decide_true, Bool.not_true, Bool.not_false, or_false, false_or, or_true, true_or, ite_self, setiR, idxS_l, bfS_lenl, bfS_lists, bfS_listt, slcS_t, slcS_l, slcS_s, newL_f, newL_t, at5_0, at5_1, at5_2, at5_3, at5_4, ix5_1, ix5_2, ix5_3, copS_neb, copS_eqb, copS_isB, idx_fr0, idx_fr1, Ob.lst.injEq, List.set_set]
    by_cases c1 : q ∈ xs
    · rw [if_neg (by simpa using c1)]
      exact hN _ _ ⟨xs, o2, _, _, rfl, rfl, ⟨hx.nd, hx.pl, by have := hx.n; omega⟩, hi, hp2.mono (by omega)⟩
    · rw [if_pos (by simpa using c1)]
      refine ⟨⟨_, ap_last⟩, _, ap_last, by rw [List.length_map]; have := hx.n; omega, ?_⟩
      rw [ap_setl]
      refine hN _ _ ⟨xs ++ [q], o2, _, _, rfl, by simp, ⟨?_, fun x hx' => ?_, by rw [List.length_append]; have := hx.n; simp; omega⟩, hi, hp2.mono (by omega)⟩
      · rw [List.nodup_append]
        refine ⟨hx.nd, by simp, fun a ha b hb => ?_⟩
        rw [List.mem_singleton.mp hb]
        exact fun e => c1 (by rw [← e]; exact ha)
      · rcases List.mem_append.mp hx' with hx' | hx'
        · exact hx.pl x hx'
        · rw [List.mem_singleton.mp hx']; exact ⟨⟨q0, q1⟩, qz⟩
  · have el : (rngD 0 kk).length = kk := by simp [rngD]
    rw [el] at hx hp'
    subst e1 e2
    exact h xs o' k p ⟨hx.nd, hx.pl, Nat.le_trans hx.n hkm⟩ (hp'.mono (by omega))
theorem idx_ref {n i : Nat} {xs : List Rat} {Q : DQ} (h : μ[n]? = some (.lst (xs.map fr))) (hi : i < xs.length) (hQ : Q (fr xs[i]) μ) : idxS (.ref n) (.int i) μ Q := by
  rw [idxS_r h]
  have hi' : i < (xs.map fr).length := by rw [List.length_map]; exact hi
  refine ⟨_, (atI_nat hi').symm, ?_⟩
  rw [List.getElem_map]; exact hQ
theorem ix_nat {n i : Nat} (h : i < n) : ixN n (i : Int) = some i := by unfold ixN; simp [h]
theorem w_places1 {m most j : Nat} {o' : Ob} {xs : List Rat} {k p : Option D} {K : Ctl} (h1 : Has Φ "_law_less" sp_less) (hx : PlS most xs) (hm : most ≤ 1000) (hj : j < xs.length)
    (h : ∀ (ys : List Rat) (k : Option D), PlS most ys → ys.length = xs.length → K.nx [some (.ref m), some (.int (most : Nat)), some (.ref μ.length), k, some (.int j), p] (μ.set m o' ++ [.lst (ys.map fr)])) :
    wS Φ C U lp_law_places_1 [some (.ref m), some (.int (most : Nat)), some (.ref μ.length), k, some (.int j), p] (μ.set m o' ++ [.lst (xs.map fr)]) K := by
  simp only [lp_law_places_1, itW, itS, wSs, wS, wE, wEs, wHs, IL.g0, IL.g1, IL.s0, IL.s1, Option.some.injEq, exists_eq_left', exists_eq_left, IL.ex2, IL.ex3, and_true, true_and, isNop, IL.pWn, IL.pWs, tW, Bool.false_eq_true, if_true, if_false, D.int.injEq, D.bl.injEq, D.str.injEq, D.tup.injEq, D.lst.injEq, D.ref.injEq, setMany, bopS_add, bopS_sub, bopS_mul, bopS_fdiv, bopS_mod, bopS_addt, copS_lt, copS_le, copS_gt, copS_ge, copS_eqi, copS_nei, copS_isN, copS_isnN, bfS_lent, bfS_abs, bfS_max, bfS_min, bfS_int, decide_eq_true_eq, Bool.not_eq_true', decide_eq_false_iff_not, idxS_t, at2_0, at2_1, isi_int, isi_bl, isi_non, isi_str, isi_tup, isi_lst, reduceCtorEq, decide_false, decide_true, Bool.not_true, Bool.not_false, or_false, false_or, or_true, true_or, ite_self, setiR, idxS_l, bfS_lenl, bfS_lists, bfS_listt, slcS_t, slcS_l, slcS_s, newL_f, newL_t, at5_0, at5_1, at5_2, at5_3, at5_4, ix5_1, ix5_2, ix5_3, copS_neb, copS_eqb, copS_isB, idx_fr0, idx_fr1, Ob.lst.injEq, List.set_set]
  have := hx.n
  refine ⟨by omega, by omega, ?_⟩
  rw [Int.toNat_natCast]
  refine loop_rule (fun i ρ μ' => ∃ (ys : List Rat) (k : Option D), ρ = [some (.ref m), some (.int (most : Nat)), some (.ref μ.length), k, some (.int j), p] ∧ μ' = μ.set m o' ++ [.lst (ys.map fr)] ∧ PlS most ys ∧ ys.length = xs.length)
    (fun i d ρ μ' hd ⟨ys, k, e1, e2, hy, el⟩ => ⟨trivial, ?_⟩) (fun ρ μ' ⟨ys, k, e1, e2, hy, el⟩ => ⟨trivial, by subst e1 e2; exact h ys k hy el⟩) ⟨xs, k, rfl, rfl, hx, rfl⟩
  obtain ⟨rfl, hi⟩ := rng_at hd
  subst e1 e2
  intro N hN
  have hj' : j < ys.length := by omega
  have hi' : i < ys.length := by omega
  have zi := (hy.pl _ (List.getElem_mem hi')).2
  have zj := (hy.pl _ (List.getElem_mem hj')).2
  simp only [wSs, wS, wE, wEs, wHs, IL.g0, IL.g1, IL.s0, IL.s1, Option.some.injEq, exists_eq_left', exists_eq_left, IL.ex2, IL.ex3, and_true, true_and, isNop, IL.pWn, IL.pWs, tW, Bool.false_eq_true, if_true, if_false, D.int.injEq, D.bl.injEq, D.str.injEq, D.tup.injEq, D.lst.injEq, D.ref.injEq, setMany, bopS_add, bopS_sub, bopS_mul, bopS_fdiv, bopS_mod, bopS_addt, copS_lt, copS_le, copS_gt, copS_ge, copS_eqi, copS_nei, copS_isN, copS_isnN, bfS_lent, bfS_abs, bfS_max, bfS_min, bfS_int, decide_eq_true_eq, Bool.not_eq_true', decide_eq_false_iff_not, idxS_t, at2_0, at2_1, isi_int, isi_bl, isi_non, isi_str, isi_tup, isi_lst, reduceCtorEq, decide_false, decide_true, Bool.not_true, Bool.not_false, or_false, false_or, or_true, true_or, ite_self, setiR, idxS_l, bfS_lenl, bfS_lists, bfS_listt, slcS_t, slcS_l, slcS_s, newL_f, newL_t, at5_0, at5_1, at5_2, at5_3, at5_4, ix5_1, ix5_2, ix5_3, copS_neb, copS_eqb, copS_isB, idx_fr0, idx_fr1, Ob.lst.injEq, List.set_set]
  refine idx_ref ap_last hj' (idx_ref ap_last hi' (h1 _ _ _ _ ⟨_, _, rfl, by omega, _, rfl, ?_⟩))
  split
  · refine idx_ref ap_last hi' (idx_ref ap_last hj' ?_)
    refine ⟨_, ap_last, _, by rw [List.length_map]; exact ix_nat hj', ?_⟩
    rw [ap_setl]
    refine ⟨_, ap_last, _, by rw [List.length_set, List.length_map]; exact ix_nat hi', ?_⟩
    rw [ap_setl]
    refine hN _ _ ⟨(ys.set j ys[i]).set i ys[j], _, rfl, by rw [List.map_set, List.map_set], ⟨swap_nodup hj' hi' hy.nd, fun x hx' => hy.pl x (swap_mem hj' hi' hx'), by rw [List.length_set, List.length_set]; exact hy.n⟩, by rw [List.length_set, List.length_set]; exact el⟩
  · exact hN _ _ ⟨ys, _, rfl, rfl, hy, el⟩
theorem w_places2 {m most : Nat} {o' : Ob} {xs : List Rat} {k p : Option D} {K : Ctl} (h1 : Has Φ "_law_less" sp_less) (hx : PlS most xs) (hm : most ≤ 1000)
    (h : ∀ (ys : List Rat) (k j : Option D), PlS most ys → K.nx [some (.ref m), some (.int (most : Nat)), some (.ref μ.length), k, j, p] (μ.set m o' ++ [.lst (ys.map fr)])) :
    wS Φ C U lp_law_places_2 [some (.ref m), some (.int (most : Nat)), some (.ref μ.length), k, none, p] (μ.set m o' ++ [.lst (xs.map fr)]) K := by
  simp only [lp_law_places_2, itW, itS, wSs, wS, wE, wEs, wHs, IL.g0, IL.g1, IL.s0, IL.s1, Option.some.injEq, exists_eq_left', exists_eq_left, IL.ex2, IL.ex3, and_true, true_and, isNop, IL.pWn, IL.pWs, tW, Bool.false_eq_true, if_true, if_false, D.int.injEq, D.bl.injEq, D.str.injEq, D.tup.injEq, D.lst.injEq, D.ref.injEq, setMany, bopS_add, bopS_sub, bopS_mul, bopS_fdiv, bopS_mod, bopS_addt, copS_lt, copS_le, copS_gt, copS_ge, copS_eqi, copS_nei, copS_isN, copS_isnN, bfS_lent, bfS_abs, bfS_max, bfS_min, bfS_int, decide_eq_true_eq, Bool.not_eq_true', decide_eq_false_iff_not, idxS_t, at2_0, at2_1, isi_int, isi_bl, isi_non, isi_str, isi_tup, isi_lst, reduceCtorEq, decide_false, decide_true, Bool.not_true, Bool.not_false, or_false, false_or, or_true, true_or, ite_self, setiR, idxS_l, bfS_lenl, bfS_lists, bfS_listt, slcS_t, slcS_l, slcS_s, newL_f, newL_t, at5_0, at5_1, at5_2, at5_3, at5_4, ix5_1, ix5_2, ix5_3, copS_neb, copS_eqb, copS_isB, idx_fr0, idx_fr1, Ob.lst.injEq, List.set_set]
  have := hx.n
  have sq : ∀ ys : List Rat, seqL (μ.set m o' ++ [Ob.lst (ys.map fr)]) (.ref μ.length) = some (ys.map fr) := fun ys => by
    show (match (_ : Store)[(_ : Nat)]? with | some (.lst l) => some l | _ => none) = some (ys.map fr)
    rw [ap_last]
  refine len_ok (sq xs) ⟨_, rfl, by omega, by rw [List.length_map]; omega, ?_⟩
  rw [Int.toNat_natCast, List.length_map]
  refine loop_rule (fun i ρ μ' => ∃ (ys : List Rat) (k j : Option D), ρ = [some (.ref m), some (.int (most : Nat)), some (.ref μ.length), k, j, p] ∧ μ' = μ.set m o' ++ [.lst (ys.map fr)] ∧ PlS most ys ∧ ys.length = xs.length)
    (fun i d ρ μ' hd ⟨ys, k, j, e1, e2, hy, el⟩ => ⟨trivial, ?_⟩) (fun ρ μ' ⟨ys, k, j, e1, e2, hy, el⟩ => ⟨trivial, by subst e1 e2; exact h ys k j hy⟩) ⟨xs, k, none, rfl, rfl, hx, rfl⟩
  obtain ⟨rfl, hi⟩ := rng_at hd
  subst e1 e2
  intro N hN
  simp only [wSs, wS, wE, wEs, wHs, IL.g0, IL.g1, IL.s0, IL.s1, Option.some.injEq, exists_eq_left', exists_eq_left, IL.ex2, IL.ex3, and_true, true_and, isNop, IL.pWn, IL.pWs, tW, Bool.false_eq_true, if_true, if_false, D.int.injEq, D.bl.injEq, D.str.injEq, D.tup.injEq, D.lst.injEq, D.ref.injEq, setMany, bopS_add, bopS_sub, bopS_mul, bopS_fdiv, bopS_mod, bopS_addt, copS_lt, copS_le, copS_gt, copS_ge, copS_eqi, copS_nei, copS_isN, copS_isnN, bfS_lent, bfS_abs, bfS_max, bfS_min, bfS_int, decide_eq_true_eq, Bool.not_eq_true', decide_eq_false_iff_not, idxS_t, at2_0, at2_1, isi_int, isi_bl, isi_non, isi_str, isi_tup, isi_lst, reduceCtorEq, decide_false, decide_true, Bool.not_true, Bool.not_false, or_false, false_or, or_true, true_or, ite_self, setiR, idxS_l, bfS_lenl, bfS_lists, bfS_listt, slcS_t, slcS_l, slcS_s, newL_f, newL_t, at5_0, at5_1, at5_2, at5_3, at5_4, ix5_1, ix5_2, ix5_3, copS_neb, copS_eqb, copS_isB, idx_fr0, idx_fr1, Ob.lst.injEq, List.set_set]
  exact w_places1 h1 hy hm (by omega) fun zs k hz el2 => hN _ _ ⟨zs, k, _, rfl, rfl, hz, by omega⟩
theorem pool_inb {c n : Nat} {o : Ob} (h : Pool c o) : o.inb n = true := by
  obtain ⟨cells, i, v, k, salt, rfl, _, _⟩ := h
  have e : ∀ l : List Int, D.inbs n (l.map D.int) = true := by
    intro l
    induction l with
    | nil => simp [D.inbs]
    | cons a l ih => simp [D.inbs, D.inb, ih]
  simp [Ob.inb, D.inbs, D.inb, e]
theorem closed_set {m : Nat} {o : Ob} (hc : Closed μ) (ho : o.inb μ.length = true) : Closed (μ.set m o) := fun x hx => by
  rw [List.length_set]
  rcases List.mem_or_eq_of_mem_set hx with h | rfl
  · exact hc x h
  · exact ho
def sp_law_places : Spec := fun ds μ P X => ∃ m c o most, ds = [.ref m, .int (most : Nat)] ∧ most ≤ 1000 ∧ μ[m]? = some o ∧ Pool c o ∧ c + 10000 < 2 ^ 64 ∧ ∀ xs o', PlS most xs → Pool (c + 2 * most + 1) o' → P (.lst (xs.map fr)) (μ.set m o')
theorem b_law_places (st : Stmt) (h1 : Has Φ "_law_draw" sp_draw) (h2 : Has Φ "_law_place" sp_place) (h3 : Has Φ "_law_less" sp_less) (hcl : Closed μ) (h : sp_law_places ds μ P X) : BodyOk Φ C U (d_law_places st) ds μ P X := by
  obtain ⟨m, c, o, most, rfl, hm, hμ, hp, hc, h⟩ := h
  refine ⟨rfl, ?_⟩
  show wSs Φ C U il_law_places [some (.ref m), some (.int (most : Nat)), none, none, none, none] μ _
  simp only [il_law_places, wSs, wS, wE, wEs, wHs, IL.g0, IL.g1, IL.s0, IL.s1, Option.some.injEq, exists_eq_left', exists_eq_left, IL.ex2, IL.ex3, and_true, true_and, isNop, IL.pWn, IL.pWs, tW, Bool.false_eq_true, if_true, if_false, D.int.injEq, D.bl.injEq, D.str.injEq, D.tup.injEq, D.lst.injEq, D.ref.injEq, setMany, bopS_add, bopS_sub, bopS_mul, bopS_fdiv, bopS_mod, bopS_addt, copS_lt, copS_le, copS_gt, copS_ge, copS_eqi, copS_nei, copS_isN, copS_isnN, bfS_lent, bfS_abs, bfS_max, bfS_min, bfS_int, decide_eq_true_eq, Bool.not_eq_true', decide_eq_false_iff_not, idxS_t, at2_0, at2_1, isi_int, isi_bl, isi_non, isi_str, isi_tup, isi_lst, reduceCtorEq, decide_false, decide_true, Bool.not_true, Bool.not_false, or_false, false_or, or_true, true_or, ite_self, setiR, idxS_l, bfS_lenl, bfS_lists, bfS_listt, slcS_t, slcS_l, slcS_s, newL_f, newL_t, at5_0, at5_1, at5_2, at5_3, at5_4, ix5_1, ix5_2, ix5_3, copS_neb, copS_eqb, copS_isB, idx_fr0, idx_fr1, Ob.lst.injEq, List.set_set]
  refine ⟨(show 0 ≤ sizeLine by decide), w_places0 h1 h2 hμ hp hm hc fun xs o' k p hx hp' => w_places2 h3 hx hm fun ys k j hy => ?_⟩
  simp only [wSs, wS, wE, wEs, wHs, IL.g0, IL.g1, IL.s0, IL.s1, Option.some.injEq, exists_eq_left', exists_eq_left, IL.ex2, IL.ex3, and_true, true_and, isNop, IL.pWn, IL.pWs, tW, Bool.false_eq_true, if_true, if_false, D.int.injEq, D.bl.injEq, D.str.injEq, D.tup.injEq, D.lst.injEq, D.ref.injEq, setMany, bopS_add, bopS_sub, bopS_mul, bopS_fdiv, bopS_mod, bopS_addt, copS_lt, copS_le, copS_gt, copS_ge, copS_eqi, copS_nei, copS_isN, copS_isnN, bfS_lent, bfS_abs, bfS_max, bfS_min, bfS_int, decide_eq_true_eq, Bool.not_eq_true', decide_eq_false_iff_not, idxS_t, at2_0, at2_1, isi_int, isi_bl, isi_non, isi_str, isi_tup, isi_lst, reduceCtorEq, decide_false, decide_true, Bool.not_true, Bool.not_false, or_false, false_or, or_true, true_or, ite_self, setiR, idxS_l, bfS_lenl, bfS_lists, bfS_listt, slcS_t, slcS_l, slcS_s, newL_f, newL_t, at5_0, at5_1, at5_2, at5_3, at5_4, ix5_1, ix5_2, ix5_3, copS_neb, copS_eqb, copS_isB, idx_fr0, idx_fr1, Ob.lst.injEq, List.set_set]
  refine ⟨_, ap_last, ?_⟩
  rw [ap_setl]
  refine .inr ⟨μ.set m o', [.dead], rfl, by rw [List.length_set]; exact Nat.le_refl _, inb_lay _ ?_, closed_set hcl (pool_inb hp'), h ys o' hy hp'⟩
  simp only [D.lay]
  refine (lays_iff _).mpr fun d hd => ?_
  obtain ⟨x, _, rfl⟩ := List.mem_map.mp hd
  exact (ok_fr x).1
end
end IL

/-! points put in, ranges called -/
namespace IL
open PySem L2
theorem mem_withP {pts : List (Rat × Rat)} {x w : Rat} {q : Rat × Rat} : q ∈ withP pts x w ↔ (q ∈ pts ∧ q.1 ≠ x) ∨ q = (x, w) := by
  unfold withP
  simp only [List.mem_append, List.mem_filter, decide_eq_true_eq, List.mem_singleton]
  constructor
  · rintro ((⟨h1, h2⟩ | h) | ⟨h1, h2⟩)
    · exact .inl ⟨h1, by grind⟩
    · exact .inr h
    · exact .inl ⟨h1, by grind⟩
  · rintro (⟨h1, h2⟩ | h)
    · rcases tri q.1 x with k | k | k
      · exact .inl (.inl ⟨h1, k⟩)
      · exact absurd k h2
      · exact .inr ⟨h1, k⟩
    · exact .inl (.inr h)
theorem withP_len {pts : List (Rat × Rat)} {x w : Rat} : (withP pts x w).length ≤ pts.length + 1 := by
  have : ∀ l : List (Rat × Rat), (l.filter fun p => decide (p.1 < x)).length + (l.filter fun p => decide (x < p.1)).length ≤ l.length := by
    intro l
    induction l with
    | nil => simp
    | cons a l ih =>
      by_cases h1 : a.1 < x
      · have h2 : ¬ x < a.1 := by grind
        simp [List.filter_cons, h1, h2]; omega
      · by_cases h2 : x < a.1
        · simp [List.filter_cons, h1, h2]; omega
        · simp [List.filter_cons, h1, h2]; omega
  have := this pts
  unfold withP
  simp only [List.length_append, List.length_cons, List.length_nil]; omega
theorem withP_nd {pts : List (Rat × Rat)} {x w : Rat} (h : (pts.map (·.1)).Nodup) : ((withP pts x w).map (·.1)).Nodup := by
  unfold withP
  rw [List.map_append, List.map_append]
  have s1 : ((pts.filter fun p => decide (p.1 < x)).map (·.1)).Nodup := h.sublist (List.filter_sublist.map _)
  have s2 : ((pts.filter fun p => decide (x < p.1)).map (·.1)).Nodup := h.sublist (List.filter_sublist.map _)
  have m1 : ∀ y ∈ (pts.filter fun p => decide (p.1 < x)).map (·.1), y < x := fun y hy => by
    obtain ⟨p, hp, rfl⟩ := List.mem_map.mp hy
    exact of_decide_eq_true (List.mem_filter.mp hp).2
  have m2 : ∀ y ∈ (pts.filter fun p => decide (x < p.1)).map (·.1), x < y := fun y hy => by
    obtain ⟨p, hp, rfl⟩ := List.mem_map.mp hy
    exact of_decide_eq_true (List.mem_filter.mp hp).2
  refine List.nodup_append.mpr ⟨List.nodup_append.mpr ⟨s1, by simp, fun a ha b hb => ?_⟩, s2, fun a ha b hb => ?_⟩
  · have := m1 a ha
    simp at hb; subst hb; grind
  · have := m2 b hb
    rcases List.mem_append.mp ha with ha | ha
    · have := m1 a ha; grind
    · simp at ha; subst ha; grind
theorem withP_ok {pts : List (Rat × Rat)} {x w : Rat} (ok : PtsOk pts) (hx : -1 < x ∧ x < 1) (hw : -1 ≤ w ∧ w ≤ 1) : PtsOk (withP pts x w) := by
  refine ⟨fun q hq => ?_, fun q hq => ?_, withP_nd ok.nd⟩
  · rcases mem_withP.mp hq with ⟨h, _⟩ | h
    · exact ok.pl q h
    · rw [h]; exact hx
  · rcases mem_withP.mp hq with ⟨h, _⟩ | h
    · exact ok.lv q h
    · rw [h]; exact hw
theorem snoc_ok {pts : List (Rat × Rat)} {x w : Rat} (ok : PtsOk pts) (hx : -1 < x ∧ x < 1) (hw : -1 ≤ w ∧ w ≤ 1) (nx : ∀ p ∈ pts, p.1 ≠ x) : PtsOk (pts ++ [(x, w)]) := by
  refine ⟨fun q hq => ?_, fun q hq => ?_, ?_⟩
  · rcases List.mem_append.mp hq with h | h
    · exact ok.pl q h
    · simp at h; rw [h]; exact hx
  · rcases List.mem_append.mp hq with h | h
    · exact ok.lv q h
    · simp at h; rw [h]; exact hw
  · rw [List.map_append]
    refine List.nodup_append.mpr ⟨ok.nd, by simp, fun a ha b hb => ?_⟩
    obtain ⟨p, hp, rfl⟩ := List.mem_map.mp ha
    simp at hb; subst hb; exact nx p hp
theorem withP_psd {pts : List (Rat × Rat)} {x w : Rat} (ok : PtsOk (pts ++ [(x, w)])) (h : Psd (pts ++ [(x, w)])) : Psd (withP pts x w) := psd_of ok h fun q hq => by
  rcases mem_withP.mp hq with ⟨h, _⟩ | h
  · exact List.mem_append_left _ h
  · rw [h]; simp
theorem two_ok {pts : List (Rat × Rat)} {x y a b : Rat} (ok : PtsOk pts) (hx : -1 < x ∧ x < 1) (hy : -1 < y ∧ y < 1) (ha : -1 ≤ a ∧ a ≤ 1) (hb : -1 ≤ b ∧ b ≤ 1) (nx : ∀ p ∈ pts, p.1 ≠ x) (ny : ∀ p ∈ pts, p.1 ≠ y) (n : x ≠ y) : PtsOk (pts ++ [(x, a), (y, b)]) := by
  have := snoc_ok (snoc_ok ok hx ha nx) hy hb (w := b) (x := y) fun p hp => by
    rcases List.mem_append.mp hp with h | h
    · exact ny p h
    · simp at h; rw [h]; exact n
  rw [List.append_assoc] at this
  exact this
theorem psd_mid {f : Rat → Rat} {xs : List Rat} {x y a b a' b' : Rat} (hxs : ∀ x ∈ xs, -1 < x ∧ x < 1) (hn : xs.Nodup) (hx : -1 < x ∧ x < 1) (hy : -1 < y ∧ y < 1) (nx : x ∉ xs) (ny : y ∉ xs) (n : x ≠ y)
    (h1 : Psd (xs.map (fun x => (x, f x)) ++ [(x, a), (y, b)])) (h2 : Psd (xs.map (fun x => (x, f x)) ++ [(x, a'), (y, b')])) : Psd (xs.map (fun x => (x, f x)) ++ [(x, (a + a') * (1 / 2)), (y, (b + b') * (1 / 2))]) := by
  have e : ∀ a b, (xs ++ [x, y]).map (fun u => (u, if u = x then a else if u = y then b else f u)) = xs.map (fun x => (x, f x)) ++ [(x, a), (y, b)] := fun a b => by
    rw [List.map_append]
    congr 1
    · refine List.map_congr_left fun u hu => ?_
      have e1 : u ≠ x := fun e => nx (e ▸ hu)
      have e2 : u ≠ y := fun e => ny (e ▸ hu)
      rw [if_neg e1, if_neg e2]
    · simp [Ne.symm n]
  rw [← e] at h1 h2
  have m := psd_mix (t := 1 / 2) (by grind) (by grind) (xs := xs ++ [x, y]) (fun u hu => by
    rcases List.mem_append.mp hu with h | h
    · exact hxs u h
    · simp at h; rcases h with rfl | rfl
      · exact hx
      · exact hy) (List.nodup_append.mpr ⟨hn, by simp [n], fun u hu v hv => by
    simp at hv
    rcases hv with rfl | rfl
    · exact fun e => nx (e ▸ hu)
    · exact fun e => ny (e ▸ hu)⟩) h1 h2
  have e3 : (xs ++ [x, y]).map (fun u => (u, (1 - 1 / 2) * (if u = x then a else if u = y then b else f u) + 1 / 2 * (if u = x then a' else if u = y then b' else f u))) = (xs ++ [x, y]).map (fun u => (u, if u = x then (a + a') * (1 / 2) else if u = y then (b + b') * (1 / 2) else f u)) := by
    refine List.map_congr_left fun u _ => ?_
    split
    · congr 1; grind
    · split
      · congr 1; grind
      · congr 1; grind
  rw [e3, e] at m
  exact m
section
variable {Φ : Str → Spec} {C : Str → Option D} {U : Str → Str → Option Bool} {μ : Store} {P : DQ} {X : XQ} {ds : List D}
theorem pts_s {pts : List (Rat × Rat)} {b n : Nat} (ok : PtsOk pts) (sz : ∀ p ∈ pts, bz p.1 ≤ 3 ∧ bz p.2 ≤ b) (hn : pts.length ≤ n + 1) (hb : (b + 8) * 2 ^ n ≤ 10000000) (h1000 : n ≤ 900) : PtsS pts :=
  ⟨ok, lsz_of (k := 3) (by decide) n sz (by rw [show b + 2 * 3 + 2 = b + 8 by omega]; omega) hn _, by omega⟩
theorem call_range (h : Has Φ "range_at" sp_range_at) {pts : List (Rat × Rat)} {x : Rat} {b m : Nat} {Q : DQ} (ok : PtsOk pts) (psd : Psd pts) (sz : ∀ p ∈ pts, bz p.1 ≤ 3 ∧ bz p.2 ≤ b) (hm : pts.length ≤ m) (hb : (b + 8) * 2 ^ m ≤ 6000000) (h1000 : m ≤ 900) (hx : -1 < x ∧ x < 1) (zx : bz x ≤ 3)
    (hQ : ∀ z, ladQ pts = some z → bz (loQ z x) ≤ 1 + (b + 8) * 2 ^ m → bz (hiQ z x) ≤ 1 + (b + 8) * 2 ^ m → Q (.tup [fr (loQ z x), fr (hiQ z x)]) μ) : Φ "range_at" [.tup (pts.map stD), fr x] μ Q X := by
  have hs := (told_iff ok).mpr psd
  refine h _ _ _ _ ⟨pts, x, rfl, pts_s ok sz (n := m) (by omega) (by omega) h1000, hx, fun e => (by rw [e] at hs; cases hs), fun z e => ?_⟩
  have e' := e
  unfold ladQ at e'
  have key : ∀ l, (l = 1 ∨ l = -1) → VSz z.1 l x ∧ bz (valQ z.1 l x) + b ≤ 1 + (b + 8) * 2 ^ m := fun l hl => by
    have := lad_sz (k := 3) (l := l) zx (by rcases hl with rfl | rfl <;> decide) _ e' sz hm (by rw [show b + 2 * 3 + 2 = b + 8 by omega]; omega)
    rw [show b + 2 * 3 + 2 = b + 8 by omega] at this; exact this
  obtain ⟨p1, p2, p3, p4⟩ := ends_pm z x
  refine ⟨(ladN_ok e' ok).1, fun l hl => ⟨(key l hl).1, by have := (key l hl).2; omega⟩, hQ z e ?_ ?_⟩
  · have := (key _ p3).2
    unfold loQ; rw [p1]; omega
  · have := (key _ p4).2
    unfold hiQ; rw [p2]; omega
theorem call_told (h : Has Φ "can_be_told" sp_can_be_told) {pts : List (Rat × Rat)} {b n : Nat} {Q : DQ} (ok : PtsOk pts) (psd : Psd pts) (sz : ∀ p ∈ pts, bz p.1 ≤ 3 ∧ bz p.2 ≤ b) (hn : pts.length ≤ n + 1) (hb : (b + 8) * 2 ^ n ≤ 10000000) (h1000 : n ≤ 900) (hQ : Q (.bl true) μ) : Φ "can_be_told" [.tup (pts.map stD)] μ Q X := by
  have hs := (told_iff ok).mpr psd
  exact h _ _ _ _ ⟨pts, rfl, pts_s ok sz hn hb h1000, by rw [hs]; exact hQ⟩
theorem call_with (h : Has Φ "with_point" sp_with_point) {pts : List (Rat × Rat)} {x w : Rat} {b : Nat} {Q : DQ} (sz : ∀ p ∈ pts, bz p.1 ≤ 3 ∧ bz p.2 ≤ b) (hn : pts.length ≤ 1000) (zx : bz x ≤ 3) (hQ : Q (.tup ((withP pts x w).map stD)) μ) : Φ "with_point" [.tup (pts.map stD), fr x, fr w] μ Q X :=
  h _ _ _ _ ⟨pts, x, w, rfl, hn, fun p hp => by have := (sz p hp).1; omega, hQ⟩
theorem withP_sz {pts : List (Rat × Rat)} {x w : Rat} {b b' : Nat} (sz : ∀ p ∈ pts, bz p.1 ≤ 3 ∧ bz p.2 ≤ b) (zx : bz x ≤ 3) (hb : b ≤ b') (zw : bz w ≤ b') : ∀ p ∈ withP pts x w, bz p.1 ≤ 3 ∧ bz p.2 ≤ b' := fun p hp => by
  rcases mem_withP.mp hp with ⟨h, _⟩ | h
  · have := sz p h; omega
  · rw [h]; exact ⟨zx, zw⟩
/-- a comprehension of places with the levels of a function of them -/
theorem w_comp_on {f : Str} {i j : Nat} {v : D} {G : Rat → Rat} {xs : List Rat} {ρ : Env} {g : Store → Prop} {Q : List D → Store → Prop} (hij : j ≠ i) (hj : j < ρ.length) (hi : ρ[i]? = some (some v)) (hg : g μ) (hn : xs.length ≤ 1000)
    (hf : ∀ x ∈ xs, ∀ (R : DQ) (X' : XQ), R (fr (G x)) μ → Φ f [v, fr x] μ R X') (hQ : Q ((xs.map fun x => (x, G x)).map stD) μ) :
    compW (.nm j) (tW (wE Φ C (.bl true))) (wE Φ C (.tup (.cons (.var j) (.cons (.call f (.cons (.var i) (.cons (.var j) .nil))) .nil)))) g ρ (xs.map fr) [] μ Q := by
  have zz : (100001 : Nat) ≤ sizeLine := by decide
  refine comp_pure (fun _ => true) (fun d => stD (unfr d, G (unfr d))) hg (by rw [List.length_map]; omega) (fun k d hd => ?_) ?_
  · obtain ⟨x, hx, rfl⟩ : ∃ x, x ∈ xs ∧ fr x = d := List.mem_map.mp (List.mem_of_getElem? hd)
    show _ ∧ _
    have e1 : (ρ.set j (some (fr x)))[i]? = some (some v) := by rw [List.getElem?_set_ne hij]; exact hi
    have e2 : (ρ.set j (some (fr x)))[j]? = some (some (fr x)) := List.getElem?_set_self hj
    refine ⟨fun R X' hR => hR, fun _ R X' hR => ?_⟩
    rw [unfr_fr] at hR
    simp only [wE, wEs, e1, e2, Option.some.injEq, exists_eq_left']
    exact hf x hx _ _ ⟨sz2, hR⟩
  · have e : ((xs.map fr).filter fun _ => true).map (fun d => stD (unfr d, G (unfr d))) = (xs.map fun x => (x, G x)).map stD := by
      rw [List.filter_eq_self.mpr (fun _ _ => rfl), List.map_map, List.map_map]
      refine List.map_congr_left fun x _ => ?_
      show stD (unfr (fr x), G (unfr (fr x))) = stD (x, G x)
      rw [unfr_fr]
    rw [e]; exact hQ
/-- the places of points -/
theorem w_comp_fst {i j : Nat} {pts : List (Rat × Rat)} {ρ : Env} {g : Store → Prop} {Q : List D → Store → Prop} (hij : j ≠ i) (hi' : i < ρ.length) (hg : g μ) (hn : pts.length ≤ 1000) (hQ : Q ((pts.map (·.1)).map fr) μ) :
    compW (.tp [i, j]) (tW (wE Φ C (.bl true))) (wE Φ C (.var i)) g ρ (pts.map stD) [] μ Q := by
  have zz : (100001 : Nat) ≤ sizeLine := by decide
  refine comp_pure (fun _ => true) (fun d => fr (unst d)) hg (by rw [List.length_map]; omega) (fun k d hd => ?_) ?_
  · obtain ⟨s, _, hs, rfl⟩ := stD_at hd
    refine ⟨_, rfl, rfl, ?_⟩
    have e2 : ((ρ.set i (some (fr s.1))).set j (some (fr s.2)))[i]? = some (some (fr s.1)) := by rw [List.getElem?_set_ne hij]; exact List.getElem?_set_self hi'
    refine ⟨fun R X' hR => hR, fun _ R X' hR => ?_⟩
    rw [unst_st] at hR
    simp only [setMany, wE]
    exact ⟨_, e2, hR⟩
  · have e : ((pts.map stD).filter fun _ => true).map (fun d => fr (unst d)) = (pts.map (·.1)).map fr := by
      rw [List.filter_eq_self.mpr (fun _ _ => rfl), List.map_map, List.map_map]
      refine List.map_congr_left fun x _ => ?_
      show fr (unst (stD x)) = fr x.1
      rw [unst_st]
    rw [e]; exact hQ
theorem in_fr {xs : List Rat} {y : Rat} {x : D} {Q : DQ} (h : seqA μ x = some (xs.map fr)) (hQ : Q (.bl (decide (y ∈ xs))) μ) : copS .inn (fr y) x μ Q := by
  obtain ⟨ys, h1, h2, h3, h4⟩ := nin_fr (Q := fun d μ' => Q (.bl (match d with | .bl b => !b | _ => false)) μ') h (by simpa using hQ)
  exact ⟨ys, h1, h2, h3, by simpa using h4⟩
theorem copS_isnB {i j : Bool} {Q : DQ} : copS .isn (.bl i) (.bl j) μ Q ↔ Q (.bl (!(i == j))) μ := ⟨fun h => h.elim (fun h => (by cases h.1)) (fun ⟨_, _, h1, h2, h⟩ => (by cases h1; cases h2; exact h)), fun h => .inr ⟨_, _, rfl, rfl, h⟩⟩
theorem sz3 {a b c : D} : [a, b, c].length ≤ sizeLine := (show 3 ≤ sizeLine by decide)
theorem sz1 {a : D} : [a].length ≤ sizeLine := (show 1 ≤ sizeLine by decide)
end
end IL

/-! least bounds -/
namespace IL
open PySem L2
def scl (q : Rat) (pts : List (Rat × Rat)) : List (Rat × Rat) := pts.map fun p => (p.1, p.2 / q)
/-- all numbers of some rows, divided by c by s, can be told -/
def Bd (pts : List (Rat × Rat)) (s c : Int) : Prop := (c = 0 ∧ ∀ p ∈ pts, p.2 = 0) ∨ (0 < c ∧ Psd (scl ((c : Rat) / (s : Rat)) pts))
structure NumOk (pts : List (Rat × Rat)) : Prop where
  pl : ∀ x ∈ pts, -1 < x.1 ∧ x.1 < 1
  nd : (pts.map (·.1)).Nodup
theorem scl_fst {q : Rat} {pts : List (Rat × Rat)} : (scl q pts).map (·.1) = pts.map (·.1) := by
  unfold scl; rw [List.map_map]; rfl
theorem lv_of_psd {pts : List (Rat × Rat)} (h : Psd pts) (hp : ∀ x ∈ pts, -1 < x.1 ∧ x.1 < 1) : ∀ x ∈ pts, -1 ≤ x.2 ∧ x.2 ≤ 1 := fun x hx => lv_of_pk (hp x hx) (psd_diag h x hx)
theorem NumOk.scl {pts : List (Rat × Rat)} (h : NumOk pts) {q : Rat} (hl : ∀ x ∈ scl q pts, -1 ≤ x.2 ∧ x.2 ≤ 1) : PtsOk (scl q pts) := ⟨fun x hx => by
  obtain ⟨p, hp, rfl⟩ := List.mem_map.mp hx; exact h.pl p hp, hl, by rw [scl_fst]; exact h.nd⟩
/-- levels as a function of the places -/
theorem graph : ∀ {pts : List (Rat × Rat)}, (pts.map (·.1)).Nodup → ∃ g : Rat → Rat, ∀ p ∈ pts, g p.1 = p.2
  | [], _ => ⟨fun _ => 0, nofun⟩
  | s :: r, h => by
    rw [List.map_cons, List.nodup_cons] at h
    obtain ⟨g, hg⟩ := graph h.2
    refine ⟨fun x => if x = s.1 then s.2 else g x, fun p hp => ?_⟩
    rcases List.mem_cons.mp hp with rfl | hp
    · exact if_pos rfl
    · have : p.1 ≠ s.1 := fun e => h.1 (by rw [← e]; exact List.mem_map_of_mem hp)
      show (if p.1 = s.1 then s.2 else g p.1) = p.2
      rw [if_neg this]; exact hg p hp
theorem as_fun {pts : List (Rat × Rat)} {g : Rat → Rat} (h : ∀ p ∈ pts, g p.1 = p.2) : pts = (pts.map (·.1)).map fun x => (x, g x) := by
  rw [List.map_map]
  conv => lhs; rw [← List.map_id pts]
  refine List.map_congr_left fun p hp => ?_
  show p = (p.1, g p.1)
  rw [h p hp]
theorem NumOk.fst {pts : List (Rat × Rat)} (h : NumOk pts) : ∀ x ∈ pts.map (·.1), -1 < x ∧ x < 1 := fun x hx => by
  obtain ⟨p, hp, rfl⟩ := List.mem_map.mp hx; exact h.pl p hp
/-- a smaller multiple -/
theorem psd_sclm {pts : List (Rat × Rat)} (ok : NumOk pts) {k : Rat} (k0 : -1 ≤ k) (k1 : k ≤ 1) (h : Psd pts) : Psd (pts.map fun p => (p.1, k * p.2)) := by
  obtain ⟨g, hg⟩ := graph ok.nd
  have e := as_fun hg
  rw [e] at h
  have m := psd_scale k0 k1 ok.fst ok.nd h
  have e2 : (pts.map (·.1)).map (fun x => (x, k * g x)) = pts.map fun p => (p.1, k * p.2) := by
    rw [List.map_map]
    refine List.map_congr_left fun p hp => ?_
    show (p.1, k * g p.1) = _
    rw [hg p hp]
  rw [e2] at m; exact m
theorem NumOk.scl' {pts : List (Rat × Rat)} (h : NumOk pts) {q : Rat} : NumOk (IL.scl q pts) := ⟨fun x hx => by
  obtain ⟨p, hp, rfl⟩ := List.mem_map.mp hx; exact h.pl p hp, by rw [scl_fst]; exact h.nd⟩
theorem cs_pos {c s : Int} (hc : 0 < c) (hs : 0 < s) : (0 : Rat) < (c : Rat) / (s : Rat) := (Rat.lt_div_iff (Rat.intCast_pos.mpr hs)).mpr (by rw [Rat.zero_mul]; exact Rat.intCast_pos.mpr hc)
theorem bd_mono {pts : List (Rat × Rat)} (ok : NumOk pts) {s c d : Int} (hs : 0 < s) (h : c ≤ d) (hb : Bd pts s c) : Bd pts s d := by
  rcases hb with ⟨rfl, z⟩ | ⟨hc, hp⟩
  · by_cases hd : d = 0
    · exact .inl ⟨hd, z⟩
    · refine .inr ⟨by omega, ?_⟩
      have t := told_zero _ (pts := scl ((d : Rat) / s) pts) rfl fun p hp => by
        obtain ⟨q, hq, rfl⟩ := List.mem_map.mp hp
        show q.2 / _ = 0
        rw [z q hq, Rat.div_def, Rat.zero_mul]
      exact (told_iff (ok.scl fun x hx => by
        obtain ⟨q, hq, rfl⟩ := List.mem_map.mp hx
        show -1 ≤ q.2 / _ ∧ q.2 / _ ≤ 1
        rw [z q hq, Rat.div_def, Rat.zero_mul]; decide)).mp t
  · refine .inr ⟨by omega, ?_⟩
    have p1 := cs_pos hc hs
    have p2 := cs_pos (c := d) (by omega) hs
    have hle : (c : Rat) ≤ (d : Rat) := by exact_mod_cast h
    have key := psd_sclm ok.scl' (k := (c : Rat) / d) (by have := cs_pos hc (s := d) (by omega); grind) (div_le_one (Rat.intCast_pos.mpr (by omega)) hle) hp
    have e : (scl ((c : Rat) / s) pts).map (fun p => (p.1, (c : Rat) / d * p.2)) = scl ((d : Rat) / s) pts := by
      unfold scl
      rw [List.map_map]
      refine List.map_congr_left fun p _ => ?_
      show (p.1, (c : Rat) / d * (p.2 / ((c : Rat) / s))) = (p.1, p.2 / ((d : Rat) / s))
      congr 1
      have c0 : (c : Rat) ≠ 0 := by have := Rat.intCast_pos.mpr hc; grind
      have d0 : (d : Rat) ≠ 0 := by have := Rat.intCast_pos.mpr (show 0 < d by omega); grind
      have s0 : (s : Rat) ≠ 0 := by have := Rat.intCast_pos.mpr hs; grind
      simp only [Rat.div_def, Rat.inv_mul_rev, Rat.inv_inv]
      have := Rat.mul_inv_cancel (c : Rat) c0
      grind
    rw [e] at key; exact key
theorem far_off {q : Rat} (h0 : q ≠ 0) (hz : bz q ≤ 7) : (0 < q → 1 ≤ q * 128) ∧ (q < 0 → 1 ≤ (-q) * 128) := by
  have hd : q.den < 2 ^ 7 := Nat.lt_of_lt_of_le (bz_den q) (Nat.pow_le_pow_right (by omega) hz)
  have hn := num_ne h0
  have e := num_eq q
  have d0 : (0 : Rat) ≤ ((q.den : Int) : Rat) := by exact_mod_cast (Int.natCast_nonneg q.den)
  have d1 : ((q.den : Int) : Rat) ≤ 128 := by exact_mod_cast (show (q.den : Int) ≤ 128 by omega)
  constructor
  · intro hq
    have h1 : 1 ≤ q.num := by
      have h0 : (0 : Rat) < ((q.den : Int) : Rat) := Rat.intCast_pos.mpr (by have := q.den_pos; omega)
      have h1 : (0 : Rat) < (q.num : Rat) := by rw [e]; exact Rat.mul_pos hq h0
      have := Rat.intCast_pos.mp h1
      omega
    have h2 : (1 : Rat) ≤ (q.num : Rat) := by exact_mod_cast h1
    have := Rat.mul_nonneg (Rat.le_of_lt hq) (b := 128 - ((q.den : Int) : Rat)) (by grind)
    grind
  · intro hq
    have h1 : q.num ≤ -1 := by
      have := (num_neg_iff q).mpr hq
      omega
    have h2 : (q.num : Rat) ≤ ((-1 : Int) : Rat) := Rat.intCast_le_intCast.mpr h1
    have h3 : ((-1 : Int) : Rat) = -1 := rfl
    have := Rat.mul_nonneg (a := -q) (by grind) (b := 128 - ((q.den : Int) : Rat)) (by grind)
    grind
/-- small levels can be told -/
theorem told_small : ∀ (n : Nat) {pts : List (Rat × Rat)} {e : Rat}, pts.length ≤ n → NumOk pts → (∀ p ∈ pts, bz p.1 ≤ 3 ∧ -e ≤ p.2 ∧ p.2 ≤ e) → 0 ≤ e → e * 512 ^ n ≤ 1 / 2 → (ladN pts.length pts).isSome = true
  | _, [], _, _, _, _, _, _ => rfl
  | 0, _ :: _, _, h, _, _, _, _ => by simp at h
  | n + 1, s :: r, e, hn, ok, hs, e0, he => by
    have p1 : (1 : Rat) ≤ 512 ^ n := by
      have : (1 : Nat) ≤ 512 ^ n := Nat.pow_pos (by decide)
      exact_mod_cast this
    have ee : e * 512 ^ (n + 1) = (512 * e) * 512 ^ n := by rw [Rat.pow_succ]; grind
    have eh : e ≤ 1 / 2 := by
      have h1 := Rat.mul_nonneg e0 (b := 512 ^ n - 1) (by grind)
      have h2 := Rat.mul_nonneg e0 (b := 512 ^ n) (by grind)
      grind
    rw [ee] at he
    obtain ⟨s3, s1, s2⟩ := hs s (List.mem_cons_self ..)
    have sp := ok.pl s (List.mem_cons_self ..)
    have nd := ok.nd
    rw [List.map_cons, List.nodup_cons] at nd
    rw [List.length_cons]
    unfold ladN
    rw [if_neg (by grind)]
    have mv : ∀ p ∈ r, -(512 * e) ≤ (mvd s p).2 ∧ (mvd s p).2 ≤ 512 * e := fun p hp => by
      obtain ⟨q3, q1, q2⟩ := hs p (List.mem_cons_of_mem _ hp)
      have pp := ok.pl p (List.mem_cons_of_mem _ hp)
      have ne : s.1 ≠ p.1 := fun e => nd.1 (by rw [e]; exact List.mem_map_of_mem hp)
      have tn : turnQ s.1 p.1 ≠ 0 := fun e => ne ((turn_eq_zero sp.1 sp.2 pp.1 pp.2).mp e)
      have tz := bz_turn1 s.1 p.1
      obtain ⟨f1, f2⟩ := far_off tn (by omega)
      have dn : 0 < 1 - s.2 * p.2 := one_sub_pos (by grind) (by grind) (by grind) (by grind)
      have d2 : 1 / 2 ≤ 1 - s.2 * p.2 := by
        have a1 := Rat.mul_nonneg (a := 1 / 2 - s.2) (b := 1 / 2 + p.2) (by grind) (by grind)
        have a2 := Rat.mul_nonneg (a := 1 / 2 + s.2) (b := 1 / 2 - p.2) (by grind) (by grind)
        grind
      have du := turn_def (pos_ne dn)
      have vt : (mvd s p).2 * turnQ s.1 p.1 = turnQ s.2 p.2 := Rat.div_mul_cancel tn
      generalize (mvd s p).2 = v at *
      generalize turnQ s.1 p.1 = t at *
      generalize turnQ s.2 p.2 = u at *
      have u1 : u ≤ 4 * e := by
        refine Classical.byContradiction fun c => ?_
        have := Rat.mul_pos (a := u - 4 * e) (by grind) dn
        have := Rat.mul_nonneg e0 (b := 1 - s.2 * p.2 - 1 / 2) (by grind)
        grind
      have u2 : -(4 * e) ≤ u := by
        refine Classical.byContradiction fun c => ?_
        have := Rat.mul_pos (a := -u - 4 * e) (by grind) dn
        have := Rat.mul_nonneg e0 (b := 1 - s.2 * p.2 - 1 / 2) (by grind)
        grind
      rcases (show 0 < t ∨ t < 0 by grind) with ht | ht
      · have g := Rat.mul_nonneg e0 (b := t * 128 - 1) (by have := f1 ht; grind)
        constructor
        · refine Classical.byContradiction fun c => ?_
          have := Rat.mul_pos (a := -(512 * e) - v) (by grind) ht
          grind
        · refine Classical.byContradiction fun c => ?_
          have := Rat.mul_pos (a := v - 512 * e) (by grind) ht
          grind
      · have g := Rat.mul_nonneg e0 (b := (-t) * 128 - 1) (by have := f2 ht; grind)
        constructor
        · refine Classical.byContradiction fun c => ?_
          have := Rat.mul_pos (a := -(512 * e) - v) (b := -t) (by grind) (by grind)
          grind
        · refine Classical.byContradiction fun c => ?_
          have := Rat.mul_pos (a := v - 512 * e) (b := -t) (by grind) (by grind)
          grind
    have e1 : 512 * e ≤ 1 / 2 := by
      have h1 := Rat.mul_nonneg (a := 512 * e) (by grind) (b := 512 ^ n - 1) (by grind)
      grind
    rw [if_pos (List.all_eq_true.mpr fun x hx => by
      obtain ⟨p, hp, rfl⟩ := List.mem_map.mp hx
      have := mv p hp
      rw [decide_eq_true_eq]; constructor <;> grind), Option.isSome_map]
    have ih := told_small n (pts := r.map (mvd s)) (e := 512 * e) (by simpa using hn) ⟨fun x hx => by
      obtain ⟨p, hp, rfl⟩ := List.mem_map.mp hx
      exact ok.pl p (List.mem_cons_of_mem _ hp), by
      have : (r.map (mvd s)).map (·.1) = r.map (·.1) := by rw [List.map_map]; rfl
      rw [this]; exact nd.2⟩ (fun x hx => by
      obtain ⟨p, hp, rfl⟩ := List.mem_map.mp hx
      exact ⟨(hs p (List.mem_cons_of_mem _ hp)).1, mv p hp⟩) (by grind) he
    rw [List.length_map] at ih
    exact ih
/-- a bound there is -/
theorem bd_some {pts : List (Rat × Rat)} (ok : NumOk pts) (hn : pts.length ≤ 3) (hz : ∀ p ∈ pts, bz p.1 ≤ 3 ∧ -16 ≤ p.2 ∧ p.2 ≤ 16) {s : Int} (hs : 0 < s) : Bd pts s (s * 4294967296) := by
  refine .inr ⟨by omega, ?_⟩
  have e : ((s * 4294967296 : Int) : Rat) / (s : Rat) = 4294967296 := by
    have s0 : (s : Rat) ≠ 0 := by have := Rat.intCast_pos.mpr hs; grind
    rw [Rat.intCast_mul, Rat.mul_comm, Rat.mul_div_cancel s0]; rfl
  rw [e]
  have lv : ∀ x ∈ scl 4294967296 pts, bz x.1 ≤ 3 ∧ -(1 / 268435456) ≤ x.2 ∧ x.2 ≤ 1 / 268435456 := fun x hx => by
    obtain ⟨p, hp, rfl⟩ := List.mem_map.mp hx
    obtain ⟨a, b, c⟩ := hz p hp
    refine ⟨a, ?_, ?_⟩ <;> (show _ ≤ _; simp only [Rat.div_def] at *; grind)
  have t := told_small 3 (pts := scl 4294967296 pts) (e := 1 / 268435456) (by unfold scl; rw [List.length_map]; exact hn) ok.scl' lv (by grind) (by grind)
  exact (told_iff (ok.scl fun x hx => by have := lv x hx; constructor <;> grind)).mp t
end IL

/-! least bounds: the program's -/
namespace IL
open PySem L2
structure Rw (pts : List (Rat × Rat)) : Prop extends NumOk pts where
  n : pts.length ≤ 3
  sz : ∀ p ∈ pts, bz p.1 ≤ 3 ∧ bz p.2 ≤ 50
  bd : ∀ p ∈ pts, -16 ≤ p.2 ∧ p.2 ≤ 16
theorem fr_int (c : Int) : D.tup [.int c, .int 1] = fr (c : Rat) := by
  unfold fr; rw [Rat.num_intCast, Rat.den_intCast]; rfl
theorem bz_int40 {c : Int} (h : c.natAbs < 2 ^ 40) : bz (c : Rat) ≤ 41 := by
  rw [bz_int]; have := log_of h; omega
section
variable {Φ : Str → Spec} {C : Str → Option D} {U : Str → Str → Option Bool} {μ : Store} {P : DQ} {X : XQ} {ds : List D}
def unsn : D → Rat
  | .tup [_, x] => unfr x
  | _ => 0
theorem unsn_st (s : Rat × Rat) : unsn (stD s) = s.2 := unfr_fr s.2
theorem all_eq {l : List (Rat × Rat)} {f : Rat × Rat → Bool} {Q : DQ} (h : Q (.bl (l.all f)) μ) : bfS false .all [.lst (l.map fun s => .bl (f s))] μ Q := by
  refine ⟨_, _, rfl, bools_map _ _, ?_⟩
  have e : (l.map f).all id = l.all f := by simp [List.all_map, Function.comp_def]
  rw [e]; exact h
def sp_is_bound : Spec := fun ds μ P X => ∃ pts s c, ds = [.tup (pts.map stD), .int s, .int c] ∧ Rw pts ∧ 0 < s ∧ s ≤ 100 ∧ c.natAbs < 2 ^ 40 ∧ ∀ r : Bool, (r = true ↔ Bd pts s c) → P (.bl r) μ
theorem b_is_bound (st : Stmt) (hC : C "ZERO" = some (.tup [.int 0, .int 1])) (h1 : Has Φ "over" sp_over) (h2 : Has Φ "is_level" sp_is_level) (h3 : Has Φ "can_be_told" sp_can_be_told) (h : sp_is_bound ds μ P X) : BodyOk Φ C U (d_is_bound st) ds μ P X := by
  obtain ⟨pts, s, c, rfl, R, s0, s1, c1, h⟩ := h
  refine ⟨rfl, ?_⟩
  show wSs Φ C U il_is_bound [some (.tup (pts.map stD)), some (.int s), some (.int c), none, none, none, none] μ _
  have zz : (100001 : Nat) ≤ sizeLine := by decide
  have hn := R.n
  simp only [il_is_bound, wSs, wS, wE, wEs, wHs, IL.g0, IL.g1, IL.s0, IL.s1, Option.some.injEq, exists_eq_left', exists_eq_left, IL.ex2, IL.ex3, and_true, true_and, isNop, IL.pWn, IL.pWs, tW, Bool.false_eq_true, if_true, if_false, D.int.injEq, D.bl.injEq, D.str.injEq, D.tup.injEq, D.lst.injEq, D.ref.injEq, setMany, bopS_add, bopS_sub, bopS_mul, bopS_fdiv, bopS_mod, bopS_addt, copS_lt, copS_le, copS_gt, copS_ge, copS_eqi, copS_nei, copS_isN, copS_isnN, bfS_lent, bfS_abs, bfS_max, bfS_min, bfS_int, decide_eq_true_eq, Bool.not_eq_true', decide_eq_false_iff_not, idxS_t, at2_0, at2_1, isi_int, isi_bl, isi_non, isi_str, isi_tup, isi_lst, reduceCtorEq, decide_false, decide_true, Bool.not_true, Bool.not_false, or_false, false_or, or_true, true_or, ite_self, setiR, idxS_l, bfS_lenl, bfS_lists, bfS_listt, slcS_t, slcS_l, slcS_s, newL_f, newL_t, at5_0, at5_1, at5_2, at5_3, at5_4, ix5_1, ix5_2, ix5_3, copS_neb, copS_eqb, copS_isB, idx_fr0, idx_fr1, Ob.lst.injEq, List.set_set]
  by_cases c0 : c ≤ 0
  · rw [if_pos c0]
    by_cases e0 : c = 0
    · subst e0
      rw [if_pos (by rfl)]
      simp only [cp_is_bound_0, itW, itS, wSs, wS, wE, wEs, wHs, IL.g0, IL.g1, IL.s0, IL.s1, Option.some.injEq, exists_eq_left', exists_eq_left, IL.ex2, IL.ex3, and_true, true_and, isNop, IL.pWn, IL.pWs, tW, Bool.false_eq_true, if_true, if_false, D.int.injEq, D.bl.injEq, D.str.injEq, D.tup.injEq, D.lst.injEq, D.ref.injEq, setMany, bopS_add, bopS_sub, bopS_mul, bopS_fdiv, bopS_mod, bopS_addt, copS_lt, copS_le, copS_gt, copS_ge, copS_eqi, copS_nei, copS_isN, copS_isnN, bfS_lent, bfS_abs, bfS_max, bfS_min, bfS_int, decide_eq_true_eq, Bool.not_eq_true', decide_eq_false_iff_not, idxS_t, at2_0, at2_1, isi_int, isi_bl, isi_non, isi_str, isi_tup, isi_lst, reduceCtorEq, decide_false, decide_true, Bool.not_true, Bool.not_false, or_false, false_or, or_true, true_or, ite_self, setiR, idxS_l, bfS_lenl, bfS_lists, bfS_listt, slcS_t, slcS_l, slcS_s, newL_f, newL_t, at5_0, at5_1, at5_2, at5_3, at5_4, ix5_1, ix5_2, ix5_3, copS_neb, copS_eqb, copS_isB, idx_fr0, idx_fr1, Ob.lst.injEq, List.set_set]
      refine ⟨_, rfl, ?_⟩
      simp only [wipeD, Tg.slots, wSs, wS, wE, wEs, wHs, IL.g0, IL.g1, IL.s0, IL.s1, Option.some.injEq, exists_eq_left', exists_eq_left, IL.ex2, IL.ex3, and_true, true_and, isNop, IL.pWn, IL.pWs, tW, Bool.false_eq_true, if_true, if_false, D.int.injEq, D.bl.injEq, D.str.injEq, D.tup.injEq, D.lst.injEq, D.ref.injEq, setMany, bopS_add, bopS_sub, bopS_mul, bopS_fdiv, bopS_mod, bopS_addt, copS_lt, copS_le, copS_gt, copS_ge, copS_eqi, copS_nei, copS_isN, copS_isnN, bfS_lent, bfS_abs, bfS_max, bfS_min, bfS_int, decide_eq_true_eq, Bool.not_eq_true', decide_eq_false_iff_not, idxS_t, at2_0, at2_1, isi_int, isi_bl, isi_non, isi_str, isi_tup, isi_lst, reduceCtorEq, decide_false, decide_true, Bool.not_true, Bool.not_false, or_false, false_or, or_true, true_or, ite_self, setiR, idxS_l, bfS_lenl, bfS_lists, bfS_listt, slcS_t, slcS_l, slcS_s, newL_f, newL_t, at5_0, at5_1, at5_2, at5_3, at5_4, ix5_1, ix5_2, ix5_3, copS_neb, copS_eqb, copS_isB, idx_fr0, idx_fr1, Ob.lst.injEq, List.set_set]
      refine comp_pure (fun _ => true) (fun d => .bl (decide (unsn d = 0))) trivial (by rw [List.length_map]; omega) (fun i d hd => ?_) ?_
      · obtain ⟨p, _, hp, rfl⟩ := stD_at hd
        refine ⟨_, rfl, rfl, ?_⟩
        simp only [wSs, wS, wE, wEs, wHs, IL.g0, IL.g1, IL.s0, IL.s1, Option.some.injEq, exists_eq_left', exists_eq_left, IL.ex2, IL.ex3, and_true, true_and, isNop, IL.pWn, IL.pWs, tW, Bool.false_eq_true, if_true, if_false, D.int.injEq, D.bl.injEq, D.str.injEq, D.tup.injEq, D.lst.injEq, D.ref.injEq, setMany, bopS_add, bopS_sub, bopS_mul, bopS_fdiv, bopS_mod, bopS_addt, copS_lt, copS_le, copS_gt, copS_ge, copS_eqi, copS_nei, copS_isN, copS_isnN, bfS_lent, bfS_abs, bfS_max, bfS_min, bfS_int, decide_eq_true_eq, Bool.not_eq_true', decide_eq_false_iff_not, idxS_t, at2_0, at2_1, isi_int, isi_bl, isi_non, isi_str, isi_tup, isi_lst, reduceCtorEq, decide_false, decide_true, Bool.not_true, Bool.not_false, or_false, false_or, or_true, true_or, ite_self, setiR, idxS_l, bfS_lenl, bfS_lists, bfS_listt, slcS_t, slcS_l, slcS_s, newL_f, newL_t, at5_0, at5_1, at5_2, at5_3, at5_4, ix5_1, ix5_2, ix5_3, copS_neb, copS_eqb, copS_isB, idx_fr0, idx_fr1, Ob.lst.injEq, List.set_set, hC]
        refine ⟨fun R X' hR => hR, fun _ R X' hR => ?_⟩
        rw [unsn_st] at hR
        rw [fr_zero]
        exact frz_eq hR
      · have e : ((pts.map stD).filter fun _ => true).map (fun d => D.bl (decide (unsn d = 0))) = pts.map fun p => D.bl (decide (p.2 = 0)) := by
          rw [List.filter_eq_self.mpr (fun _ _ => rfl), List.map_map]
          refine List.map_congr_left fun x _ => ?_
          show D.bl (decide (unsn (stD x) = 0)) = _
          rw [unsn_st]
        rw [e]
        refine ⟨by rw [List.length_map]; omega, all_eq (.inl (h _ ?_))⟩
        rw [List.all_eq_true]
        exact ⟨fun k => .inl ⟨rfl, fun p hp => of_decide_eq_true (k p hp)⟩, fun k p hp => by
          rcases k with ⟨_, k⟩ | ⟨k, _⟩
          · exact decide_eq_true (k p hp)
          · omega⟩
    · rw [if_neg (by simpa using e0)]
      refine .inl (h _ ⟨fun k => (by cases k), fun k => ?_⟩)
      rcases k with ⟨k, _⟩ | ⟨k, _⟩
      · exact absurd k e0
      · omega
  · rw [if_neg c0]
    have cp : 0 < c := by omega
    have qp := cs_pos cp s0
    have z1 := bz_int40 c1
    have z2 : bz (s : Rat) ≤ 8 := by
      rw [bz_int]
      have : s.natAbs < 2 ^ 7 := by omega
      have := log_of this
      omega
    have z3 := bz_div (c : Rat) (s : Rat)
    have snz : (s : Rat) ≠ 0 := by have := Rat.intCast_pos.mpr s0; grind
    simp only [cp_is_bound_1, itW, itS, wSs, wS, wE, wEs, wHs, IL.g0, IL.g1, IL.s0, IL.s1, Option.some.injEq, exists_eq_left', exists_eq_left, IL.ex2, IL.ex3, and_true, true_and, isNop, IL.pWn, IL.pWs, tW, Bool.false_eq_true, if_true, if_false, D.int.injEq, D.bl.injEq, D.str.injEq, D.tup.injEq, D.lst.injEq, D.ref.injEq, setMany, bopS_add, bopS_sub, bopS_mul, bopS_fdiv, bopS_mod, bopS_addt, copS_lt, copS_le, copS_gt, copS_ge, copS_eqi, copS_nei, copS_isN, copS_isnN, bfS_lent, bfS_abs, bfS_max, bfS_min, bfS_int, decide_eq_true_eq, Bool.not_eq_true', decide_eq_false_iff_not, idxS_t, at2_0, at2_1, isi_int, isi_bl, isi_non, isi_str, isi_tup, isi_lst, reduceCtorEq, decide_false, decide_true, Bool.not_true, Bool.not_false, or_false, false_or, or_true, true_or, ite_self, setiR, idxS_l, bfS_lenl, bfS_lists, bfS_listt, slcS_t, slcS_l, slcS_s, newL_f, newL_t, at5_0, at5_1, at5_2, at5_3, at5_4, ix5_1, ix5_2, ix5_3, copS_neb, copS_eqb, copS_isB, idx_fr0, idx_fr1, Ob.lst.injEq, List.set_set]
    refine ⟨_, rfl, ?_⟩
    simp only [wipeD, Tg.slots, wSs, wS, wE, wEs, wHs, IL.g0, IL.g1, IL.s0, IL.s1, Option.some.injEq, exists_eq_left', exists_eq_left, IL.ex2, IL.ex3, and_true, true_and, isNop, IL.pWn, IL.pWs, tW, Bool.false_eq_true, if_true, if_false, D.int.injEq, D.bl.injEq, D.str.injEq, D.tup.injEq, D.lst.injEq, D.ref.injEq, setMany, bopS_add, bopS_sub, bopS_mul, bopS_fdiv, bopS_mod, bopS_addt, copS_lt, copS_le, copS_gt, copS_ge, copS_eqi, copS_nei, copS_isN, copS_isnN, bfS_lent, bfS_abs, bfS_max, bfS_min, bfS_int, decide_eq_true_eq, Bool.not_eq_true', decide_eq_false_iff_not, idxS_t, at2_0, at2_1, isi_int, isi_bl, isi_non, isi_str, isi_tup, isi_lst, reduceCtorEq, decide_false, decide_true, Bool.not_true, Bool.not_false, or_false, false_or, or_true, true_or, ite_self, setiR, idxS_l, bfS_lenl, bfS_lists, bfS_listt, slcS_t, slcS_l, slcS_s, newL_f, newL_t, at5_0, at5_1, at5_2, at5_3, at5_4, ix5_1, ix5_2, ix5_3, copS_neb, copS_eqb, copS_isB, idx_fr0, idx_fr1, Ob.lst.injEq, List.set_set]
    refine comp_pure (fun _ => true) (fun d => stD (unst d, unsn d / ((c : Rat) / (s : Rat)))) trivial (by rw [List.length_map]; omega) (fun i d hd => ?_) ?_
    · obtain ⟨p, _, hp, rfl⟩ := stD_at hd
      refine ⟨_, rfl, rfl, ?_⟩
      simp only [wSs, wS, wE, wEs, wHs, IL.g0, IL.g1, IL.s0, IL.s1, Option.some.injEq, exists_eq_left', exists_eq_left, IL.ex2, IL.ex3, and_true, true_and, isNop, IL.pWn, IL.pWs, tW, Bool.false_eq_true, if_true, if_false, D.int.injEq, D.bl.injEq, D.str.injEq, D.tup.injEq, D.lst.injEq, D.ref.injEq, setMany, bopS_add, bopS_sub, bopS_mul, bopS_fdiv, bopS_mod, bopS_addt, copS_lt, copS_le, copS_gt, copS_ge, copS_eqi, copS_nei, copS_isN, copS_isnN, bfS_lent, bfS_abs, bfS_max, bfS_min, bfS_int, decide_eq_true_eq, Bool.not_eq_true', decide_eq_false_iff_not, idxS_t, at2_0, at2_1, isi_int, isi_bl, isi_non, isi_str, isi_tup, isi_lst, reduceCtorEq, decide_false, decide_true, Bool.not_true, Bool.not_false, or_false, false_or, or_true, true_or, ite_self, setiR, idxS_l, bfS_lenl, bfS_lists, bfS_listt, slcS_t, slcS_l, slcS_s, newL_f, newL_t, at5_0, at5_1, at5_2, at5_3, at5_4, ix5_1, ix5_2, ix5_3, copS_neb, copS_eqb, copS_isB, idx_fr0, idx_fr1, Ob.lst.injEq, List.set_set, fr_int]
      refine ⟨fun R X' hR => hR, fun _ R' X' hR => ?_⟩
      rw [unst_st, unsn_st] at hR
      have := R.sz p hp
      refine ⟨sz2, sz2, h1 _ _ _ _ ⟨_, _, rfl, by omega, fun e => absurd e snz, fun _ => h1 _ _ _ _ ⟨_, _, rfl, by omega, fun e => (by rw [e] at qp; exact absurd qp Rat.lt_irrefl), fun _ => ⟨sz2, hR⟩⟩⟩⟩
    · have e : ((pts.map stD).filter fun _ => true).map (fun d => stD (unst d, unsn d / ((c : Rat) / (s : Rat)))) = (scl ((c : Rat) / (s : Rat)) pts).map stD := by
        unfold scl
        rw [List.filter_eq_self.mpr (fun _ _ => rfl), List.map_map, List.map_map]
        refine List.map_congr_left fun x _ => ?_
        show stD (unst (stD x), unsn (stD x) / _) = stD (x.1, x.2 / _)
        rw [unst_st, unsn_st]
      rw [e]
      have len : (scl ((c : Rat) / (s : Rat)) pts).length ≤ 3 := by unfold scl; rw [List.length_map]; exact hn
      have sz : ∀ p ∈ scl ((c : Rat) / (s : Rat)) pts, bz p.1 ≤ 3 ∧ bz p.2 ≤ 100 := fun x hx => by
        obtain ⟨p, hp, rfl⟩ := List.mem_map.mp hx
        have := R.sz p hp
        have := bz_div p.2 ((c : Rat) / (s : Rat))
        exact ⟨by simp only; omega, by simp only; omega⟩
      have nok := R.toNumOk.scl' (q := (c : Rat) / (s : Rat))
      have bdd : Bd pts s c ↔ Psd (scl ((c : Rat) / (s : Rat)) pts) := ⟨fun k => by
        rcases k with ⟨k, _⟩ | ⟨_, k⟩
        · omega
        · exact k, fun k => .inr ⟨cp, k⟩⟩
      have okl := fun hl => R.toNumOk.scl (q := (c : Rat) / (s : Rat)) hl
      generalize scl ((c : Rat) / (s : Rat)) pts = rows at *
      refine ⟨by rw [List.length_map]; omega, _, rfl, ?_⟩
      simp only [cp_is_bound_2, itW, itS, wSs, wS, wE, wEs, wHs, IL.g0, IL.g1, IL.s0, IL.s1, Option.some.injEq, exists_eq_left', exists_eq_left, IL.ex2, IL.ex3, and_true, true_and, isNop, IL.pWn, IL.pWs, tW, Bool.false_eq_true, if_true, if_false, D.int.injEq, D.bl.injEq, D.str.injEq, D.tup.injEq, D.lst.injEq, D.ref.injEq, setMany, bopS_add, bopS_sub, bopS_mul, bopS_fdiv, bopS_mod, bopS_addt, copS_lt, copS_le, copS_gt, copS_ge, copS_eqi, copS_nei, copS_isN, copS_isnN, bfS_lent, bfS_abs, bfS_max, bfS_min, bfS_int, decide_eq_true_eq, Bool.not_eq_true', decide_eq_false_iff_not, idxS_t, at2_0, at2_1, isi_int, isi_bl, isi_non, isi_str, isi_tup, isi_lst, reduceCtorEq, decide_false, decide_true, Bool.not_true, Bool.not_false, or_false, false_or, or_true, true_or, ite_self, setiR, idxS_l, bfS_lenl, bfS_lists, bfS_listt, slcS_t, slcS_l, slcS_s, newL_f, newL_t, at5_0, at5_1, at5_2, at5_3, at5_4, ix5_1, ix5_2, ix5_3, copS_neb, copS_eqb, copS_isB, idx_fr0, idx_fr1, Ob.lst.injEq, List.set_set]
      refine ⟨_, rfl, ?_⟩
      simp only [wipeD, Tg.slots, wSs, wS, wE, wEs, wHs, IL.g0, IL.g1, IL.s0, IL.s1, Option.some.injEq, exists_eq_left', exists_eq_left, IL.ex2, IL.ex3, and_true, true_and, isNop, IL.pWn, IL.pWs, tW, Bool.false_eq_true, if_true, if_false, D.int.injEq, D.bl.injEq, D.str.injEq, D.tup.injEq, D.lst.injEq, D.ref.injEq, setMany, bopS_add, bopS_sub, bopS_mul, bopS_fdiv, bopS_mod, bopS_addt, copS_lt, copS_le, copS_gt, copS_ge, copS_eqi, copS_nei, copS_isN, copS_isnN, bfS_lent, bfS_abs, bfS_max, bfS_min, bfS_int, decide_eq_true_eq, Bool.not_eq_true', decide_eq_false_iff_not, idxS_t, at2_0, at2_1, isi_int, isi_bl, isi_non, isi_str, isi_tup, isi_lst, reduceCtorEq, decide_false, decide_true, Bool.not_true, Bool.not_false, or_false, false_or, or_true, true_or, ite_self, setiR, idxS_l, bfS_lenl, bfS_lists, bfS_listt, slcS_t, slcS_l, slcS_s, newL_f, newL_t, at5_0, at5_1, at5_2, at5_3, at5_4, ix5_1, ix5_2, ix5_3, copS_neb, copS_eqb, copS_isB, idx_fr0, idx_fr1, Ob.lst.injEq, List.set_set]
      refine comp_pure (fun _ => true) (fun d => .bl (decide (-1 ≤ unsn d ∧ unsn d ≤ 1))) trivial (by rw [List.length_map]; omega) (fun i d hd => ?_) ?_
      · obtain ⟨p, _, hp, rfl⟩ := stD_at hd
        refine ⟨_, rfl, rfl, ?_⟩
        simp only [wSs, wS, wE, wEs, wHs, IL.g0, IL.g1, IL.s0, IL.s1, Option.some.injEq, exists_eq_left', exists_eq_left, IL.ex2, IL.ex3, and_true, true_and, isNop, IL.pWn, IL.pWs, tW, Bool.false_eq_true, if_true, if_false, D.int.injEq, D.bl.injEq, D.str.injEq, D.tup.injEq, D.lst.injEq, D.ref.injEq, setMany, bopS_add, bopS_sub, bopS_mul, bopS_fdiv, bopS_mod, bopS_addt, copS_lt, copS_le, copS_gt, copS_ge, copS_eqi, copS_nei, copS_isN, copS_isnN, bfS_lent, bfS_abs, bfS_max, bfS_min, bfS_int, decide_eq_true_eq, Bool.not_eq_true', decide_eq_false_iff_not, idxS_t, at2_0, at2_1, isi_int, isi_bl, isi_non, isi_str, isi_tup, isi_lst, reduceCtorEq, decide_false, decide_true, Bool.not_true, Bool.not_false, or_false, false_or, or_true, true_or, ite_self, setiR, idxS_l, bfS_lenl, bfS_lists, bfS_listt, slcS_t, slcS_l, slcS_s, newL_f, newL_t, at5_0, at5_1, at5_2, at5_3, at5_4, ix5_1, ix5_2, ix5_3, copS_neb, copS_eqb, copS_isB, idx_fr0, idx_fr1, Ob.lst.injEq, List.set_set]
        refine ⟨fun R X' hR => hR, fun _ R' X' hR => ?_⟩
        rw [unsn_st] at hR
        exact h2 _ _ _ _ ⟨fr p.2, rfl, (ok_fr _).1, by rw [isLv_q]; exact hR⟩
      · have e : ((rows.map stD).filter fun _ => true).map (fun d => D.bl (decide (-1 ≤ unsn d ∧ unsn d ≤ 1))) = rows.map fun p => D.bl (decide (-1 ≤ p.2 ∧ p.2 ≤ 1)) := by
          rw [List.filter_eq_self.mpr (fun _ _ => rfl), List.map_map]
          refine List.map_congr_left fun x _ => ?_
          show D.bl (decide (-1 ≤ unsn (stD x) ∧ unsn (stD x) ≤ 1)) = _
          rw [unsn_st]
        rw [e]
        refine ⟨by rw [List.length_map]; omega, all_eq ⟨_, rfl, ?_⟩⟩
        by_cases hl : ∀ x ∈ rows, -1 ≤ x.2 ∧ x.2 ≤ 1
        · rw [if_pos (List.all_eq_true.mpr fun x hx => decide_eq_true (hl x hx))]
          have ok := okl hl
          refine h3 _ _ _ _ ⟨rows, rfl, pts_s ok sz (n := 2) len (by decide) (by decide), .inl (h _ ?_)⟩
          rw [told_iff ok, bdd]
        · rw [if_neg (fun k => hl fun x hx => of_decide_eq_true (List.all_eq_true.mp k x hx))]
          refine .inl (h _ ⟨fun k => (by cases k), fun k => absurd (lv_of_psd (bdd.mp k) nok.pl) hl⟩)
def sp_least_bound : Spec := fun ds μ P X => ∃ pts s, ds = [.tup (pts.map stD), .int s] ∧ Rw pts ∧ 0 < s ∧ s ≤ 100 ∧ ∀ h : Int, 0 ≤ h → h.natAbs < 2 ^ 40 → Bd pts s h → ¬ Bd pts s (h - 1) → P (.int h) μ
theorem bd_nn {pts : List (Rat × Rat)} {s c : Int} (h : Bd pts s c) : 0 ≤ c := by
  rcases h with ⟨k, _⟩ | ⟨k, _⟩ <;> omega
theorem b_least_bound (st : Stmt) (h1 : Has Φ "is_bound" sp_is_bound) (h : sp_least_bound ds μ P X) : BodyOk Φ C U (d_least_bound st) ds μ P X := by
  obtain ⟨pts, s, rfl, R, s0, s1, h⟩ := h
  refine ⟨rfl, ?_⟩
  show wSs Φ C U il_least_bound [some (.tup (pts.map stD)), some (.int s), none, none, none] μ _
  have top := bd_some R.toNumOk R.n (fun p hp => ⟨(R.sz p hp).1, R.bd p hp⟩) s0
  simp only [il_least_bound, lp_least_bound_0, wSs, wS, wE, wEs, wHs, IL.g0, IL.g1, IL.s0, IL.s1, Option.some.injEq, exists_eq_left', exists_eq_left, IL.ex2, IL.ex3, and_true, true_and, isNop, IL.pWn, IL.pWs, tW, Bool.false_eq_true, if_true, if_false, D.int.injEq, D.bl.injEq, D.str.injEq, D.tup.injEq, D.lst.injEq, D.ref.injEq, setMany, bopS_add, bopS_sub, bopS_mul, bopS_fdiv, bopS_mod, bopS_addt, copS_lt, copS_le, copS_gt, copS_ge, copS_eqi, copS_nei, copS_isN, copS_isnN, bfS_lent, bfS_abs, bfS_max, bfS_min, bfS_int, decide_eq_true_eq, Bool.not_eq_true', decide_eq_false_iff_not, idxS_t, at2_0, at2_1, isi_int, isi_bl, isi_non, isi_str, isi_tup, isi_lst, reduceCtorEq, decide_false, decide_true, Bool.not_true, Bool.not_false, or_false, false_or, or_true, true_or, ite_self, setiR, idxS_l, bfS_lenl, bfS_lists, bfS_listt, slcS_t, slcS_l, slcS_s, newL_f, newL_t, at5_0, at5_1, at5_2, at5_3, at5_4, ix5_1, ix5_2, ix5_3, copS_neb, copS_eqb, copS_isB, idx_fr0, idx_fr1, Ob.lst.injEq, List.set_set]
  refine ⟨mulOk_of (n := 40) (m := 40) (by omega) (by omega) (by decide), rfl, ?_⟩
  refine whl_rule (fun m ρ μ' => μ' = μ ∧ ∃ lo hi : Int, ρ = [some (.tup (pts.map stD)), some (.int s), some (.int lo), some (.int hi), none] ∧ lo < hi ∧ 0 < hi ∧ -1 ≤ lo ∧ hi ≤ 2 * (s * 4294967296) ∧ ¬ Bd pts s lo ∧ m = (2 * (s * 4294967296) - hi).toNat)
    (fun m ρ μ' ⟨e0, lo, hi, e1, a1, a2, a3, a4, a5, a6⟩ N hN => ?_) ⟨rfl, -1, s * 2, rfl, by omega, by omega, by omega, by omega, fun k => by have := bd_nn k; omega, rfl⟩
  subst e0 e1
  simp only [wSs, wS, wE, wEs, wHs, IL.g0, IL.g1, IL.s0, IL.s1, Option.some.injEq, exists_eq_left', exists_eq_left, IL.ex2, IL.ex3, and_true, true_and, isNop, IL.pWn, IL.pWs, tW, Bool.false_eq_true, if_true, if_false, D.int.injEq, D.bl.injEq, D.str.injEq, D.tup.injEq, D.lst.injEq, D.ref.injEq, setMany, bopS_add, bopS_sub, bopS_mul, bopS_fdiv, bopS_mod, bopS_addt, copS_lt, copS_le, copS_gt, copS_ge, copS_eqi, copS_nei, copS_isN, copS_isnN, bfS_lent, bfS_abs, bfS_max, bfS_min, bfS_int, decide_eq_true_eq, Bool.not_eq_true', decide_eq_false_iff_not, idxS_t, at2_0, at2_1, isi_int, isi_bl, isi_non, isi_str, isi_tup, isi_lst, reduceCtorEq, decide_false, decide_true, Bool.not_true, Bool.not_false, or_false, false_or, or_true, true_or, ite_self, setiR, idxS_l, bfS_lenl, bfS_lists, bfS_listt, slcS_t, slcS_l, slcS_s, newL_f, newL_t, at5_0, at5_1, at5_2, at5_3, at5_4, ix5_1, ix5_2, ix5_3, copS_neb, copS_eqb, copS_isB, idx_fr0, idx_fr1, Ob.lst.injEq, List.set_set]
  refine h1 _ _ _ _ ⟨pts, s, hi, rfl, R, s0, s1, by omega, fun r hr => ?_⟩
  cases r with
  | false =>
    have nb : ¬ Bd pts s hi := fun k => by have := hr.mpr k; cases this
    have lt : hi < s * 4294967296 := by
      refine Classical.byContradiction fun c => nb (bd_mono R.toNumOk s0 (by omega) top)
    simp only [wSs, wS, wE, wEs, wHs, IL.g0, IL.g1, IL.s0, IL.s1, Option.some.injEq, exists_eq_left', exists_eq_left, IL.ex2, IL.ex3, and_true, true_and, isNop, IL.pWn, IL.pWs, tW, Bool.false_eq_true, if_true, if_false, D.int.injEq, D.bl.injEq, D.str.injEq, D.tup.injEq, D.lst.injEq, D.ref.injEq, setMany, bopS_add, bopS_sub, bopS_mul, bopS_fdiv, bopS_mod, bopS_addt, copS_lt, copS_le, copS_gt, copS_ge, copS_eqi, copS_nei, copS_isN, copS_isnN, bfS_lent, bfS_abs, bfS_max, bfS_min, bfS_int, decide_eq_true_eq, Bool.not_eq_true', decide_eq_false_iff_not, idxS_t, at2_0, at2_1, isi_int, isi_bl, isi_non, isi_str, isi_tup, isi_lst, reduceCtorEq, decide_false, decide_true, Bool.not_true, Bool.not_false, or_false, false_or, or_true, true_or, ite_self, setiR, idxS_l, bfS_lenl, bfS_lists, bfS_listt, slcS_t, slcS_l, slcS_s, newL_f, newL_t, at5_0, at5_1, at5_2, at5_3, at5_4, ix5_1, ix5_2, ix5_3, copS_neb, copS_eqb, copS_isB, idx_fr0, idx_fr1, Ob.lst.injEq, List.set_set]
    exact ⟨mulOk_of (n := 40) (m := 40) (by decide) (by omega) (by decide), rfl, hN _ _ _ (by
      show (2 * (s * 4294967296) - 2 * hi).toNat < m
      omega) ⟨rfl, hi, 2 * hi, rfl, by omega, by omega, by omega, by omega, nb, rfl⟩⟩
  | true =>
    have yb : Bd pts s hi := hr.mp rfl
    simp only [wSs, wS, wE, wEs, wHs, IL.g0, IL.g1, IL.s0, IL.s1, Option.some.injEq, exists_eq_left', exists_eq_left, IL.ex2, IL.ex3, and_true, true_and, isNop, IL.pWn, IL.pWs, tW, Bool.false_eq_true, if_true, if_false, D.int.injEq, D.bl.injEq, D.str.injEq, D.tup.injEq, D.lst.injEq, D.ref.injEq, setMany, bopS_add, bopS_sub, bopS_mul, bopS_fdiv, bopS_mod, bopS_addt, copS_lt, copS_le, copS_gt, copS_ge, copS_eqi, copS_nei, copS_isN, copS_isnN, bfS_lent, bfS_abs, bfS_max, bfS_min, bfS_int, decide_eq_true_eq, Bool.not_eq_true', decide_eq_false_iff_not, idxS_t, at2_0, at2_1, isi_int, isi_bl, isi_non, isi_str, isi_tup, isi_lst, reduceCtorEq, decide_false, decide_true, Bool.not_true, Bool.not_false, or_false, false_or, or_true, true_or, ite_self, setiR, idxS_l, bfS_lenl, bfS_lists, bfS_listt, slcS_t, slcS_l, slcS_s, newL_f, newL_t, at5_0, at5_1, at5_2, at5_3, at5_4, ix5_1, ix5_2, ix5_3, copS_neb, copS_eqb, copS_isB, idx_fr0, idx_fr1, Ob.lst.injEq, List.set_set, lp_least_bound_1]
    refine whl_rule (fun m ρ μ'' => μ'' = μ' ∧ ∃ (lo hi : Int) (md : Option D), ρ = [some (.tup (pts.map stD)), some (.int s), some (.int lo), some (.int hi), md] ∧ lo < hi ∧ 0 ≤ hi ∧ -1 ≤ lo ∧ hi ≤ 2 * (s * 4294967296) ∧ ¬ Bd pts s lo ∧ Bd pts s hi ∧ m = (hi - lo).toNat)
      (fun m ρ μ'' ⟨e0, lo, hi, md, e1, a1, a2, a3, a4, a5, a7, a6⟩ N hN => ?_) ⟨rfl, lo, hi, none, rfl, a1, by omega, a3, a4, a5, yb, rfl⟩
    subst e0 e1
    simp only [wSs, wS, wE, wEs, wHs, IL.g0, IL.g1, IL.s0, IL.s1, Option.some.injEq, exists_eq_left', exists_eq_left, IL.ex2, IL.ex3, and_true, true_and, isNop, IL.pWn, IL.pWs, tW, Bool.false_eq_true, if_true, if_false, D.int.injEq, D.bl.injEq, D.str.injEq, D.tup.injEq, D.lst.injEq, D.ref.injEq, setMany, bopS_add, bopS_sub, bopS_mul, bopS_fdiv, bopS_mod, bopS_addt, copS_lt, copS_le, copS_gt, copS_ge, copS_eqi, copS_nei, copS_isN, copS_isnN, bfS_lent, bfS_abs, bfS_max, bfS_min, bfS_int, decide_eq_true_eq, Bool.not_eq_true', decide_eq_false_iff_not, idxS_t, at2_0, at2_1, isi_int, isi_bl, isi_non, isi_str, isi_tup, isi_lst, reduceCtorEq, decide_false, decide_true, Bool.not_true, Bool.not_false, or_false, false_or, or_true, true_or, ite_self, setiR, idxS_l, bfS_lenl, bfS_lists, bfS_listt, slcS_t, slcS_l, slcS_s, newL_f, newL_t, at5_0, at5_1, at5_2, at5_3, at5_4, ix5_1, ix5_2, ix5_3, copS_neb, copS_eqb, copS_isB, idx_fr0, idx_fr1, Ob.lst.injEq, List.set_set]
    by_cases c : 1 < hi - lo
    · rw [if_pos c]
      have f1 : (lo + hi).fdiv 2 = (lo + hi) / 2 := Int.fdiv_eq_ediv_of_nonneg _ (by decide)
      rw [f1]
      have m1 : lo < (lo + hi) / 2 := by omega
      have m2 : (lo + hi) / 2 < hi := by omega
      generalize (lo + hi) / 2 = mid at *
      refine ⟨show (2 : Int) ≠ 0 by decide, h1 _ _ _ _ ⟨pts, s, mid, rfl, R, s0, s1, by omega, fun r hr => ⟨_, rfl, ?_⟩⟩⟩
      cases r with
      | true =>
        rw [if_pos rfl]
        exact hN _ _ _ (by show (mid - lo).toNat < m; omega) ⟨rfl, lo, mid, _, rfl, m1, by omega, a3, by omega, a5, hr.mp rfl, rfl⟩
      | false =>
        rw [if_neg (by decide)]
        exact hN _ _ _ (by show (hi - mid).toNat < m; omega) ⟨rfl, mid, hi, _, rfl, m2, a2, by omega, a4, fun k => (by have := hr.mpr k; cases this), a7, rfl⟩
    · rw [if_neg c]
      have e : lo = hi - 1 := by omega
      subst e
      exact .inl (h hi a2 (by omega) a7 a5)
end
end IL

/-! drawn points -/
namespace IL
open PySem L2
structure PtS (most : Nat) (pts : List (Rat × Rat)) : Prop extends PtsOk pts where
  n : pts.length ≤ most
  sz : ∀ p ∈ pts, bz p.1 ≤ 3 ∧ bz p.2 ≤ 36
section
variable {Φ : Str → Spec} {C : Str → Option D} {U : Str → Str → Option Bool} {μ : Store} {P : DQ} {X : XQ} {ds : List D}
theorem lad_vsz {most : Nat} {steps : List (Rat × Rat)} {last : Rat} (hL : LadS most steps last) (hm : most ≤ 4) : ∀ x, bz x ≤ 3 → VSz steps last x := fun x hx => vsz_of hx hL.sl hL.sz (Nat.le_trans hL.n hm)
theorem lad_bv {steps : List (Rat × Rat)} {last : Rat} (hL : LadS 3 steps last) : ∀ x, bz x ≤ 3 → bz (valQ steps last x) ≤ 36 := fun x hx => by
  have h1 := bz_val1 hx hL.sl hL.sz
  have h2 := hL.n
  have h3 : (3 * 3 + 2) * steps.length ≤ (3 * 3 + 2) * 3 := Nat.mul_le_mul_left _ h2
  omega
theorem PlS.fun_s {most : Nat} {xs : List Rat} (hx : PlS most xs) {f : Rat → Rat} (h : ∀ x ∈ xs, (-1 ≤ f x ∧ f x ≤ 1) ∧ bz (f x) ≤ 36) : PtS most (xs.map fun x => (x, f x)) := by
  refine ⟨⟨fun p hp => ?_, fun p hp => ?_, ?_⟩, by rw [List.length_map]; exact hx.n, fun p hp => ?_⟩
  · obtain ⟨u, hu, rfl⟩ := List.mem_map.mp hp; exact (hx.pl u hu).1
  · obtain ⟨u, hu, rfl⟩ := List.mem_map.mp hp; exact (h u hu).1
  · rw [List.map_map]
    have : ((fun p : Rat × Rat => p.1) ∘ fun x => (x, f x)) = id := rfl
    rw [this, List.map_id]; exact hx.nd
  · obtain ⟨u, hu, rfl⟩ := List.mem_map.mp hp; exact ⟨(hx.pl u hu).2, (h u hu).2⟩
def sp_law_points : Spec := fun ds μ P X => ∃ m c o most, ds = [.ref m, .int (most : Nat)] ∧ most ≤ 8 ∧ μ[m]? = some o ∧ Pool c o ∧ c + 11000 < 2 ^ 64 ∧ ∀ pts o', PtS most pts → Pool (c + 100) o' → P (.tup (pts.map stD)) (μ.set m o')
theorem b_law_points (st : Stmt) (h1 : Has Φ "_law_draw" sp_draw) (h2 : Has Φ "_law_ladder" sp_law_ladder) (h3 : Has Φ "_law_places" sp_law_places) (h4 : Has Φ "_law_on" sp_value_on) (h5 : Has Φ "_law_level" sp_level) (h : sp_law_points ds μ P X) : BodyOk Φ C U (d_law_points st) ds μ P X := by
  obtain ⟨m, c, o, most, rfl, hm, hμ, hp, hc, h⟩ := h
  refine ⟨rfl, ?_⟩
  show wSs Φ C U il_law_points [some (.ref m), some (.int (most : Nat)), none, none] μ _
  have zz : (100001 : Nat) ≤ sizeLine := by decide
  simp only [il_law_points, wSs, wS, wE, wEs, wHs, IL.g0, IL.g1, IL.s0, IL.s1, Option.some.injEq, exists_eq_left', exists_eq_left, IL.ex2, IL.ex3, and_true, true_and, isNop, IL.pWn, IL.pWs, tW, Bool.false_eq_true, if_true, if_false, D.int.injEq, D.bl.injEq, D.str.injEq, D.tup.injEq, D.lst.injEq, D.ref.injEq, setMany, bopS_add, bopS_sub, bopS_mul, bopS_fdiv, bopS_mod, bopS_addt, copS_lt, copS_le, copS_gt, copS_ge, copS_eqi, copS_nei, copS_isN, copS_isnN, bfS_lent, bfS_abs, bfS_max, bfS_min, bfS_int, decide_eq_true_eq, Bool.not_eq_true', decide_eq_false_iff_not, idxS_t, at2_0, at2_1, isi_int, isi_bl, isi_non, isi_str, isi_tup, isi_lst, reduceCtorEq, decide_false, decide_true, Bool.not_true, Bool.not_false, or_false, false_or, or_true, true_or, ite_self, setiR, idxS_l, bfS_lenl, bfS_lists, bfS_listt, slcS_t, slcS_l, slcS_s, newL_f, newL_t, at5_0, at5_1, at5_2, at5_3, at5_4, ix5_1, ix5_2, ix5_3, copS_neb, copS_eqb, copS_isB, idx_fr0, idx_fr1, Ob.lst.injEq, List.set_set]
  refine h1 _ _ _ _ ⟨m, 2, c, o, rfl, by decide, by decide, hμ, hp, by omega, fun v o1 v0 v1 hp1 => ?_⟩
  have hm1 := gs_of hμ o1
  simp only [wSs, wS, wE, wEs, wHs, IL.g0, IL.g1, IL.s0, IL.s1, Option.some.injEq, exists_eq_left', exists_eq_left, IL.ex2, IL.ex3, and_true, true_and, isNop, IL.pWn, IL.pWs, tW, Bool.false_eq_true, if_true, if_false, D.int.injEq, D.bl.injEq, D.str.injEq, D.tup.injEq, D.lst.injEq, D.ref.injEq, setMany, bopS_add, bopS_sub, bopS_mul, bopS_fdiv, bopS_mod, bopS_addt, copS_lt, copS_le, copS_gt, copS_ge, copS_eqi, copS_nei, copS_isN, copS_isnN, bfS_lent, bfS_abs, bfS_max, bfS_min, bfS_int, decide_eq_true_eq, Bool.not_eq_true', decide_eq_false_iff_not, idxS_t, at2_0, at2_1, isi_int, isi_bl, isi_non, isi_str, isi_tup, isi_lst, reduceCtorEq, decide_false, decide_true, Bool.not_true, Bool.not_false, or_false, false_or, or_true, true_or, ite_self, setiR, idxS_l, bfS_lenl, bfS_lists, bfS_listt, slcS_t, slcS_l, slcS_s, newL_f, newL_t, at5_0, at5_1, at5_2, at5_3, at5_4, ix5_1, ix5_2, ix5_3, copS_neb, copS_eqb, copS_isB, idx_fr0, idx_fr1, Ob.lst.injEq, List.set_set]
  split
  · refine h2 _ _ _ _ ⟨m, _, o1, 3, rfl, by decide, hm1, hp1, by omega, fun steps last o2 hL hp2 => ?_⟩
    have hm2 := gs_of hm1 o2
    rw [List.set_set] at *
    simp only [cp_law_points_0, itW, itS, wSs, wS, wE, wEs, wHs, IL.g0, IL.g1, IL.s0, IL.s1, Option.some.injEq, exists_eq_left', exists_eq_left, IL.ex2, IL.ex3, and_true, true_and, isNop, IL.pWn, IL.pWs, tW, Bool.false_eq_true, if_true, if_false, D.int.injEq, D.bl.injEq, D.str.injEq, D.tup.injEq, D.lst.injEq, D.ref.injEq, setMany, bopS_add, bopS_sub, bopS_mul, bopS_fdiv, bopS_mod, bopS_addt, copS_lt, copS_le, copS_gt, copS_ge, copS_eqi, copS_nei, copS_isN, copS_isnN, bfS_lent, bfS_abs, bfS_max, bfS_min, bfS_int, decide_eq_true_eq, Bool.not_eq_true', decide_eq_false_iff_not, idxS_t, at2_0, at2_1, isi_int, isi_bl, isi_non, isi_str, isi_tup, isi_lst, reduceCtorEq, decide_false, decide_true, Bool.not_true, Bool.not_false, or_false, false_or, or_true, true_or, ite_self, setiR, idxS_l, bfS_lenl, bfS_lists, bfS_listt, slcS_t, slcS_l, slcS_s, newL_f, newL_t, at5_0, at5_1, at5_2, at5_3, at5_4, ix5_1, ix5_2, ix5_3, copS_neb, copS_eqb, copS_isB, idx_fr0, idx_fr1, Ob.lst.injEq, List.set_set]
    refine h3 _ _ _ _ ⟨m, _, o2, most, rfl, by omega, hm2, hp2, by omega, fun xs o3 hx hp3 => ?_⟩
    rw [List.set_set]
    refine ⟨_, rfl, ?_⟩
    simp only [wipeD, Tg.slots, wSs, wS, wE, wEs, wHs, IL.g0, IL.g1, IL.s0, IL.s1, Option.some.injEq, exists_eq_left', exists_eq_left, IL.ex2, IL.ex3, and_true, true_and, isNop, IL.pWn, IL.pWs, tW, Bool.false_eq_true, if_true, if_false, D.int.injEq, D.bl.injEq, D.str.injEq, D.tup.injEq, D.lst.injEq, D.ref.injEq, setMany, bopS_add, bopS_sub, bopS_mul, bopS_fdiv, bopS_mod, bopS_addt, copS_lt, copS_le, copS_gt, copS_ge, copS_eqi, copS_nei, copS_isN, copS_isnN, bfS_lent, bfS_abs, bfS_max, bfS_min, bfS_int, decide_eq_true_eq, Bool.not_eq_true', decide_eq_false_iff_not, idxS_t, at2_0, at2_1, isi_int, isi_bl, isi_non, isi_str, isi_tup, isi_lst, reduceCtorEq, decide_false, decide_true, Bool.not_true, Bool.not_false, or_false, false_or, or_true, true_or, ite_self, setiR, idxS_l, bfS_lenl, bfS_lists, bfS_listt, slcS_t, slcS_l, slcS_s, newL_f, newL_t, at5_0, at5_1, at5_2, at5_3, at5_4, ix5_1, ix5_2, ix5_3, copS_neb, copS_eqb, copS_isB, idx_fr0, idx_fr1, Ob.lst.injEq, List.set_set]
    have hxn := hx.n
    refine w_comp_on (C := C) (i := 2) (j := 3) (v := ladD steps last) (G := valQ steps last) (by decide) (show 3 < 4 by decide) rfl trivial (by omega) (fun x hx' R X' hR => h4 _ _ _ _ ⟨steps, last, x, rfl, hL.toLadOk, (hx.pl x hx').1, lad_vsz hL (by decide) x (hx.pl x hx').2, hR⟩) ?_
    refine ⟨by rw [List.length_map, List.length_map]; omega, _, rfl, .inl (h _ o3 (hx.fun_s fun x hx' => ⟨val_bd (hx.pl x hx').1.1 (hx.pl x hx').1.2 hL.toLadOk, lad_bv hL x (hx.pl x hx').2⟩) (hp3.mono (by omega)))⟩
  · simp only [cp_law_points_1, itW, itS, wSs, wS, wE, wEs, wHs, IL.g0, IL.g1, IL.s0, IL.s1, Option.some.injEq, exists_eq_left', exists_eq_left, IL.ex2, IL.ex3, and_true, true_and, isNop, IL.pWn, IL.pWs, tW, Bool.false_eq_true, if_true, if_false, D.int.injEq, D.bl.injEq, D.str.injEq, D.tup.injEq, D.lst.injEq, D.ref.injEq, setMany, bopS_add, bopS_sub, bopS_mul, bopS_fdiv, bopS_mod, bopS_addt, copS_lt, copS_le, copS_gt, copS_ge, copS_eqi, copS_nei, copS_isN, copS_isnN, bfS_lent, bfS_abs, bfS_max, bfS_min, bfS_int, decide_eq_true_eq, Bool.not_eq_true', decide_eq_false_iff_not, idxS_t, at2_0, at2_1, isi_int, isi_bl, isi_non, isi_str, isi_tup, isi_lst, reduceCtorEq, decide_false, decide_true, Bool.not_true, Bool.not_false, or_false, false_or, or_true, true_or, ite_self, setiR, idxS_l, bfS_lenl, bfS_lists, bfS_listt, slcS_t, slcS_l, slcS_s, newL_f, newL_t, at5_0, at5_1, at5_2, at5_3, at5_4, ix5_1, ix5_2, ix5_3, copS_neb, copS_eqb, copS_isB, idx_fr0, idx_fr1, Ob.lst.injEq, List.set_set]
    refine h3 _ _ _ _ ⟨m, _, o1, most, rfl, by omega, hm1, hp1, by omega, fun xs o3 hx hp3 => ?_⟩
    rw [List.set_set]
    refine ⟨_, rfl, ?_⟩
    simp only [wipeD, Tg.slots, wSs, wS, wE, wEs, wHs, IL.g0, IL.g1, IL.s0, IL.s1, Option.some.injEq, exists_eq_left', exists_eq_left, IL.ex2, IL.ex3, and_true, true_and, isNop, IL.pWn, IL.pWs, tW, Bool.false_eq_true, if_true, if_false, D.int.injEq, D.bl.injEq, D.str.injEq, D.tup.injEq, D.lst.injEq, D.ref.injEq, setMany, bopS_add, bopS_sub, bopS_mul, bopS_fdiv, bopS_mod, bopS_addt, copS_lt, copS_le, copS_gt, copS_ge, copS_eqi, copS_nei, copS_isN, copS_isnN, bfS_lent, bfS_abs, bfS_max, bfS_min, bfS_int, decide_eq_true_eq, Bool.not_eq_true', decide_eq_false_iff_not, idxS_t, at2_0, at2_1, isi_int, isi_bl, isi_non, isi_str, isi_tup, isi_lst, reduceCtorEq, decide_false, decide_true, Bool.not_true, Bool.not_false, or_false, false_or, or_true, true_or, ite_self, setiR, idxS_l, bfS_lenl, bfS_lists, bfS_listt, slcS_t, slcS_l, slcS_s, newL_f, newL_t, at5_0, at5_1, at5_2, at5_3, at5_4, ix5_1, ix5_2, ix5_3, copS_neb, copS_eqb, copS_isB, idx_fr0, idx_fr1, Ob.lst.injEq, List.set_set]
    have hxn := hx.n
    refine comp_rule (fun i acc μ' => ∃ (ps : List (Rat × Rat)) (o' : Ob), acc = ps.map stD ∧ i ≤ xs.length ∧ ps.map (·.1) = xs.take i ∧ (∀ p ∈ ps, (-1 ≤ p.2 ∧ p.2 ≤ 1) ∧ bz p.2 ≤ 3) ∧ Pool (c + 1 + 2 * most + 1 + 2 * i) o' ∧ μ' = μ.set m o')
      (fun i d acc μ' hd ⟨ps, o', e1, e2, e3, e4, hp', e5⟩ => ⟨trivial, ?_⟩) (fun acc μ' ⟨ps, o', e1, e2, e3, e4, hp', e5⟩ => ⟨trivial, ?_⟩) ⟨[], o3, rfl, Nat.zero_le _, rfl, nofun, hp3, rfl⟩
    · subst e1 e5
      rw [List.getElem?_map] at hd
      obtain ⟨x, hx', rfl⟩ := Option.map_eq_some_iff.mp hd
      have hil := (List.getElem?_eq_some_iff.mp hx').1
      intro N hN
      simp only [tW, wSs, wS, wE, wEs, wHs, IL.g0, IL.g1, IL.s0, IL.s1, Option.some.injEq, exists_eq_left', exists_eq_left, IL.ex2, IL.ex3, and_true, true_and, isNop, IL.pWn, IL.pWs, tW, Bool.false_eq_true, if_true, if_false, D.int.injEq, D.bl.injEq, D.str.injEq, D.tup.injEq, D.lst.injEq, D.ref.injEq, setMany, bopS_add, bopS_sub, bopS_mul, bopS_fdiv, bopS_mod, bopS_addt, copS_lt, copS_le, copS_gt, copS_ge, copS_eqi, copS_nei, copS_isN, copS_isnN, bfS_lent, bfS_abs, bfS_max, bfS_min, bfS_int, decide_eq_true_eq, Bool.not_eq_true', decide_eq_false_iff_not, idxS_t, at2_0, at2_1, isi_int, isi_bl, isi_non, isi_str, isi_tup, isi_lst, reduceCtorEq, decide_false, decide_true, Bool.not_true, Bool.not_false, or_false, false_or, or_true, true_or, ite_self, setiR, idxS_l, bfS_lenl, bfS_lists, bfS_listt, slcS_t, slcS_l, slcS_s, newL_f, newL_t, at5_0, at5_1, at5_2, at5_3, at5_4, ix5_1, ix5_2, ix5_3, copS_neb, copS_eqb, copS_isB, idx_fr0, idx_fr1, Ob.lst.injEq, List.set_set]
      refine h5 _ _ _ _ ⟨m, _, o', rfl, gs_of hμ o', hp', by omega, fun q o4 q0 q1 qz hp4 => ⟨sz2, ?_, hN _ _ ⟨ps ++ [(x, q)], o4, by simp [stD], hil, ?_, fun p hp => ?_, hp4.mono (by omega), by rw [List.set_set]⟩⟩⟩
      · have := congrArg List.length e3
        rw [List.length_map, List.length_take] at this
        rw [List.length_map]; omega
      · rw [List.map_append, e3, List.take_succ, hx']; rfl
      · rcases List.mem_append.mp hp with hp | hp
        · exact e4 p hp
        · rw [List.mem_singleton.mp hp]; exact ⟨⟨by grind, by grind⟩, qz⟩
    · subst e1 e5
      rw [List.length_map, List.take_length] at e3
      rw [List.length_map] at hp'
      have len : ps.length = xs.length := by rw [← e3, List.length_map]
      have mem : ∀ p ∈ ps, p.1 ∈ xs := fun p hp => by rw [← e3]; exact List.mem_map_of_mem hp
      refine ⟨by rw [List.length_map]; omega, _, rfl, .inl (h ps o' ⟨⟨fun p hp => (hx.pl _ (mem p hp)).1, fun p hp => (e4 p hp).1, by rw [e3]; exact hx.nd⟩, by omega, fun p hp => ⟨(hx.pl _ (mem p hp)).2, by have := (e4 p hp).2; omega⟩⟩ (hp'.mono (by omega)))⟩
end
end IL

/-! least bounds, reckoned -/
namespace IL
open PySem L2
structure Lst (pts : List (Rat × Rat)) (s h : Int) : Prop where
  nn : 0 ≤ h
  at_ : Bd pts s h
  no : ¬ Bd pts s (h - 1)
theorem Lst.iff {pts : List (Rat × Rat)} (ok : NumOk pts) {s h : Int} (hs : 0 < s) (L : Lst pts s h) (c : Int) : Bd pts s c ↔ h ≤ c :=
  ⟨fun k => Classical.byContradiction fun n => L.no (bd_mono ok hs (by omega) k), fun k => bd_mono ok hs k L.at_⟩
theorem bd_sub {pts qs : List (Rat × Rat)} (ok : NumOk pts) {s c : Int} (h : ∀ q ∈ qs, q ∈ pts) (hb : Bd pts s c) : Bd qs s c := by
  rcases hb with ⟨e, z⟩ | ⟨c0, p⟩
  · exact .inl ⟨e, fun q hq => z q (h q hq)⟩
  · refine .inr ⟨c0, psd_sub (nodup_map (by rw [scl_fst]; exact ok.nd)) p fun x hx => ?_⟩
    obtain ⟨q, hq, rfl⟩ := List.mem_map.mp hx
    exact List.mem_map.mpr ⟨q, h q hq, rfl⟩
def mulP (k : Rat) (pts : List (Rat × Rat)) : List (Rat × Rat) := pts.map fun p => (p.1, k * p.2)
theorem NumOk.mulP {pts : List (Rat × Rat)} (h : NumOk pts) {k : Rat} : NumOk (mulP k pts) := ⟨fun x hx => by
  obtain ⟨p, hp, rfl⟩ := List.mem_map.mp hx; exact h.pl p hp, by
  have : (IL.mulP k pts).map (·.1) = pts.map (·.1) := by unfold IL.mulP; rw [List.map_map]; rfl
  rw [this]; exact h.nd⟩
theorem scl_congr {pts : List (Rat × Rat)} {q r k : Rat} (h : ∀ x : Rat, k * x / q = x / r) : scl q (mulP k pts) = scl r pts := by
  unfold scl mulP
  rw [List.map_map]
  refine List.map_congr_left fun p _ => ?_
  show (p.1, k * p.2 / q) = (p.1, p.2 / r)
  rw [h]
theorem bd_neg1 {pts : List (Rat × Rat)} (ok : NumOk pts) {s c : Int} (h : Bd pts s c) : Bd (mulP (-1) pts) s c := by
  rcases h with ⟨e, z⟩ | ⟨c0, p⟩
  · refine .inl ⟨e, fun x hx => ?_⟩
    obtain ⟨p, hp, rfl⟩ := List.mem_map.mp hx
    show -1 * p.2 = 0
    rw [z p hp, Rat.mul_zero]
  · refine .inr ⟨c0, ?_⟩
    have := psd_sclm (ok.scl' (q := (c : Rat) / s)) (k := -1) (by decide) (by decide) p
    have e : (scl ((c : Rat) / s) pts).map (fun p => (p.1, -1 * p.2)) = scl ((c : Rat) / s) (mulP (-1) pts) := by
      unfold scl mulP
      rw [List.map_map, List.map_map]
      refine List.map_congr_left fun p _ => ?_
      show (p.1, -1 * (p.2 / _)) = (p.1, -1 * p.2 / _)
      congr 1; rw [Rat.div_def, Rat.div_def]; grind
    rw [e] at this; exact this
theorem bd_neg {pts : List (Rat × Rat)} (ok : NumOk pts) {s c : Int} : Bd (mulP (-1) pts) s c ↔ Bd pts s c := by
  refine ⟨fun h => ?_, bd_neg1 ok⟩
  have := bd_neg1 ok.mulP h
  have e : mulP (-1) (mulP (-1) pts) = pts := by
    unfold mulP
    rw [List.map_map]
    conv => rhs; rw [← List.map_id pts]
    refine List.map_congr_left fun p _ => ?_
    show (p.1, -1 * (-1 * p.2)) = p
    rw [show -1 * (-1 * p.2) = p.2 by grind]
  rw [e] at this; exact this
theorem ne_of_pos {i : Int} (h : 0 < i) : (i : Rat) ≠ 0 := by have := Rat.intCast_pos.mpr h; grind
theorem bd_mulz {pts : List (Rat × Rat)} {m : Int} (hm : 0 < m) : (∀ p ∈ mulP (m : Rat) pts, p.2 = 0) ↔ ∀ p ∈ pts, p.2 = 0 := by
  constructor
  · intro h p hp
    have := h (p.1, m * p.2) (List.mem_map.mpr ⟨p, hp, rfl⟩)
    exact (Rat.mul_eq_zero.mp this).resolve_left (ne_of_pos hm)
  · intro h x hx
    obtain ⟨p, hp, rfl⟩ := List.mem_map.mp hx
    show (m : Rat) * p.2 = 0
    rw [h p hp, Rat.mul_zero]
/-- multiples of all numbers -/
theorem bd_mul {pts : List (Rat × Rat)} {s c m : Int} (hs : 0 < s) (hm : 0 < m) : Bd (mulP (m : Rat) pts) s (m * c) ↔ Bd pts s c := by
  have m0 := ne_of_pos hm
  have s0 := ne_of_pos hs
  have e : 0 < c → scl (((m * c : Int) : Rat) / s) (mulP (m : Rat) pts) = scl ((c : Rat) / s) pts := fun hc => scl_congr fun x => by
    have c0 := ne_of_pos hc
    rw [Rat.intCast_mul]
    simp only [Rat.div_def, Rat.inv_mul_rev, Rat.inv_inv]
    have := Rat.mul_inv_cancel (m : Rat) m0
    grind
  unfold Bd
  rw [bd_mulz hm]
  constructor
  · rintro (⟨h1, h2⟩ | ⟨h1, h2⟩)
    · exact .inl ⟨(Int.mul_eq_zero.mp h1).resolve_left (by omega), h2⟩
    · have hc : 0 < c := Int.pos_of_mul_pos_right h1 (by omega) |> fun h => h
      exact .inr ⟨hc, by rw [← e hc]; exact h2⟩
  · rintro (⟨h1, h2⟩ | ⟨h1, h2⟩)
    · exact .inl ⟨by rw [h1, Int.mul_zero], h2⟩
    · exact .inr ⟨Int.mul_pos hm h1, by rw [e h1]; exact h2⟩
theorem bd_fine {pts : List (Rat × Rat)} {s c m : Int} (hs : 0 < s) (hm : 0 < m) : Bd (mulP (m : Rat) pts) s c ↔ Bd pts (m * s) c := by
  have m0 := ne_of_pos hm
  have s0 := ne_of_pos hs
  have e : 0 < c → scl ((c : Rat) / s) (mulP (m : Rat) pts) = scl ((c : Rat) / ((m * s : Int) : Rat)) pts := fun hc => scl_congr fun x => by
    have c0 := ne_of_pos hc
    rw [Rat.intCast_mul]
    simp only [Rat.div_def, Rat.inv_mul_rev, Rat.inv_inv]
    grind
  unfold Bd
  rw [bd_mulz hm]
  constructor
  · rintro (h | ⟨h1, h2⟩)
    · exact .inl h
    · exact .inr ⟨h1, by rw [← e h1]; exact h2⟩
  · rintro (h | ⟨h1, h2⟩)
    · exact .inl h
    · exact .inr ⟨h1, by rw [e h1]; exact h2⟩
/-- the size itself as the bound -/
theorem bd_self {pts : List (Rat × Rat)} {s : Int} (hs : 0 < s) : Bd pts s s ↔ Psd pts := by
  have e : scl ((s : Rat) / s) pts = pts := by
    have : (s : Rat) / s = 1 := by rw [Rat.div_def, Rat.mul_inv_cancel _ (ne_of_pos hs)]
    rw [this]
    unfold scl
    conv => rhs; rw [← List.map_id pts]
    refine List.map_congr_left fun p _ => ?_
    show (p.1, p.2 / 1) = p
    rw [show p.2 / 1 = p.2 by grind]
  unfold Bd
  rw [e]
  constructor
  · rintro (⟨h, _⟩ | ⟨_, h⟩)
    · omega
    · exact h
  · exact fun h => .inr ⟨hs, h⟩
/-- one number alone -/
theorem bd_one {p q : Rat} {s c : Int} (hp : -1 < p ∧ p < 1) (hs : 0 < s) (hc : 0 ≤ c) : Bd [(p, q)] s c ↔ q.num.natAbs * s ≤ c * q.den := by
  have psd1 : ∀ {w : Rat}, -1 ≤ w ∧ w ≤ 1 → Psd [(p, w)] := fun {w} h => by
    have ok : PtsOk [(p, w)] := ⟨by simpa using hp, by simpa using h, by simp⟩
    refine (told_iff ok).mp ?_
    simp only [ladQ, ladN, List.length_cons, List.length_nil]
    split <;> simp [ladN]
  have dp := q.den_pos
  have key : 0 < c → (Psd (scl ((c : Rat) / s) [(p, q)]) ↔ (q.num.natAbs : Int) * s ≤ c * q.den) := fun h0 => by
    have qp := cs_pos h0 hs
    have e1 : Psd (scl ((c : Rat) / s) [(p, q)]) ↔ (-1 ≤ q / ((c : Rat) / s) ∧ q / ((c : Rat) / s) ≤ 1) :=
      ⟨fun h => lv_of_psd h (by unfold scl; simpa using hp) (p, q / ((c : Rat) / s)) (by simp [scl]), fun h => psd1 h⟩
    rw [e1]
    have c0 : (0 : Rat) < c := Rat.intCast_pos.mpr h0
    have s0 : (0 : Rat) < s := Rat.intCast_pos.mpr hs
    have d0 : (0 : Rat) < ((q.den : Int) : Rat) := Rat.intCast_pos.mpr (by omega)
    have nq := num_eq q
    have cd : (c : Rat) / s * s = c := Rat.div_mul_cancel (ne_of_pos hs)
    have wq : q / ((c : Rat) / s) * ((c : Rat) / s) = q := Rat.div_mul_cancel (by grind)
    generalize q / ((c : Rat) / s) = w at *
    generalize (c : Rat) / s = r at *
    have e2 : (-1 ≤ w ∧ w ≤ 1) ↔ ((q.num : Rat) * s ≤ c * ((q.den : Int) : Rat) ∧ -((q.num : Rat) * s) ≤ c * ((q.den : Int) : Rat)) := by
      rw [nq, ← cd, show q * ((q.den : Int) : Rat) * s = w * r * ((q.den : Int) : Rat) * s by rw [wq]]
      have e3 : w * r * ((q.den : Int) : Rat) * s = w * (r * s * ((q.den : Int) : Rat)) := by grind
      rw [e3]
      have pp := Rat.mul_pos (Rat.mul_pos qp s0) d0
      generalize r * s * ((q.den : Int) : Rat) = z at *
      constructor
      · intro ⟨a, b⟩
        have := Rat.mul_nonneg (a := 1 - w) (by grind) (Rat.le_of_lt pp)
        have := Rat.mul_nonneg (a := 1 + w) (by grind) (Rat.le_of_lt pp)
        constructor <;> grind
      · intro ⟨a, b⟩
        refine ⟨Classical.byContradiction fun n => ?_, Classical.byContradiction fun n => ?_⟩
        · have := Rat.mul_pos (a := -1 - w) (by grind) pp; grind
        · have := Rat.mul_pos (a := w - 1) (by grind) pp; grind
    rw [e2, ← Rat.intCast_mul, ← Rat.intCast_mul, ← Rat.intCast_neg, Rat.intCast_le_intCast, Rat.intCast_le_intCast]
    have hcase : (q.num.natAbs : Int) = q.num ∨ (q.num.natAbs : Int) = -q.num := by omega
    have sgn : (q.num.natAbs : Int) = q.num ∧ 0 ≤ q.num ∨ (q.num.natAbs : Int) = -q.num ∧ q.num < 0 := by omega
    have cdn : 0 ≤ c * (q.den : Int) := Int.mul_nonneg hc (by omega)
    rcases sgn with ⟨e, k⟩ | ⟨e, k⟩
    · rw [e]
      have := Int.mul_nonneg k (Int.le_of_lt hs)
      constructor
      · exact fun h => h.1
      · exact fun h => ⟨h, by omega⟩
    · rw [e, Int.neg_mul]
      have := Int.mul_nonneg (a := -q.num) (by omega) (Int.le_of_lt hs)
      rw [Int.neg_mul] at this
      constructor
      · exact fun h => h.2
      · exact fun h => ⟨by omega, h⟩
  by_cases h0 : c = 0
  · subst h0
    unfold Bd
    constructor
    · rintro (⟨_, h⟩ | ⟨h, _⟩)
      · have := h (p, q) (by simp)
        simp only at this
        rw [this]; simp
      · omega
    · intro h
      refine .inl ⟨rfl, fun x hx => ?_⟩
      simp at hx; rw [hx]
      show q = 0
      rw [Int.zero_mul] at h
      have : q.num.natAbs = 0 := by
        refine Classical.byContradiction fun n => ?_
        have := Int.mul_pos (a := (q.num.natAbs : Int)) (b := s) (by omega) hs
        omega
      exact Rat.num_eq_zero.mp (by omega)
  · have h0' : 0 < c := by omega
    rw [← key h0']
    unfold Bd
    constructor
    · rintro (⟨h, _⟩ | ⟨_, h⟩)
      · omega
      · exact h
    · exact fun h => .inr ⟨h0', h⟩
end IL

/-! the law of bounds -/
namespace IL
open PySem L2
theorem cut_take {α : Type} {l : List α} {k : Nat} (h : k ≤ l.length) : cut l none (some (k : Int)) = l.take k := by
  unfold cut
  have e1 : HT.sIx l.length 0 none = 0 := by simp [HT.sIx]
  have e2 : HT.sIx l.length l.length (some (k : Int)) = k := by
    rw [HT.sIx_nat]; omega
  rw [e1, e2]; simp
theorem cut_drop {α : Type} {l : List α} {k : Nat} (h : k ≤ l.length) : cut l (some (k : Int)) none = l.drop k := by
  unfold cut
  have e1 : HT.sIx l.length 0 (some (k : Int)) = k := by rw [HT.sIx_nat]; omega
  have e2 : HT.sIx l.length l.length none = l.length := by simp [HT.sIx]
  rw [e1, e2]
  rw [List.take_of_length_le (by rw [List.length_drop]; exact Nat.le_refl _)]
structure RwD (pts : List (Rat × Rat)) : Prop extends NumOk pts where
  n : pts.length ≤ 3
  sz : ∀ p ∈ pts, bz p.1 ≤ 3 ∧ bz p.2 ≤ 3
  bd : ∀ p ∈ pts, -4 ≤ p.2 ∧ p.2 ≤ 4
theorem RwD.rw_ {pts : List (Rat × Rat)} (h : RwD pts) : Rw pts := ⟨h.toNumOk, h.n, fun p hp => by have := h.sz p hp; omega, fun p hp => by have := h.bd p hp; constructor <;> grind⟩
theorem RwD.mulP {pts : List (Rat × Rat)} (h : RwD pts) {k : Rat} (k1 : bz k ≤ 3) (k2 : -3 ≤ k) (k3 : k ≤ 3) : Rw (mulP k pts) := by
  refine ⟨h.toNumOk.mulP, by unfold IL.mulP; rw [List.length_map]; exact h.n, fun x hx => ?_, fun x hx => ?_⟩
  · obtain ⟨p, hp, rfl⟩ := List.mem_map.mp hx
    have := h.sz p hp
    have := bz_mul k p.2
    exact ⟨by simp only; omega, by simp only; omega⟩
  · obtain ⟨p, hp, rfl⟩ := List.mem_map.mp hx
    have ⟨a, b⟩ := h.bd p hp
    have m1 := Rat.mul_nonneg (a := 3 - k) (b := 4 - p.2) (by grind) (by grind)
    have m2 := Rat.mul_nonneg (a := 3 - k) (b := 4 + p.2) (by grind) (by grind)
    have m3 := Rat.mul_nonneg (a := 3 + k) (b := 4 - p.2) (by grind) (by grind)
    have m4 := Rat.mul_nonneg (a := 3 + k) (b := 4 + p.2) (by grind) (by grind)
    constructor <;> (simp only; grind)
theorem RwD.sub {pts qs : List (Rat × Rat)} (h : RwD pts) (hs : qs.Sublist pts) : RwD qs :=
  ⟨⟨fun q hq => h.pl q (hs.subset hq), h.nd.sublist (hs.map _)⟩, Nat.le_trans hs.length_le h.n, fun q hq => h.sz q (hs.subset hq), fun q hq => h.bd q (hs.subset hq)⟩
theorem set_self' {μ : Store} {m : Nat} {o : Ob} (h : μ[m]? = some o) : μ.set m o = μ := by
  obtain ⟨h1, h2⟩ := List.getElem?_eq_some_iff.mp h
  rw [← h2]; exact List.set_getElem_self h1
theorem num_cases {a b : Int} (a0 : 0 ≤ a) (a1 : a < 9) (b0 : 0 ≤ b) (b1 : b < 2) : (-4 ≤ Rat.divInt (a - 4) (1 + b) ∧ Rat.divInt (a - 4) (1 + b) ≤ 4) ∧ bz (Rat.divInt (a - 4) (1 + b)) ≤ 3 := by
  have ha : a = 0 ∨ a = 1 ∨ a = 2 ∨ a = 3 ∨ a = 4 ∨ a = 5 ∨ a = 6 ∨ a = 7 ∨ a = 8 := by omega
  have hb : b = 0 ∨ b = 1 := by omega
  rcases ha with rfl | rfl | rfl | rfl | rfl | rfl | rfl | rfl | rfl <;> rcases hb with rfl | rfl <;> decide +kernel
section
variable {Φ : Str → Spec} {C : Str → Option D} {U : Str → Str → Option Bool} {μ : Store} {P : DQ} {X : XQ} {ds : List D}
theorem call_lb (h : Has Φ "least_bound" sp_least_bound) {pts : List (Rat × Rat)} {s : Int} {Q : DQ} (R : Rw pts) (s0 : 0 < s) (s1 : s ≤ 100) (hQ : ∀ k : Int, Lst pts s k → k.natAbs < 2 ^ 40 → Q (.int k) μ) : Φ "least_bound" [.tup (pts.map stD), .int s] μ Q X :=
  h _ _ _ _ ⟨pts, s, rfl, R, s0, s1, fun k a b c d => hQ k ⟨a, c, d⟩ b⟩
/-- a comprehension of pure changes of the numbers -/
theorem w_comp_num {f : Str} {k : D} {i j : Nat} {ek : E} {G : Rat → Rat} {pts : List (Rat × Rat)} {ρ : Env} {g : Store → Prop} {Q : List D → Store → Prop} (hij : j ≠ i) (hi : i < ρ.length) (hj : j < ρ.length) (hg : g μ) (hn : pts.length ≤ 1000)
    (hk : ∀ ρ' R X', (∀ n, n ≠ i → n ≠ j → ρ'[n]? = ρ[n]?) → R k μ → wE Φ C ek ρ' μ R X')
    (hf : ∀ p ∈ pts, ∀ (R : DQ) (X' : XQ), R (fr (G p.2)) μ → Φ f [k, fr p.2] μ R X') (hQ : Q ((pts.map fun p => (p.1, G p.2)).map stD) μ) :
    compW (.tp [i, j]) (tW (wE Φ C (.bl true))) (wE Φ C (.tup (.cons (.var i) (.cons (.call f (.cons ek (.cons (.var j) .nil))) .nil)))) g ρ (pts.map stD) [] μ Q := by
  have zz : (100001 : Nat) ≤ sizeLine := by decide
  refine comp_pure (fun _ => true) (fun d => stD (unst d, G (unsn d))) hg (by rw [List.length_map]; omega) (fun n d hd => ?_) ?_
  · obtain ⟨s, _, hs, rfl⟩ := stD_at hd
    refine ⟨_, rfl, rfl, ?_⟩
    have e1 : ((ρ.set i (some (fr s.1))).set j (some (fr s.2)))[i]? = some (some (fr s.1)) := by rw [List.getElem?_set_ne hij]; exact List.getElem?_set_self hi
    have e2 : ((ρ.set i (some (fr s.1))).set j (some (fr s.2)))[j]? = some (some (fr s.2)) := List.getElem?_set_self (by rw [List.length_set]; exact hj)
    refine ⟨fun R X' hR => hR, fun _ R X' hR => ?_⟩
    rw [unst_st, unsn_st] at hR
    simp only [setMany, wE, wEs]
    refine ⟨_, e1, hk _ _ _ (fun n n1 n2 => by rw [List.getElem?_set_ne (Ne.symm n2), List.getElem?_set_ne (Ne.symm n1)]) ⟨_, e2, hf s hs _ _ ⟨sz2, hR⟩⟩⟩
  · have e : ((pts.map stD).filter fun _ => true).map (fun d => stD (unst d, G (unsn d))) = (pts.map fun p => (p.1, G p.2)).map stD := by
      rw [List.filter_eq_self.mpr (fun _ _ => rfl), List.map_map, List.map_map]
      refine List.map_congr_left fun x _ => ?_
      show stD (unst (stD x), G (unsn (stD x))) = stD (x.1, G x.2)
      rw [unst_st, unsn_st]
    rw [e]; exact hQ
theorem w_least {q : Rat} {s : Int} {K : Ctl} {v0 v1 v2 v3 v5 v6 v7 v12 v13 : D} {k o8 o9 o10 : Option D} (hs : 0 < s) (hs1 : s ≤ 3) (hq : bz q ≤ 3)
    (h : ∀ l : Nat, (q.num.natAbs : Int) * s ≤ l * q.den → ¬ (q.num.natAbs : Int) * s ≤ (l - 1 : Int) * q.den ∨ l = 0 → K.nx [some v0, some v1, some v2, some v3, k, some v5, some v6, some v7, o8, o9, o10, some (.int s), some v12, some v13, some (fr q), some (.int l)] μ) :
    wS Φ C U lp_law_4 [some v0, some v1, some v2, some v3, k, some v5, some v6, some v7, o8, o9, o10, some (.int s), some v12, some v13, some (fr q), some (.int 0)] μ K := by
  have hn : q.num.natAbs < 2 ^ 3 := Nat.lt_of_lt_of_le (bz_num q) (Nat.pow_le_pow_right (by omega) hq)
  have hd : q.den < 2 ^ 3 := Nat.lt_of_lt_of_le (bz_den q) (Nat.pow_le_pow_right (by omega) hq)
  have dp := q.den_pos
  have ab : (if q.num < 0 then -q.num else q.num) = (q.num.natAbs : Int) := by split <;> omega
  have top : (q.num.natAbs : Int) * s ≤ 24 := by
    have : (q.num.natAbs : Int) * s ≤ 7 * 3 := Int.mul_le_mul (by omega) (by omega) (by omega) (by decide)
    omega
  have nn : 0 ≤ (q.num.natAbs : Int) * s := Int.mul_nonneg (by omega) (by omega)
  simp only [lp_law_4, wSs, wS, wE, wEs, wHs, IL.g0, IL.g1, IL.s0, IL.s1, Option.some.injEq, exists_eq_left', exists_eq_left, IL.ex2, IL.ex3, and_true, true_and, isNop, IL.pWn, IL.pWs, tW, Bool.false_eq_true, if_true, if_false, D.int.injEq, D.bl.injEq, D.str.injEq, D.tup.injEq, D.lst.injEq, D.ref.injEq, setMany, bopS_add, bopS_sub, bopS_mul, bopS_fdiv, bopS_mod, bopS_addt, copS_lt, copS_le, copS_gt, copS_ge, copS_eqi, copS_nei, copS_isN, copS_isnN, bfS_lent, bfS_abs, bfS_max, bfS_min, bfS_int, decide_eq_true_eq, Bool.not_eq_true', decide_eq_false_iff_not, idxS_t, at2_0, at2_1, isi_int, isi_bl, isi_non, isi_str, isi_tup, isi_lst, reduceCtorEq, decide_false, decide_true, Bool.not_true, Bool.not_false, or_false, false_or, or_true, true_or, ite_self, setiR, idxS_l, bfS_lenl, bfS_lists, bfS_listt, slcS_t, slcS_l, slcS_s, newL_f, newL_t, at5_0, at5_1, at5_2, at5_3, at5_4, ix5_1, ix5_2, ix5_3, copS_neb, copS_eqb, copS_isB, idx_fr0, idx_fr1, Ob.lst.injEq, List.set_set]
  refine whl_rule (fun m ρ μ' => μ' = μ ∧ ∃ l : Nat, ρ = [some v0, some v1, some v2, some v3, k, some v5, some v6, some v7, o8, o9, o10, some (.int s), some v12, some v13, some (fr q), some (.int l)] ∧ l ≤ 100 ∧ (¬ (q.num.natAbs : Int) * s ≤ (l - 1 : Int) * q.den ∨ l = 0) ∧ m = 100 - l)
    (fun m ρ μ' ⟨e0, l, e1, l1, l2, e2⟩ N hN => ?_) ⟨rfl, 0, rfl, by decide, .inr rfl, rfl⟩
  subst e0 e1
  simp only [wSs, wS, wE, wEs, wHs, IL.g0, IL.g1, IL.s0, IL.s1, Option.some.injEq, exists_eq_left', exists_eq_left, IL.ex2, IL.ex3, and_true, true_and, isNop, IL.pWn, IL.pWs, tW, Bool.false_eq_true, if_true, if_false, D.int.injEq, D.bl.injEq, D.str.injEq, D.tup.injEq, D.lst.injEq, D.ref.injEq, setMany, bopS_add, bopS_sub, bopS_mul, bopS_fdiv, bopS_mod, bopS_addt, copS_lt, copS_le, copS_gt, copS_ge, copS_eqi, copS_nei, copS_isN, copS_isnN, bfS_lent, bfS_abs, bfS_max, bfS_min, bfS_int, decide_eq_true_eq, Bool.not_eq_true', decide_eq_false_iff_not, idxS_t, at2_0, at2_1, isi_int, isi_bl, isi_non, isi_str, isi_tup, isi_lst, reduceCtorEq, decide_false, decide_true, Bool.not_true, Bool.not_false, or_false, false_or, or_true, true_or, ite_self, setiR, idxS_l, bfS_lenl, bfS_lists, bfS_listt, slcS_t, slcS_l, slcS_s, newL_f, newL_t, at5_0, at5_1, at5_2, at5_3, at5_4, ix5_1, ix5_2, ix5_3, copS_neb, copS_eqb, copS_isB, idx_fr0, idx_fr1, Ob.lst.injEq, List.set_set, ab]
  refine ⟨mulOk_of (n := 10) (m := 10) (by omega) (by omega) (by decide), mulOk_of (n := 10) (m := 10) (by omega) (by omega) (by decide), ?_⟩
  by_cases c : (l : Int) * q.den < (q.num.natAbs : Int) * s
  · rw [if_pos c]
    have ll : l < 30 := by
      refine Classical.byContradiction fun n => ?_
      have : (30 : Int) * 1 ≤ (l : Int) * q.den := Int.mul_le_mul (by omega) (by omega) (by decide) (by omega)
      omega
    refine hN (100 - (l + 1)) _ _ (by omega) ⟨rfl, l + 1, by simp, by omega, .inl ?_, rfl⟩
    rw [show ((l + 1 : Nat) : Int) - 1 = l by omega]; omega
  · rw [if_neg c]
    exact h l (by omega) l2
def sp_law : Spec := fun ds μ P X => ∃ ns : List Int, ds = [.scr ns] ∧ ns.length ≤ 63 ∧ ∀ μ', P (.bl true) μ'
theorem b_law (st : Stmt) (hpool : Has Φ "_law_pool" sp_pool) (hladder : Has Φ "_law_ladder" sp_law_ladder) (hplaces : Has Φ "_law_places" sp_law_places) (hval : Has Φ "value_on" sp_value_on) (hpoints : Has Φ "_law_points" sp_law_points)
    (hdraw : Has Φ "_law_draw" sp_draw) (hf : Has Φ "_law_f" sp_f) (hmul : Has Φ "_law_mul" sp_times) (hsub : Has Φ "_law_sub" sp_minus) (hlb : Has Φ "least_bound" sp_least_bound) (htold : Has Φ "can_be_told" sp_can_be_told) (h : sp_law ds μ P X) : BodyOk Φ C U (d_law st) ds μ P X := by
  obtain ⟨ns, rfl, hl, hP⟩ := h
  refine ⟨rfl, ?_⟩
  show wSs Φ C U il_law [some (.scr ns), none, none, none, none, none, none, none, none, none, none, none, none, none, none, none] μ _
  have zz : (100001 : Nat) ≤ sizeLine := by decide
  simp only [il_law, wSs, wS, wE, wEs, wHs, IL.g0, IL.g1, IL.s0, IL.s1, Option.some.injEq, exists_eq_left', exists_eq_left, IL.ex2, IL.ex3, and_true, true_and, isNop, IL.pWn, IL.pWs, tW, Bool.false_eq_true, if_true, if_false, D.int.injEq, D.bl.injEq, D.str.injEq, D.tup.injEq, D.lst.injEq, D.ref.injEq, setMany, bopS_add, bopS_sub, bopS_mul, bopS_fdiv, bopS_mod, bopS_addt, copS_lt, copS_le, copS_gt, copS_ge, copS_eqi, copS_nei, copS_isN, copS_isnN, bfS_lent, bfS_abs, bfS_max, bfS_min, bfS_int, decide_eq_true_eq, Bool.not_eq_true', decide_eq_false_iff_not, idxS_t, at2_0, at2_1, isi_int, isi_bl, isi_non, isi_str, isi_tup, isi_lst, reduceCtorEq, decide_false, decide_true, Bool.not_true, Bool.not_false, or_false, false_or, or_true, true_or, ite_self, setiR, idxS_l, bfS_lenl, bfS_lists, bfS_listt, slcS_t, slcS_l, slcS_s, newL_f, newL_t, at5_0, at5_1, at5_2, at5_3, at5_4, ix5_1, ix5_2, ix5_3, copS_neb, copS_eqb, copS_isB, idx_fr0, idx_fr1, Ob.lst.injEq, List.set_set]
  refine hpool _ _ _ _ ⟨ns, rfl, hl, fun o hp => ?_⟩
  have hm : (μ ++ [o])[μ.length]? = some o := by simp
  generalize μ ++ [o] = μ0 at *
  generalize hmm : μ.length = m at *
  simp only [ss_law_1, cp_law_0, itW, itS, wSs, wS, wE, wEs, wHs, IL.g0, IL.g1, IL.s0, IL.s1, Option.some.injEq, exists_eq_left', exists_eq_left, IL.ex2, IL.ex3, and_true, true_and, isNop, IL.pWn, IL.pWs, tW, Bool.false_eq_true, if_true, if_false, D.int.injEq, D.bl.injEq, D.str.injEq, D.tup.injEq, D.lst.injEq, D.ref.injEq, setMany, bopS_add, bopS_sub, bopS_mul, bopS_fdiv, bopS_mod, bopS_addt, copS_lt, copS_le, copS_gt, copS_ge, copS_eqi, copS_nei, copS_isN, copS_isnN, bfS_lent, bfS_abs, bfS_max, bfS_min, bfS_int, decide_eq_true_eq, Bool.not_eq_true', decide_eq_false_iff_not, idxS_t, at2_0, at2_1, isi_int, isi_bl, isi_non, isi_str, isi_tup, isi_lst, reduceCtorEq, decide_false, decide_true, Bool.not_true, Bool.not_false, or_false, false_or, or_true, true_or, ite_self, setiR, idxS_l, bfS_lenl, bfS_lists, bfS_listt, slcS_t, slcS_l, slcS_s, newL_f, newL_t, at5_0, at5_1, at5_2, at5_3, at5_4, ix5_1, ix5_2, ix5_3, copS_neb, copS_eqb, copS_isB, idx_fr0, idx_fr1, Ob.lst.injEq, List.set_set]
  refine hplaces _ _ _ _ ⟨m, _, o, 3, rfl, by decide, hm, hp, by decide, fun xs o2 hx hp2 => ?_⟩
  have hm2 := gs_of hm o2
  have hxn := hx.n
  generalize μ0.set m o2 = μ2 at *
  refine ⟨_, rfl, ?_⟩
  simp only [wipeD, Tg.slots, wSs, wS, wE, wEs, wHs, IL.g0, IL.g1, IL.s0, IL.s1, Option.some.injEq, exists_eq_left', exists_eq_left, IL.ex2, IL.ex3, and_true, true_and, isNop, IL.pWn, IL.pWs, tW, Bool.false_eq_true, if_true, if_false, D.int.injEq, D.bl.injEq, D.str.injEq, D.tup.injEq, D.lst.injEq, D.ref.injEq, setMany, bopS_add, bopS_sub, bopS_mul, bopS_fdiv, bopS_mod, bopS_addt, copS_lt, copS_le, copS_gt, copS_ge, copS_eqi, copS_nei, copS_isN, copS_isnN, bfS_lent, bfS_abs, bfS_max, bfS_min, bfS_int, decide_eq_true_eq, Bool.not_eq_true', decide_eq_false_iff_not, idxS_t, at2_0, at2_1, isi_int, isi_bl, isi_non, isi_str, isi_tup, isi_lst, reduceCtorEq, decide_false, decide_true, Bool.not_true, Bool.not_false, or_false, false_or, or_true, true_or, ite_self, setiR, idxS_l, bfS_lenl, bfS_lists, bfS_listt, slcS_t, slcS_l, slcS_s, newL_f, newL_t, at5_0, at5_1, at5_2, at5_3, at5_4, ix5_1, ix5_2, ix5_3, copS_neb, copS_eqb, copS_isB, idx_fr0, idx_fr1, Ob.lst.injEq, List.set_set]
  refine comp_rule (fun i acc μ' => ∃ (ps : List (Rat × Rat)) (o' : Ob), acc = ps.map stD ∧ i ≤ xs.length ∧ ps.map (·.1) = xs.take i ∧ (∀ p ∈ ps, (-4 ≤ p.2 ∧ p.2 ≤ 4) ∧ bz p.2 ≤ 3) ∧ Pool (0 + 2 * 3 + 1 + 2 * i) o' ∧ μ' = μ2.set m o')
      (fun i d acc μ' hd ⟨ps, o', e1, e2, e3, e4, hp', e5⟩ => ⟨trivial, ?_⟩) (fun acc μ' ⟨ps, o', e1, e2, e3, e4, hp', e5⟩ => ⟨trivial, ?_⟩) ⟨[], o2, rfl, Nat.zero_le _, rfl, nofun, hp2, by rw [set_self' hm2]⟩
  · subst e1 e5
    rw [List.getElem?_map] at hd
    obtain ⟨x, hx', rfl⟩ := Option.map_eq_some_iff.mp hd
    have hil := (List.getElem?_eq_some_iff.mp hx').1
    intro N hN
    simp only [tW, wSs, wS, wE, wEs, wHs, IL.g0, IL.g1, IL.s0, IL.s1, Option.some.injEq, exists_eq_left', exists_eq_left, IL.ex2, IL.ex3, and_true, true_and, isNop, IL.pWn, IL.pWs, tW, Bool.false_eq_true, if_true, if_false, D.int.injEq, D.bl.injEq, D.str.injEq, D.tup.injEq, D.lst.injEq, D.ref.injEq, setMany, bopS_add, bopS_sub, bopS_mul, bopS_fdiv, bopS_mod, bopS_addt, copS_lt, copS_le, copS_gt, copS_ge, copS_eqi, copS_nei, copS_isN, copS_isnN, bfS_lent, bfS_abs, bfS_max, bfS_min, bfS_int, decide_eq_true_eq, Bool.not_eq_true', decide_eq_false_iff_not, idxS_t, at2_0, at2_1, isi_int, isi_bl, isi_non, isi_str, isi_tup, isi_lst, reduceCtorEq, decide_false, decide_true, Bool.not_true, Bool.not_false, or_false, false_or, or_true, true_or, ite_self, setiR, idxS_l, bfS_lenl, bfS_lists, bfS_listt, slcS_t, slcS_l, slcS_s, newL_f, newL_t, at5_0, at5_1, at5_2, at5_3, at5_4, ix5_1, ix5_2, ix5_3, copS_neb, copS_eqb, copS_isB, idx_fr0, idx_fr1, Ob.lst.injEq, List.set_set]
    refine hdraw _ _ _ _ ⟨m, 9, _, o', rfl, by decide, by decide, gs_of hm2 o', hp', by omega, fun a o3 a0 a1 hp3 => ?_⟩
    refine hdraw _ _ _ _ ⟨m, 2, _, o3, rfl, by decide, by decide, gs_of (gs_of hm2 o') o3, hp3, by omega, fun b o4 b0 b1 hp4 => ?_⟩
    refine hf _ _ _ _ ⟨_, _, rfl, by omega, ⟨sz2, ?_, hN _ _ ⟨ps ++ [(x, Rat.divInt (a - 4) (1 + b))], o4, by simp [stD], hil, ?_, fun p hp => ?_, hp4.mono (by omega), by rw [List.set_set, List.set_set]⟩⟩⟩
    · have := congrArg List.length e3
      rw [List.length_map, List.length_take] at this
      rw [List.length_map]; omega
    · rw [List.map_append, e3, List.take_succ, hx']; rfl
    · rcases List.mem_append.mp hp with hp | hp
      · exact e4 p hp
      · rw [List.mem_singleton.mp hp]; exact num_cases a0 a1 b0 b1
  subst e1 e5
  rw [List.length_map, List.take_length] at e3
  rw [List.length_map] at hp'
  have mem : ∀ p ∈ ps, p.1 ∈ xs := fun p hp => by rw [← e3]; exact List.mem_map_of_mem hp
  have len : ps.length = xs.length := by rw [← e3, List.length_map]
  have R : RwD ps := ⟨⟨fun p hp => (hx.pl _ (mem p hp)).1, by rw [e3]; exact hx.nd⟩, by omega, fun p hp => ⟨(hx.pl _ (mem p hp)).2, (e4 p hp).2⟩, fun p hp => (e4 p hp).1⟩
  have hm3 := gs_of hm2 o'
  have pl : ps.length ≤ 3 := R.n
  replace hp' := hp'.mono (show 0 + 2 * 3 + 1 + 2 * xs.length ≤ 13 by omega)
  clear e3 e4 mem len hp2
  generalize μ2.set m o' = μ3 at *
  refine ⟨by rw [List.length_map]; omega, _, rfl, ?_⟩
  simp only [ss_law_2, wSs, wS, wE, wEs, wHs, IL.g0, IL.g1, IL.s0, IL.s1, Option.some.injEq, exists_eq_left', exists_eq_left, IL.ex2, IL.ex3, and_true, true_and, isNop, IL.pWn, IL.pWs, tW, Bool.false_eq_true, if_true, if_false, D.int.injEq, D.bl.injEq, D.str.injEq, D.tup.injEq, D.lst.injEq, D.ref.injEq, setMany, bopS_add, bopS_sub, bopS_mul, bopS_fdiv, bopS_mod, bopS_addt, copS_lt, copS_le, copS_gt, copS_ge, copS_eqi, copS_nei, copS_isN, copS_isnN, bfS_lent, bfS_abs, bfS_max, bfS_min, bfS_int, decide_eq_true_eq, Bool.not_eq_true', decide_eq_false_iff_not, idxS_t, at2_0, at2_1, isi_int, isi_bl, isi_non, isi_str, isi_tup, isi_lst, reduceCtorEq, decide_false, decide_true, Bool.not_true, Bool.not_false, or_false, false_or, or_true, true_or, ite_self, setiR, idxS_l, bfS_lenl, bfS_lists, bfS_listt, slcS_t, slcS_l, slcS_s, newL_f, newL_t, at5_0, at5_1, at5_2, at5_3, at5_4, ix5_1, ix5_2, ix5_3, copS_neb, copS_eqb, copS_isB, idx_fr0, idx_fr1, Ob.lst.injEq, List.set_set]
  refine hdraw _ _ _ _ ⟨m, 3, _, o', rfl, by decide, by decide, hm3, hp', by decide, fun s o3 s0 s1 hp3 => ?_⟩
  refine hdraw _ _ _ _ ⟨m, 3, _, o3, rfl, by decide, by decide, gs_of hm3 o3, hp3, by decide, fun k o4 k0 k1 hp4 => ?_⟩
  rw [List.set_set]
  have hm4 := gs_of hm3 o4
  generalize μ3.set m o4 = μ4 at *
  obtain ⟨s', rfl⟩ : ∃ s' : Int, s = s' - 1 := ⟨s + 1, by omega⟩
  obtain ⟨k', rfl⟩ : ∃ k' : Int, k = k' - 1 := ⟨k + 1, by omega⟩
  simp only [wSs, wS, wE, wEs, wHs, IL.g0, IL.g1, IL.s0, IL.s1, Option.some.injEq, exists_eq_left', exists_eq_left, IL.ex2, IL.ex3, and_true, true_and, isNop, IL.pWn, IL.pWs, tW, Bool.false_eq_true, if_true, if_false, D.int.injEq, D.bl.injEq, D.str.injEq, D.tup.injEq, D.lst.injEq, D.ref.injEq, setMany, bopS_add, bopS_sub, bopS_mul, bopS_fdiv, bopS_mod, bopS_addt, copS_lt, copS_le, copS_gt, copS_ge, copS_eqi, copS_nei, copS_isN, copS_isnN, bfS_lent, bfS_abs, bfS_max, bfS_min, bfS_int, decide_eq_true_eq, Bool.not_eq_true', decide_eq_false_iff_not, idxS_t, at2_0, at2_1, isi_int, isi_bl, isi_non, isi_str, isi_tup, isi_lst, reduceCtorEq, decide_false, decide_true, Bool.not_true, Bool.not_false, or_false, false_or, or_true, true_or, ite_self, setiR, idxS_l, bfS_lenl, bfS_lists, bfS_listt, slcS_t, slcS_l, slcS_s, newL_f, newL_t, at5_0, at5_1, at5_2, at5_3, at5_4, ix5_1, ix5_2, ix5_3, copS_neb, copS_eqb, copS_isB, idx_fr0, idx_fr1, Ob.lst.injEq, List.set_set]
  rw [show 1 + (s' - 1) = s' by omega, show 1 + (k' - 1) = k' by omega]
  have s0' : 0 < s' := by omega
  have k0' : 0 < k' := by omega
  refine ⟨rfl, ?_⟩
  simp only [ss_law_3, wSs, wS, wE, wEs, wHs, IL.g0, IL.g1, IL.s0, IL.s1, Option.some.injEq, exists_eq_left', exists_eq_left, IL.ex2, IL.ex3, and_true, true_and, isNop, IL.pWn, IL.pWs, tW, Bool.false_eq_true, if_true, if_false, D.int.injEq, D.bl.injEq, D.str.injEq, D.tup.injEq, D.lst.injEq, D.ref.injEq, setMany, bopS_add, bopS_sub, bopS_mul, bopS_fdiv, bopS_mod, bopS_addt, copS_lt, copS_le, copS_gt, copS_ge, copS_eqi, copS_nei, copS_isN, copS_isnN, bfS_lent, bfS_abs, bfS_max, bfS_min, bfS_int, decide_eq_true_eq, Bool.not_eq_true', decide_eq_false_iff_not, idxS_t, at2_0, at2_1, isi_int, isi_bl, isi_non, isi_str, isi_tup, isi_lst, reduceCtorEq, decide_false, decide_true, Bool.not_true, Bool.not_false, or_false, false_or, or_true, true_or, ite_self, setiR, idxS_l, bfS_lenl, bfS_lists, bfS_listt, slcS_t, slcS_l, slcS_s, newL_f, newL_t, at5_0, at5_1, at5_2, at5_3, at5_4, ix5_1, ix5_2, ix5_3, copS_neb, copS_eqb, copS_isB, idx_fr0, idx_fr1, Ob.lst.injEq, List.set_set]
  refine call_lb hlb R.rw_ s0' (by omega) fun b Lb b40 => ?_
  have ib := Lb.iff R.toNumOk s0'
  simp only [ss_law_4, wSs, wS, wE, wEs, wHs, IL.g0, IL.g1, IL.s0, IL.s1, Option.some.injEq, exists_eq_left', exists_eq_left, IL.ex2, IL.ex3, and_true, true_and, isNop, IL.pWn, IL.pWs, tW, Bool.false_eq_true, if_true, if_false, D.int.injEq, D.bl.injEq, D.str.injEq, D.tup.injEq, D.lst.injEq, D.ref.injEq, setMany, bopS_add, bopS_sub, bopS_mul, bopS_fdiv, bopS_mod, bopS_addt, copS_lt, copS_le, copS_gt, copS_ge, copS_eqi, copS_nei, copS_isN, copS_isnN, bfS_lent, bfS_abs, bfS_max, bfS_min, bfS_int, decide_eq_true_eq, Bool.not_eq_true', decide_eq_false_iff_not, idxS_t, at2_0, at2_1, isi_int, isi_bl, isi_non, isi_str, isi_tup, isi_lst, reduceCtorEq, decide_false, decide_true, Bool.not_true, Bool.not_false, or_false, false_or, or_true, true_or, ite_self, setiR, idxS_l, bfS_lenl, bfS_lists, bfS_listt, slcS_t, slcS_l, slcS_s, newL_f, newL_t, at5_0, at5_1, at5_2, at5_3, at5_4, ix5_1, ix5_2, ix5_3, copS_neb, copS_eqb, copS_isB, idx_fr0, idx_fr1, Ob.lst.injEq, List.set_set, lp_law_1, itW, itS]
  refine ⟨by omega, by rw [List.length_map]; omega, ?_⟩
  rw [Int.toNat_natCast, List.length_map]
  refine loop_rule (fun i ρ μ' => μ' = μ4 ∧ ∃ kk : Option D, ρ = [some (.scr ns), some (.ref m), some (.tup (ps.map stD)), some (.int b), kk, none, none, none, none, none, none, some (.int s'), some (.int k'), none, none, none])
    (fun i d ρ μ' hd ⟨e0, kk, e1⟩ => ⟨trivial, ?_⟩) (fun ρ μ' ⟨e0, kk, e1⟩ => ⟨trivial, ?_⟩) ⟨rfl, none, rfl⟩
  · obtain ⟨rfl, hi⟩ := rng_at hd
    subst e0 e1
    intro N hN
    simp only [wSs, wS, wE, wEs, wHs, IL.g0, IL.g1, IL.s0, IL.s1, Option.some.injEq, exists_eq_left', exists_eq_left, IL.ex2, IL.ex3, and_true, true_and, isNop, IL.pWn, IL.pWs, tW, Bool.false_eq_true, if_true, if_false, D.int.injEq, D.bl.injEq, D.str.injEq, D.tup.injEq, D.lst.injEq, D.ref.injEq, setMany, bopS_add, bopS_sub, bopS_mul, bopS_fdiv, bopS_mod, bopS_addt, copS_lt, copS_le, copS_gt, copS_ge, copS_eqi, copS_nei, copS_isN, copS_isnN, bfS_lent, bfS_abs, bfS_max, bfS_min, bfS_int, decide_eq_true_eq, Bool.not_eq_true', decide_eq_false_iff_not, idxS_t, at2_0, at2_1, isi_int, isi_bl, isi_non, isi_str, isi_tup, isi_lst, reduceCtorEq, decide_false, decide_true, Bool.not_true, Bool.not_false, or_false, false_or, or_true, true_or, ite_self, setiR, idxS_l, bfS_lenl, bfS_lists, bfS_listt, slcS_t, slcS_l, slcS_s, newL_f, newL_t, at5_0, at5_1, at5_2, at5_3, at5_4, ix5_1, ix5_2, ix5_3, copS_neb, copS_eqb, copS_isB, idx_fr0, idx_fr1, Ob.lst.injEq, List.set_set]
    rw [cut_take (by rw [List.length_map]; omega), show ((i : Int) + 1) = ((i + 1 : Nat) : Int) by omega, cut_drop (by rw [List.length_map]; omega), ← List.map_take, ← List.map_drop, ← List.map_append]
    have sb : (ps.take i ++ ps.drop (i + 1)).Sublist ps := by
      conv => rhs; rw [← List.take_append_drop i ps]
      exact List.Sublist.append (List.Sublist.refl _) (List.drop_sublist_drop_left ps (by omega))
    refine ⟨by rw [List.length_map, List.length_map]; have := sb.length_le; rw [List.length_append] at this; omega, ?_⟩
    have R2 := R.sub sb
    refine call_lb hlb R2.rw_ s0' (by omega) fun b2 L2 _ => ?_
    have le : b2 ≤ b := (L2.iff R2.toNumOk s0' b).mp (bd_sub R.toNumOk (fun q hq => sb.subset hq) Lb.at_)
    simp only [wSs, wS, wE, wEs, wHs, IL.g0, IL.g1, IL.s0, IL.s1, Option.some.injEq, exists_eq_left', exists_eq_left, IL.ex2, IL.ex3, and_true, true_and, isNop, IL.pWn, IL.pWs, tW, Bool.false_eq_true, if_true, if_false, D.int.injEq, D.bl.injEq, D.str.injEq, D.tup.injEq, D.lst.injEq, D.ref.injEq, setMany, bopS_add, bopS_sub, bopS_mul, bopS_fdiv, bopS_mod, bopS_addt, copS_lt, copS_le, copS_gt, copS_ge, copS_eqi, copS_nei, copS_isN, copS_isnN, bfS_lent, bfS_abs, bfS_max, bfS_min, bfS_int, decide_eq_true_eq, Bool.not_eq_true', decide_eq_false_iff_not, idxS_t, at2_0, at2_1, isi_int, isi_bl, isi_non, isi_str, isi_tup, isi_lst, reduceCtorEq, decide_false, decide_true, Bool.not_true, Bool.not_false, or_false, false_or, or_true, true_or, ite_self, setiR, idxS_l, bfS_lenl, bfS_lists, bfS_listt, slcS_t, slcS_l, slcS_s, newL_f, newL_t, at5_0, at5_1, at5_2, at5_3, at5_4, ix5_1, ix5_2, ix5_3, copS_neb, copS_eqb, copS_isB, idx_fr0, idx_fr1, Ob.lst.injEq, List.set_set]
    rw [if_neg (by omega)]
    exact hN _ _ ⟨rfl, _, rfl⟩
  subst e1
  rw [e0]

  simp only [ss_law_5, cp_law_2, itW, itS, wSs, wS, wE, wEs, wHs, IL.g0, IL.g1, IL.s0, IL.s1, Option.some.injEq, exists_eq_left', exists_eq_left, IL.ex2, IL.ex3, and_true, true_and, isNop, IL.pWn, IL.pWs, tW, Bool.false_eq_true, if_true, if_false, D.int.injEq, D.bl.injEq, D.str.injEq, D.tup.injEq, D.lst.injEq, D.ref.injEq, setMany, bopS_add, bopS_sub, bopS_mul, bopS_fdiv, bopS_mod, bopS_addt, copS_lt, copS_le, copS_gt, copS_ge, copS_eqi, copS_nei, copS_isN, copS_isnN, bfS_lent, bfS_abs, bfS_max, bfS_min, bfS_int, decide_eq_true_eq, Bool.not_eq_true', decide_eq_false_iff_not, idxS_t, at2_0, at2_1, isi_int, isi_bl, isi_non, isi_str, isi_tup, isi_lst, reduceCtorEq, decide_false, decide_true, Bool.not_true, Bool.not_false, or_false, false_or, or_true, true_or, ite_self, setiR, idxS_l, bfS_lenl, bfS_lists, bfS_listt, slcS_t, slcS_l, slcS_s, newL_f, newL_t, at5_0, at5_1, at5_2, at5_3, at5_4, ix5_1, ix5_2, ix5_3, copS_neb, copS_eqb, copS_isB, idx_fr0, idx_fr1, Ob.lst.injEq, List.set_set]
  refine ⟨_, rfl, ?_⟩
  simp only [wipeD, Tg.slots, wSs, wS, wE, wEs, wHs, IL.g0, IL.g1, IL.s0, IL.s1, Option.some.injEq, exists_eq_left', exists_eq_left, IL.ex2, IL.ex3, and_true, true_and, isNop, IL.pWn, IL.pWs, tW, Bool.false_eq_true, if_true, if_false, D.int.injEq, D.bl.injEq, D.str.injEq, D.tup.injEq, D.lst.injEq, D.ref.injEq, setMany, bopS_add, bopS_sub, bopS_mul, bopS_fdiv, bopS_mod, bopS_addt, copS_lt, copS_le, copS_gt, copS_ge, copS_eqi, copS_nei, copS_isN, copS_isnN, bfS_lent, bfS_abs, bfS_max, bfS_min, bfS_int, decide_eq_true_eq, Bool.not_eq_true', decide_eq_false_iff_not, idxS_t, at2_0, at2_1, isi_int, isi_bl, isi_non, isi_str, isi_tup, isi_lst, reduceCtorEq, decide_false, decide_true, Bool.not_true, Bool.not_false, or_false, false_or, or_true, true_or, ite_self, setiR, idxS_l, bfS_lenl, bfS_lists, bfS_listt, slcS_t, slcS_l, slcS_s, newL_f, newL_t, at5_0, at5_1, at5_2, at5_3, at5_4, ix5_1, ix5_2, ix5_3, copS_neb, copS_eqb, copS_isB, idx_fr0, idx_fr1, Ob.lst.injEq, List.set_set]
  have neg : (ps.map fun p => (p.1, 0 - p.2)) = mulP (-1) ps := List.map_congr_left fun p _ => by rw [show 0 - p.2 = -1 * p.2 by grind]
  refine w_comp_num (Φ := Φ) (C := C) (f := "_law_sub") (k := fr 0) (i := 13) (j := 14) (ek := .tup (.cons (.int 0) (.cons (.int 1) .nil))) (G := fun q => 0 - q) (by decide) (show 13 < 16 by decide) (show 14 < 16 by decide) trivial (by omega) (fun ρ' R X' _ hR => ?_) (fun p hp R' X' hR => hsub _ _ _ _ ⟨0, p.2, rfl, by have := (R.sz p hp).2; rw [bz_zero]; omega, hR⟩) ?_
  · simp only [wSs, wS, wE, wEs, wHs, IL.g0, IL.g1, IL.s0, IL.s1, Option.some.injEq, exists_eq_left', exists_eq_left, IL.ex2, IL.ex3, and_true, true_and, isNop, IL.pWn, IL.pWs, tW, Bool.false_eq_true, if_true, if_false, D.int.injEq, D.bl.injEq, D.str.injEq, D.tup.injEq, D.lst.injEq, D.ref.injEq, setMany, bopS_add, bopS_sub, bopS_mul, bopS_fdiv, bopS_mod, bopS_addt, copS_lt, copS_le, copS_gt, copS_ge, copS_eqi, copS_nei, copS_isN, copS_isnN, bfS_lent, bfS_abs, bfS_max, bfS_min, bfS_int, decide_eq_true_eq, Bool.not_eq_true', decide_eq_false_iff_not, idxS_t, at2_0, at2_1, isi_int, isi_bl, isi_non, isi_str, isi_tup, isi_lst, reduceCtorEq, decide_false, decide_true, Bool.not_true, Bool.not_false, or_false, false_or, or_true, true_or, ite_self, setiR, idxS_l, bfS_lenl, bfS_lists, bfS_listt, slcS_t, slcS_l, slcS_s, newL_f, newL_t, at5_0, at5_1, at5_2, at5_3, at5_4, ix5_1, ix5_2, ix5_3, copS_neb, copS_eqb, copS_isB, idx_fr0, idx_fr1, Ob.lst.injEq, List.set_set, fr_zero]; exact ⟨sz2, hR⟩
  rw [neg]
  have bm1 : bz (-1) ≤ 3 := by decide
  have Rn := R.mulP bm1 (by decide) (by decide)
  refine ⟨by rw [List.length_map]; have := Rn.n; omega, _, rfl, ?_⟩
  refine call_lb hlb Rn s0' (by omega) fun b2 L2 _ => ?_
  have eb : b2 = b := by
    have h1 := (L2.iff Rn.toNumOk s0' b).mp ((bd_neg R.toNumOk).mpr Lb.at_)
    have h2 := (ib b2).mp ((bd_neg R.toNumOk).mp L2.at_)
    omega
  subst eb
  simp only [wSs, wS, wE, wEs, wHs, IL.g0, IL.g1, IL.s0, IL.s1, Option.some.injEq, exists_eq_left', exists_eq_left, IL.ex2, IL.ex3, and_true, true_and, isNop, IL.pWn, IL.pWs, tW, Bool.false_eq_true, if_true, if_false, D.int.injEq, D.bl.injEq, D.str.injEq, D.tup.injEq, D.lst.injEq, D.ref.injEq, setMany, bopS_add, bopS_sub, bopS_mul, bopS_fdiv, bopS_mod, bopS_addt, copS_lt, copS_le, copS_gt, copS_ge, copS_eqi, copS_nei, copS_isN, copS_isnN, bfS_lent, bfS_abs, bfS_max, bfS_min, bfS_int, decide_eq_true_eq, Bool.not_eq_true', decide_eq_false_iff_not, idxS_t, at2_0, at2_1, isi_int, isi_bl, isi_non, isi_str, isi_tup, isi_lst, reduceCtorEq, decide_false, decide_true, Bool.not_true, Bool.not_false, or_false, false_or, or_true, true_or, ite_self, setiR, idxS_l, bfS_lenl, bfS_lists, bfS_listt, slcS_t, slcS_l, slcS_s, newL_f, newL_t, at5_0, at5_1, at5_2, at5_3, at5_4, ix5_1, ix5_2, ix5_3, copS_neb, copS_eqb, copS_isB, idx_fr0, idx_fr1, Ob.lst.injEq, List.set_set, beq_self_eq_true]
  simp only [ss_law_6, cp_law_3, itW, itS, wSs, wS, wE, wEs, wHs, IL.g0, IL.g1, IL.s0, IL.s1, Option.some.injEq, exists_eq_left', exists_eq_left, IL.ex2, IL.ex3, and_true, true_and, isNop, IL.pWn, IL.pWs, tW, Bool.false_eq_true, if_true, if_false, D.int.injEq, D.bl.injEq, D.str.injEq, D.tup.injEq, D.lst.injEq, D.ref.injEq, setMany, bopS_add, bopS_sub, bopS_mul, bopS_fdiv, bopS_mod, bopS_addt, copS_lt, copS_le, copS_gt, copS_ge, copS_eqi, copS_nei, copS_isN, copS_isnN, bfS_lent, bfS_abs, bfS_max, bfS_min, bfS_int, decide_eq_true_eq, Bool.not_eq_true', decide_eq_false_iff_not, idxS_t, at2_0, at2_1, isi_int, isi_bl, isi_non, isi_str, isi_tup, isi_lst, reduceCtorEq, decide_false, decide_true, Bool.not_true, Bool.not_false, or_false, false_or, or_true, true_or, ite_self, setiR, idxS_l, bfS_lenl, bfS_lists, bfS_listt, slcS_t, slcS_l, slcS_s, newL_f, newL_t, at5_0, at5_1, at5_2, at5_3, at5_4, ix5_1, ix5_2, ix5_3, copS_neb, copS_eqb, copS_isB, idx_fr0, idx_fr1, Ob.lst.injEq, List.set_set]
  refine ⟨_, rfl, ?_⟩
  simp only [wipeD, Tg.slots, wSs, wS, wE, wEs, wHs, IL.g0, IL.g1, IL.s0, IL.s1, Option.some.injEq, exists_eq_left', exists_eq_left, IL.ex2, IL.ex3, and_true, true_and, isNop, IL.pWn, IL.pWs, tW, Bool.false_eq_true, if_true, if_false, D.int.injEq, D.bl.injEq, D.str.injEq, D.tup.injEq, D.lst.injEq, D.ref.injEq, setMany, bopS_add, bopS_sub, bopS_mul, bopS_fdiv, bopS_mod, bopS_addt, copS_lt, copS_le, copS_gt, copS_ge, copS_eqi, copS_nei, copS_isN, copS_isnN, bfS_lent, bfS_abs, bfS_max, bfS_min, bfS_int, decide_eq_true_eq, Bool.not_eq_true', decide_eq_false_iff_not, idxS_t, at2_0, at2_1, isi_int, isi_bl, isi_non, isi_str, isi_tup, isi_lst, reduceCtorEq, decide_false, decide_true, Bool.not_true, Bool.not_false, or_false, false_or, or_true, true_or, ite_self, setiR, idxS_l, bfS_lenl, bfS_lists, bfS_listt, slcS_t, slcS_l, slcS_s, newL_f, newL_t, at5_0, at5_1, at5_2, at5_3, at5_4, ix5_1, ix5_2, ix5_3, copS_neb, copS_eqb, copS_isB, idx_fr0, idx_fr1, Ob.lst.injEq, List.set_set]
  have kz : bz (k' : Rat) ≤ 3 := by
    rw [bz_int]
    have : k'.natAbs < 2 ^ 2 := by omega
    have := log_of this
    omega
  have kl : ((-3 : Int) : Rat) ≤ (k' : Rat) := Rat.intCast_le_intCast.mpr (by omega)
  have kr : (k' : Rat) ≤ ((3 : Int) : Rat) := Rat.intCast_le_intCast.mpr (by omega)
  have c3 : ((-3 : Int) : Rat) = -3 := rfl
  have c4 : ((3 : Int) : Rat) = 3 := rfl
  have Rm := R.mulP kz (by rw [c3] at kl; exact kl) (by rw [c4] at kr; exact kr)
  refine w_comp_num (Φ := Φ) (C := C) (f := "_law_mul") (k := fr (k' : Rat)) (i := 13) (j := 14) (ek := .tup (.cons (.var 12) (.cons (.int 1) .nil))) (G := fun q => (k' : Rat) * q) (by decide) (show 13 < 16 by decide) (show 14 < 16 by decide) trivial (by omega) (fun ρ' R X' hρ hR => ?_) (fun p hp R' X' hR => hmul _ _ _ _ ⟨_, p.2, rfl, by have := (R.sz p hp).2; omega, hR⟩) ?_
  · simp only [wSs, wS, wE, wEs, wHs, IL.g0, IL.g1, IL.s0, IL.s1, Option.some.injEq, exists_eq_left', exists_eq_left, IL.ex2, IL.ex3, and_true, true_and, isNop, IL.pWn, IL.pWs, tW, Bool.false_eq_true, if_true, if_false, D.int.injEq, D.bl.injEq, D.str.injEq, D.tup.injEq, D.lst.injEq, D.ref.injEq, setMany, bopS_add, bopS_sub, bopS_mul, bopS_fdiv, bopS_mod, bopS_addt, copS_lt, copS_le, copS_gt, copS_ge, copS_eqi, copS_nei, copS_isN, copS_isnN, bfS_lent, bfS_abs, bfS_max, bfS_min, bfS_int, decide_eq_true_eq, Bool.not_eq_true', decide_eq_false_iff_not, idxS_t, at2_0, at2_1, isi_int, isi_bl, isi_non, isi_str, isi_tup, isi_lst, reduceCtorEq, decide_false, decide_true, Bool.not_true, Bool.not_false, or_false, false_or, or_true, true_or, ite_self, setiR, idxS_l, bfS_lenl, bfS_lists, bfS_listt, slcS_t, slcS_l, slcS_s, newL_f, newL_t, at5_0, at5_1, at5_2, at5_3, at5_4, ix5_1, ix5_2, ix5_3, copS_neb, copS_eqb, copS_isB, idx_fr0, idx_fr1, Ob.lst.injEq, List.set_set]
    rw [hρ 12 (by decide) (by decide)]
    simp only [wSs, wS, wE, wEs, wHs, IL.g0, IL.g1, IL.s0, IL.s1, Option.some.injEq, exists_eq_left', exists_eq_left, IL.ex2, IL.ex3, and_true, true_and, isNop, IL.pWn, IL.pWs, tW, Bool.false_eq_true, if_true, if_false, D.int.injEq, D.bl.injEq, D.str.injEq, D.tup.injEq, D.lst.injEq, D.ref.injEq, setMany, bopS_add, bopS_sub, bopS_mul, bopS_fdiv, bopS_mod, bopS_addt, copS_lt, copS_le, copS_gt, copS_ge, copS_eqi, copS_nei, copS_isN, copS_isnN, bfS_lent, bfS_abs, bfS_max, bfS_min, bfS_int, decide_eq_true_eq, Bool.not_eq_true', decide_eq_false_iff_not, idxS_t, at2_0, at2_1, isi_int, isi_bl, isi_non, isi_str, isi_tup, isi_lst, reduceCtorEq, decide_false, decide_true, Bool.not_true, Bool.not_false, or_false, false_or, or_true, true_or, ite_self, setiR, idxS_l, bfS_lenl, bfS_lists, bfS_listt, slcS_t, slcS_l, slcS_s, newL_f, newL_t, at5_0, at5_1, at5_2, at5_3, at5_4, ix5_1, ix5_2, ix5_3, copS_neb, copS_eqb, copS_isB, idx_fr0, idx_fr1, Ob.lst.injEq, List.set_set, fr_int]
    exact ⟨sz2, hR⟩
  refine ⟨by rw [List.length_map, List.length_map]; omega, _, rfl, ?_⟩
  refine call_lb hlb Rm s0' (by omega) fun g Lg g40 => ?_
  have ig := Lg.iff Rm.toNumOk s0'
  simp only [ss_law_7, wSs, wS, wE, wEs, wHs, IL.g0, IL.g1, IL.s0, IL.s1, Option.some.injEq, exists_eq_left', exists_eq_left, IL.ex2, IL.ex3, and_true, true_and, isNop, IL.pWn, IL.pWs, tW, Bool.false_eq_true, if_true, if_false, D.int.injEq, D.bl.injEq, D.str.injEq, D.tup.injEq, D.lst.injEq, D.ref.injEq, setMany, bopS_add, bopS_sub, bopS_mul, bopS_fdiv, bopS_mod, bopS_addt, copS_lt, copS_le, copS_gt, copS_ge, copS_eqi, copS_nei, copS_isN, copS_isnN, bfS_lent, bfS_abs, bfS_max, bfS_min, bfS_int, decide_eq_true_eq, Bool.not_eq_true', decide_eq_false_iff_not, idxS_t, at2_0, at2_1, isi_int, isi_bl, isi_non, isi_str, isi_tup, isi_lst, reduceCtorEq, decide_false, decide_true, Bool.not_true, Bool.not_false, or_false, false_or, or_true, true_or, ite_self, setiR, idxS_l, bfS_lenl, bfS_lists, bfS_listt, slcS_t, slcS_l, slcS_s, newL_f, newL_t, at5_0, at5_1, at5_2, at5_3, at5_4, ix5_1, ix5_2, ix5_3, copS_neb, copS_eqb, copS_isB, idx_fr0, idx_fr1, Ob.lst.injEq, List.set_set]
  have ks : 0 < k' * s' := Int.mul_pos k0' s0'
  have ks2 : k' * s' ≤ 3 * 3 := Int.mul_le_mul (by omega) (by omega) (by omega) (by decide)
  refine ⟨mulOk_of (n := 10) (m := 10) (by omega) (by omega) (by decide), call_lb hlb R.rw_ ks (by omega) fun fi Lf f40 => ?_⟩
  have iff_ := Lf.iff R.toNumOk ks
  have efg : fi = g := by
    have h1 := (ig fi).mp ((bd_fine s0' k0').mpr Lf.at_)
    have h2 := (iff_ g).mp ((bd_fine s0' k0').mp Lg.at_)
    omega
  subst efg
  have up : fi ≤ k' * b2 := (ig _).mp ((bd_mul s0' k0').mpr Lb.at_)
  have lo : 0 < b2 → k' * (b2 - 1) < fi := fun _ => Classical.byContradiction fun n => Lb.no ((bd_mul s0' k0').mp ((ig _).mpr (by omega)))
  have gz : b2 = 0 → fi = 0 := fun e => by
    rw [e, Int.mul_zero] at up
    have := Lg.nn; omega
  have bnn := Lb.nn
  simp only [ss_law_8, wSs, wS, wE, wEs, wHs, IL.g0, IL.g1, IL.s0, IL.s1, Option.some.injEq, exists_eq_left', exists_eq_left, IL.ex2, IL.ex3, and_true, true_and, isNop, IL.pWn, IL.pWs, tW, Bool.false_eq_true, if_true, if_false, D.int.injEq, D.bl.injEq, D.str.injEq, D.tup.injEq, D.lst.injEq, D.ref.injEq, setMany, bopS_add, bopS_sub, bopS_mul, bopS_fdiv, bopS_mod, bopS_addt, copS_lt, copS_le, copS_gt, copS_ge, copS_eqi, copS_nei, copS_isN, copS_isnN, bfS_lent, bfS_abs, bfS_max, bfS_min, bfS_int, decide_eq_true_eq, Bool.not_eq_true', decide_eq_false_iff_not, idxS_t, at2_0, at2_1, isi_int, isi_bl, isi_non, isi_str, isi_tup, isi_lst, reduceCtorEq, decide_false, decide_true, Bool.not_true, Bool.not_false, or_false, false_or, or_true, true_or, ite_self, setiR, idxS_l, bfS_lenl, bfS_lists, bfS_listt, slcS_t, slcS_l, slcS_s, newL_f, newL_t, at5_0, at5_1, at5_2, at5_3, at5_4, ix5_1, ix5_2, ix5_3, copS_neb, copS_eqb, copS_isB, idx_fr0, idx_fr1, Ob.lst.injEq, List.set_set]
  suffices t9 : wSs Φ C U ss_law_9 [some (.scr ns), some (.ref m), some (.tup (ps.map stD)), some (.int b2), kk, some (.int fi), some (.int fi), none, none, none, none, some (.int s'), some (.int k'), none, none, none] μ4 { nx := fun _ μ'' => Trn P μ .non μ'', rt := fun v μ'' => Trn P μ v μ'', ex := fun x _ μ'' => TrX X μ x μ'' } by
    have bb : (fi == fi) = true := beq_self_eq_true _
    refine ⟨mulOk_of (n := 41) (m := 41) (by omega) (by omega) (by decide), ?_⟩
    by_cases c0 : 0 < b2
    · have nb : (b2 == 0) = false := by simp; omega
      rw [if_pos (lo c0)]
      refine ⟨mulOk_of (n := 41) (m := 41) (by omega) (by omega) (by decide), ?_⟩
      rw [if_neg (fun n => n up)]
      simp only [nb, bb, wSs, wS, wE, wEs, wHs, IL.g0, IL.g1, IL.s0, IL.s1, Option.some.injEq, exists_eq_left', exists_eq_left, IL.ex2, IL.ex3, and_true, true_and, isNop, IL.pWn, IL.pWs, tW, Bool.false_eq_true, if_true, if_false, D.int.injEq, D.bl.injEq, D.str.injEq, D.tup.injEq, D.lst.injEq, D.ref.injEq, setMany, bopS_add, bopS_sub, bopS_mul, bopS_fdiv, bopS_mod, bopS_addt, copS_lt, copS_le, copS_gt, copS_ge, copS_eqi, copS_nei, copS_isN, copS_isnN, bfS_lent, bfS_abs, bfS_max, bfS_min, bfS_int, decide_eq_true_eq, Bool.not_eq_true', decide_eq_false_iff_not, idxS_t, at2_0, at2_1, isi_int, isi_bl, isi_non, isi_str, isi_tup, isi_lst, reduceCtorEq, decide_false, decide_true, Bool.not_true, Bool.not_false, or_false, false_or, or_true, true_or, ite_self, setiR, idxS_l, bfS_lenl, bfS_lists, bfS_listt, slcS_t, slcS_l, slcS_s, newL_f, newL_t, at5_0, at5_1, at5_2, at5_3, at5_4, ix5_1, ix5_2, ix5_3, copS_neb, copS_eqb, copS_isB, idx_fr0, idx_fr1, Ob.lst.injEq, List.set_set]
      exact t9
    · have e0 : b2 = 0 := by omega
      have f0 := gz e0
      have zb : ((0 : Int) == 0) = true := rfl
      have lt : k' * (b2 - 1) < fi := by rw [e0, f0]; omega
      rw [if_pos lt]
      refine ⟨mulOk_of (n := 41) (m := 41) (by omega) (by omega) (by decide), ?_⟩
      rw [if_neg (fun n => n up)]
      have nb : (b2 == 0) = true := by rw [e0]; rfl
      have nf : (fi == 0) = true := by rw [f0]; rfl
      simp only [nb, nf, bb, wSs, wS, wE, wEs, wHs, IL.g0, IL.g1, IL.s0, IL.s1, Option.some.injEq, exists_eq_left', exists_eq_left, IL.ex2, IL.ex3, and_true, true_and, isNop, IL.pWn, IL.pWs, tW, Bool.false_eq_true, if_true, if_false, D.int.injEq, D.bl.injEq, D.str.injEq, D.tup.injEq, D.lst.injEq, D.ref.injEq, setMany, bopS_add, bopS_sub, bopS_mul, bopS_fdiv, bopS_mod, bopS_addt, copS_lt, copS_le, copS_gt, copS_ge, copS_eqi, copS_nei, copS_isN, copS_isnN, bfS_lent, bfS_abs, bfS_max, bfS_min, bfS_int, decide_eq_true_eq, Bool.not_eq_true', decide_eq_false_iff_not, idxS_t, at2_0, at2_1, isi_int, isi_bl, isi_non, isi_str, isi_tup, isi_lst, reduceCtorEq, decide_false, decide_true, Bool.not_true, Bool.not_false, or_false, false_or, or_true, true_or, ite_self, setiR, idxS_l, bfS_lenl, bfS_lists, bfS_listt, slcS_t, slcS_l, slcS_s, newL_f, newL_t, at5_0, at5_1, at5_2, at5_3, at5_4, ix5_1, ix5_2, ix5_3, copS_neb, copS_eqb, copS_isB, idx_fr0, idx_fr1, Ob.lst.injEq, List.set_set]
      exact t9
  clear lo gz up iff_ ig
  simp only [ss_law_9, wSs, wS, wE, wEs, wHs, IL.g0, IL.g1, IL.s0, IL.s1, Option.some.injEq, exists_eq_left', exists_eq_left, IL.ex2, IL.ex3, and_true, true_and, isNop, IL.pWn, IL.pWs, tW, Bool.false_eq_true, if_true, if_false, D.int.injEq, D.bl.injEq, D.str.injEq, D.tup.injEq, D.lst.injEq, D.ref.injEq, setMany, bopS_add, bopS_sub, bopS_mul, bopS_fdiv, bopS_mod, bopS_addt, copS_lt, copS_le, copS_gt, copS_ge, copS_eqi, copS_nei, copS_isN, copS_isnN, bfS_lent, bfS_abs, bfS_max, bfS_min, bfS_int, decide_eq_true_eq, Bool.not_eq_true', decide_eq_false_iff_not, idxS_t, at2_0, at2_1, isi_int, isi_bl, isi_non, isi_str, isi_tup, isi_lst, reduceCtorEq, decide_false, decide_true, Bool.not_true, Bool.not_false, or_false, false_or, or_true, true_or, ite_self, setiR, idxS_l, bfS_lenl, bfS_lists, bfS_listt, slcS_t, slcS_l, slcS_s, newL_f, newL_t, at5_0, at5_1, at5_2, at5_3, at5_4, ix5_1, ix5_2, ix5_3, copS_neb, copS_eqb, copS_isB, idx_fr0, idx_fr1, Ob.lst.injEq, List.set_set]
  simp only [ss_law_10, lp_law_5, itW, itS, wSs, wS, wE, wEs, wHs, IL.g0, IL.g1, IL.s0, IL.s1, Option.some.injEq, exists_eq_left', exists_eq_left, IL.ex2, IL.ex3, and_true, true_and, isNop, IL.pWn, IL.pWs, tW, Bool.false_eq_true, if_true, if_false, D.int.injEq, D.bl.injEq, D.str.injEq, D.tup.injEq, D.lst.injEq, D.ref.injEq, setMany, bopS_add, bopS_sub, bopS_mul, bopS_fdiv, bopS_mod, bopS_addt, copS_lt, copS_le, copS_gt, copS_ge, copS_eqi, copS_nei, copS_isN, copS_isnN, bfS_lent, bfS_abs, bfS_max, bfS_min, bfS_int, decide_eq_true_eq, Bool.not_eq_true', decide_eq_false_iff_not, idxS_t, at2_0, at2_1, isi_int, isi_bl, isi_non, isi_str, isi_tup, isi_lst, reduceCtorEq, decide_false, decide_true, Bool.not_true, Bool.not_false, or_false, false_or, or_true, true_or, ite_self, setiR, idxS_l, bfS_lenl, bfS_lists, bfS_listt, slcS_t, slcS_l, slcS_s, newL_f, newL_t, at5_0, at5_1, at5_2, at5_3, at5_4, ix5_1, ix5_2, ix5_3, copS_neb, copS_eqb, copS_isB, idx_fr0, idx_fr1, Ob.lst.injEq, List.set_set]
  refine ⟨_, rfl, ?_⟩
  refine loop_rule (fun i ρ μ'' => μ'' = μ4 ∧ ∃ (mo : Int) (p q l : Option D), ρ = [some (.scr ns), some (.ref m), some (.tup (ps.map stD)), some (.int b2), kk, some (.int fi), some (.int fi), some (.int mo), none, none, none, some (.int s'), some (.int k'), p, q, l] ∧ mo ≤ b2)
    (fun i d ρ μ'' hd ⟨e0, mo, p, q, l, e1, hmo⟩ => ⟨trivial, ?_⟩) (fun ρ μ'' ⟨e0, mo, p, q, l, e1, hmo⟩ => ⟨trivial, ?_⟩) ⟨rfl, 0, none, none, none, rfl, bnn⟩
  · subst e0 e1
    obtain ⟨r, _, hr, rfl⟩ := stD_at hd
    refine ⟨_, rfl, rfl, fun N hN => ?_⟩
    simp only [wSs, wS, wE, wEs, wHs, IL.g0, IL.g1, IL.s0, IL.s1, Option.some.injEq, exists_eq_left', exists_eq_left, IL.ex2, IL.ex3, and_true, true_and, isNop, IL.pWn, IL.pWs, tW, Bool.false_eq_true, if_true, if_false, D.int.injEq, D.bl.injEq, D.str.injEq, D.tup.injEq, D.lst.injEq, D.ref.injEq, setMany, bopS_add, bopS_sub, bopS_mul, bopS_fdiv, bopS_mod, bopS_addt, copS_lt, copS_le, copS_gt, copS_ge, copS_eqi, copS_nei, copS_isN, copS_isnN, bfS_lent, bfS_abs, bfS_max, bfS_min, bfS_int, decide_eq_true_eq, Bool.not_eq_true', decide_eq_false_iff_not, idxS_t, at2_0, at2_1, isi_int, isi_bl, isi_non, isi_str, isi_tup, isi_lst, reduceCtorEq, decide_false, decide_true, Bool.not_true, Bool.not_false, or_false, false_or, or_true, true_or, ite_self, setiR, idxS_l, bfS_lenl, bfS_lists, bfS_listt, slcS_t, slcS_l, slcS_s, newL_f, newL_t, at5_0, at5_1, at5_2, at5_3, at5_4, ix5_1, ix5_2, ix5_3, copS_neb, copS_eqb, copS_isB, idx_fr0, idx_fr1, Ob.lst.injEq, List.set_set]
    have rz := R.sz r hr
    refine w_least s0' (by omega) rz.2 fun l h1 h2 => ?_
    have rp := R.pl r hr
    have sb : ([r] : List (Rat × Rat)).Sublist ps := by
      obtain ⟨a, b', rfl⟩ := List.append_of_mem hr
      exact (List.Sublist.append (List.nil_sublist a) (List.Sublist.append (List.Sublist.refl [r]) (List.nil_sublist b')) : ([] ++ ([r] ++ [])).Sublist (a ++ ([r] ++ b')))
    have R1 := R.sub sb
    simp only [wSs, wS, wE, wEs, wHs, IL.g0, IL.g1, IL.s0, IL.s1, Option.some.injEq, exists_eq_left', exists_eq_left, IL.ex2, IL.ex3, and_true, true_and, isNop, IL.pWn, IL.pWs, tW, Bool.false_eq_true, if_true, if_false, D.int.injEq, D.bl.injEq, D.str.injEq, D.tup.injEq, D.lst.injEq, D.ref.injEq, setMany, bopS_add, bopS_sub, bopS_mul, bopS_fdiv, bopS_mod, bopS_addt, copS_lt, copS_le, copS_gt, copS_ge, copS_eqi, copS_nei, copS_isN, copS_isnN, bfS_lent, bfS_abs, bfS_max, bfS_min, bfS_int, decide_eq_true_eq, Bool.not_eq_true', decide_eq_false_iff_not, idxS_t, at2_0, at2_1, isi_int, isi_bl, isi_non, isi_str, isi_tup, isi_lst, reduceCtorEq, decide_false, decide_true, Bool.not_true, Bool.not_false, or_false, false_or, or_true, true_or, ite_self, setiR, idxS_l, bfS_lenl, bfS_lists, bfS_listt, slcS_t, slcS_l, slcS_s, newL_f, newL_t, at5_0, at5_1, at5_2, at5_3, at5_4, ix5_1, ix5_2, ix5_3, copS_neb, copS_eqb, copS_isB, idx_fr0, idx_fr1, Ob.lst.injEq, List.set_set]
    refine ⟨sz2, sz1, ?_⟩
    refine call_lb hlb (pts := [r]) R1.rw_ s0' (by omega) fun b3 L3 _ => ?_
    have one : ∀ c : Int, 0 ≤ c → (Bd [r] s' c ↔ (r.2.num.natAbs : Int) * s' ≤ c * r.2.den) := fun c hc => bd_one (p := r.1) (q := r.2) rp s0' hc
    have i3 := L3.iff R1.toNumOk s0'
    have e3 : b3 = l := by
      have a1 : b3 ≤ l := (i3 l).mp ((one l (by omega)).mpr h1)
      have a2 := (one b3 L3.nn).mp L3.at_
      rcases h2 with h2 | h2
      · refine Classical.byContradiction fun n => h2 ?_
        have : b3 * (r.2.den : Int) ≤ ((l : Int) - 1) * r.2.den := Int.mul_le_mul_of_nonneg_right (by omega) (by omega)
        omega
      · have := L3.nn; omega
    have le : b3 ≤ b2 := (i3 b2).mp (bd_sub R.toNumOk (fun q hq => sb.subset hq) Lb.at_)
    subst e3
    simp only [wSs, wS, wE, wEs, wHs, IL.g0, IL.g1, IL.s0, IL.s1, Option.some.injEq, exists_eq_left', exists_eq_left, IL.ex2, IL.ex3, and_true, true_and, isNop, IL.pWn, IL.pWs, tW, Bool.false_eq_true, if_true, if_false, D.int.injEq, D.bl.injEq, D.str.injEq, D.tup.injEq, D.lst.injEq, D.ref.injEq, setMany, bopS_add, bopS_sub, bopS_mul, bopS_fdiv, bopS_mod, bopS_addt, copS_lt, copS_le, copS_gt, copS_ge, copS_eqi, copS_nei, copS_isN, copS_isnN, bfS_lent, bfS_abs, bfS_max, bfS_min, bfS_int, decide_eq_true_eq, Bool.not_eq_true', decide_eq_false_iff_not, idxS_t, at2_0, at2_1, isi_int, isi_bl, isi_non, isi_str, isi_tup, isi_lst, reduceCtorEq, decide_false, decide_true, Bool.not_true, Bool.not_false, or_false, false_or, or_true, true_or, ite_self, setiR, idxS_l, bfS_lenl, bfS_lists, bfS_listt, slcS_t, slcS_l, slcS_s, newL_f, newL_t, at5_0, at5_1, at5_2, at5_3, at5_4, ix5_1, ix5_2, ix5_3, copS_neb, copS_eqb, copS_isB, idx_fr0, idx_fr1, Ob.lst.injEq, List.set_set, beq_self_eq_true]
    exact hN _ _ ⟨rfl, _, _, _, _, rfl, by split <;> omega⟩
  subst e1
  rw [e0]

  simp only [ss_law_11, wSs, wS, wE, wEs, wHs, IL.g0, IL.g1, IL.s0, IL.s1, Option.some.injEq, exists_eq_left', exists_eq_left, IL.ex2, IL.ex3, and_true, true_and, isNop, IL.pWn, IL.pWs, tW, Bool.false_eq_true, if_true, if_false, D.int.injEq, D.bl.injEq, D.str.injEq, D.tup.injEq, D.lst.injEq, D.ref.injEq, setMany, bopS_add, bopS_sub, bopS_mul, bopS_fdiv, bopS_mod, bopS_addt, copS_lt, copS_le, copS_gt, copS_ge, copS_eqi, copS_nei, copS_isN, copS_isnN, bfS_lent, bfS_abs, bfS_max, bfS_min, bfS_int, decide_eq_true_eq, Bool.not_eq_true', decide_eq_false_iff_not, idxS_t, at2_0, at2_1, isi_int, isi_bl, isi_non, isi_str, isi_tup, isi_lst, reduceCtorEq, decide_false, decide_true, Bool.not_true, Bool.not_false, or_false, false_or, or_true, true_or, ite_self, setiR, idxS_l, bfS_lenl, bfS_lists, bfS_listt, slcS_t, slcS_l, slcS_s, newL_f, newL_t, at5_0, at5_1, at5_2, at5_3, at5_4, ix5_1, ix5_2, ix5_3, copS_neb, copS_eqb, copS_isB, idx_fr0, idx_fr1, Ob.lst.injEq, List.set_set]
  rw [if_neg (by omega)]
  simp only [ss_law_12, wSs, wS, wE, wEs, wHs, IL.g0, IL.g1, IL.s0, IL.s1, Option.some.injEq, exists_eq_left', exists_eq_left, IL.ex2, IL.ex3, and_true, true_and, isNop, IL.pWn, IL.pWs, tW, Bool.false_eq_true, if_true, if_false, D.int.injEq, D.bl.injEq, D.str.injEq, D.tup.injEq, D.lst.injEq, D.ref.injEq, setMany, bopS_add, bopS_sub, bopS_mul, bopS_fdiv, bopS_mod, bopS_addt, copS_lt, copS_le, copS_gt, copS_ge, copS_eqi, copS_nei, copS_isN, copS_isnN, bfS_lent, bfS_abs, bfS_max, bfS_min, bfS_int, decide_eq_true_eq, Bool.not_eq_true', decide_eq_false_iff_not, idxS_t, at2_0, at2_1, isi_int, isi_bl, isi_non, isi_str, isi_tup, isi_lst, reduceCtorEq, decide_false, decide_true, Bool.not_true, Bool.not_false, or_false, false_or, or_true, true_or, ite_self, setiR, idxS_l, bfS_lenl, bfS_lists, bfS_listt, slcS_t, slcS_l, slcS_s, newL_f, newL_t, at5_0, at5_1, at5_2, at5_3, at5_4, ix5_1, ix5_2, ix5_3, copS_neb, copS_eqb, copS_isB, idx_fr0, idx_fr1, Ob.lst.injEq, List.set_set]
  refine hladder _ _ _ _ ⟨m, _, o4, 3, rfl, by decide, hm4, hp4, by decide, fun steps last o5 hL hp5 => ?_⟩
  have hm5 := gs_of hm4 o5
  generalize μ4.set m o5 = μ5 at *
  simp only [ss_law_13, cp_law_6, itW, itS, wSs, wS, wE, wEs, wHs, IL.g0, IL.g1, IL.s0, IL.s1, Option.some.injEq, exists_eq_left', exists_eq_left, IL.ex2, IL.ex3, and_true, true_and, isNop, IL.pWn, IL.pWs, tW, Bool.false_eq_true, if_true, if_false, D.int.injEq, D.bl.injEq, D.str.injEq, D.tup.injEq, D.lst.injEq, D.ref.injEq, setMany, bopS_add, bopS_sub, bopS_mul, bopS_fdiv, bopS_mod, bopS_addt, copS_lt, copS_le, copS_gt, copS_ge, copS_eqi, copS_nei, copS_isN, copS_isnN, bfS_lent, bfS_abs, bfS_max, bfS_min, bfS_int, decide_eq_true_eq, Bool.not_eq_true', decide_eq_false_iff_not, idxS_t, at2_0, at2_1, isi_int, isi_bl, isi_non, isi_str, isi_tup, isi_lst, reduceCtorEq, decide_false, decide_true, Bool.not_true, Bool.not_false, or_false, false_or, or_true, true_or, ite_self, setiR, idxS_l, bfS_lenl, bfS_lists, bfS_listt, slcS_t, slcS_l, slcS_s, newL_f, newL_t, at5_0, at5_1, at5_2, at5_3, at5_4, ix5_1, ix5_2, ix5_3, copS_neb, copS_eqb, copS_isB, idx_fr0, idx_fr1, Ob.lst.injEq, List.set_set]
  refine hplaces _ _ _ _ ⟨m, _, o5, 3, rfl, by decide, hm5, hp5, by decide, fun ys o6 hy hp6 => ?_⟩
  have hm6 := gs_of hm5 o6
  generalize μ5.set m o6 = μ6 at *
  have hyn := hy.n
  refine ⟨_, rfl, ?_⟩
  simp only [wipeD, Tg.slots, wSs, wS, wE, wEs, wHs, IL.g0, IL.g1, IL.s0, IL.s1, Option.some.injEq, exists_eq_left', exists_eq_left, IL.ex2, IL.ex3, and_true, true_and, isNop, IL.pWn, IL.pWs, tW, Bool.false_eq_true, if_true, if_false, D.int.injEq, D.bl.injEq, D.str.injEq, D.tup.injEq, D.lst.injEq, D.ref.injEq, setMany, bopS_add, bopS_sub, bopS_mul, bopS_fdiv, bopS_mod, bopS_addt, copS_lt, copS_le, copS_gt, copS_ge, copS_eqi, copS_nei, copS_isN, copS_isnN, bfS_lent, bfS_abs, bfS_max, bfS_min, bfS_int, decide_eq_true_eq, Bool.not_eq_true', decide_eq_false_iff_not, idxS_t, at2_0, at2_1, isi_int, isi_bl, isi_non, isi_str, isi_tup, isi_lst, reduceCtorEq, decide_false, decide_true, Bool.not_true, Bool.not_false, or_false, false_or, or_true, true_or, ite_self, setiR, idxS_l, bfS_lenl, bfS_lists, bfS_listt, slcS_t, slcS_l, slcS_s, newL_f, newL_t, at5_0, at5_1, at5_2, at5_3, at5_4, ix5_1, ix5_2, ix5_3, copS_neb, copS_eqb, copS_isB, idx_fr0, idx_fr1, Ob.lst.injEq, List.set_set]
  refine w_comp_on (C := C) (i := 8) (j := 13) (v := ladD steps last) (G := valQ steps last) (by decide) (show 13 < 16 by decide) rfl trivial (by omega) (fun x hx' R X' hR => hval _ _ _ _ ⟨steps, last, x, rfl, hL.toLadOk, (hy.pl x hx').1, lad_vsz hL (by decide) x (hy.pl x hx').2, hR⟩) ?_
  refine ⟨by rw [List.length_map, List.length_map]; omega, _, rfl, ?_⟩
  have S : PtS 3 (ys.map fun x => (x, valQ steps last x)) := hy.fun_s fun x hx' => ⟨val_bd (hy.pl x hx').1.1 (hy.pl x hx').1.2 hL.toLadOk, lad_bv hL x (hy.pl x hx').2⟩
  have psd := psd_lad hL.toLadOk (fun u hu => (hy.pl u hu).1) hy.nd
  generalize (ys.map fun x => (x, valQ steps last x)) = pts at *
  have prw : ∀ {ps : List (Rat × Rat)}, PtS 3 ps → Rw ps := fun S => ⟨⟨S.pl, S.nd⟩, S.n, fun p hp => by have := S.sz p hp; omega, fun p hp => by have := S.lv p hp; constructor <;> grind⟩
  simp only [ss_law_14, wSs, wS, wE, wEs, wHs, IL.g0, IL.g1, IL.s0, IL.s1, Option.some.injEq, exists_eq_left', exists_eq_left, IL.ex2, IL.ex3, and_true, true_and, isNop, IL.pWn, IL.pWs, tW, Bool.false_eq_true, if_true, if_false, D.int.injEq, D.bl.injEq, D.str.injEq, D.tup.injEq, D.lst.injEq, D.ref.injEq, setMany, bopS_add, bopS_sub, bopS_mul, bopS_fdiv, bopS_mod, bopS_addt, copS_lt, copS_le, copS_gt, copS_ge, copS_eqi, copS_nei, copS_isN, copS_isnN, bfS_lent, bfS_abs, bfS_max, bfS_min, bfS_int, decide_eq_true_eq, Bool.not_eq_true', decide_eq_false_iff_not, idxS_t, at2_0, at2_1, isi_int, isi_bl, isi_non, isi_str, isi_tup, isi_lst, reduceCtorEq, decide_false, decide_true, Bool.not_true, Bool.not_false, or_false, false_or, or_true, true_or, ite_self, setiR, idxS_l, bfS_lenl, bfS_lists, bfS_listt, slcS_t, slcS_l, slcS_s, newL_f, newL_t, at5_0, at5_1, at5_2, at5_3, at5_4, ix5_1, ix5_2, ix5_3, copS_neb, copS_eqb, copS_isB, idx_fr0, idx_fr1, Ob.lst.injEq, List.set_set]
  refine call_lb hlb (prw S) s0' (by omega) fun b4 L4 _ => ?_
  have le4 : b4 ≤ s' := (L4.iff (prw S).toNumOk s0' s').mp ((bd_self s0').mpr psd)
  simp only [wSs, wS, wE, wEs, wHs, IL.g0, IL.g1, IL.s0, IL.s1, Option.some.injEq, exists_eq_left', exists_eq_left, IL.ex2, IL.ex3, and_true, true_and, isNop, IL.pWn, IL.pWs, tW, Bool.false_eq_true, if_true, if_false, D.int.injEq, D.bl.injEq, D.str.injEq, D.tup.injEq, D.lst.injEq, D.ref.injEq, setMany, bopS_add, bopS_sub, bopS_mul, bopS_fdiv, bopS_mod, bopS_addt, copS_lt, copS_le, copS_gt, copS_ge, copS_eqi, copS_nei, copS_isN, copS_isnN, bfS_lent, bfS_abs, bfS_max, bfS_min, bfS_int, decide_eq_true_eq, Bool.not_eq_true', decide_eq_false_iff_not, idxS_t, at2_0, at2_1, isi_int, isi_bl, isi_non, isi_str, isi_tup, isi_lst, reduceCtorEq, decide_false, decide_true, Bool.not_true, Bool.not_false, or_false, false_or, or_true, true_or, ite_self, setiR, idxS_l, bfS_lenl, bfS_lists, bfS_listt, slcS_t, slcS_l, slcS_s, newL_f, newL_t, at5_0, at5_1, at5_2, at5_3, at5_4, ix5_1, ix5_2, ix5_3, copS_neb, copS_eqb, copS_isB, idx_fr0, idx_fr1, Ob.lst.injEq, List.set_set]
  rw [if_neg (by omega)]
  refine call_told htold S.toPtsOk psd S.sz (n := 2) S.n (by decide) (by decide) ?_
  simp only [copS_isnB, wSs, wS, wE, wEs, wHs, IL.g0, IL.g1, IL.s0, IL.s1, Option.some.injEq, exists_eq_left', exists_eq_left, IL.ex2, IL.ex3, and_true, true_and, isNop, IL.pWn, IL.pWs, tW, Bool.false_eq_true, if_true, if_false, D.int.injEq, D.bl.injEq, D.str.injEq, D.tup.injEq, D.lst.injEq, D.ref.injEq, setMany, bopS_add, bopS_sub, bopS_mul, bopS_fdiv, bopS_mod, bopS_addt, copS_lt, copS_le, copS_gt, copS_ge, copS_eqi, copS_nei, copS_isN, copS_isnN, bfS_lent, bfS_abs, bfS_max, bfS_min, bfS_int, decide_eq_true_eq, Bool.not_eq_true', decide_eq_false_iff_not, idxS_t, at2_0, at2_1, isi_int, isi_bl, isi_non, isi_str, isi_tup, isi_lst, reduceCtorEq, decide_false, decide_true, Bool.not_true, Bool.not_false, or_false, false_or, or_true, true_or, ite_self, setiR, idxS_l, bfS_lenl, bfS_lists, bfS_listt, slcS_t, slcS_l, slcS_s, newL_f, newL_t, at5_0, at5_1, at5_2, at5_3, at5_4, ix5_1, ix5_2, ix5_3, copS_neb, copS_eqb, copS_isB, idx_fr0, idx_fr1, Ob.lst.injEq, List.set_set, show (true == true) = true from rfl]
  simp only [ss_law_15, wSs, wS, wE, wEs, wHs, IL.g0, IL.g1, IL.s0, IL.s1, Option.some.injEq, exists_eq_left', exists_eq_left, IL.ex2, IL.ex3, and_true, true_and, isNop, IL.pWn, IL.pWs, tW, Bool.false_eq_true, if_true, if_false, D.int.injEq, D.bl.injEq, D.str.injEq, D.tup.injEq, D.lst.injEq, D.ref.injEq, setMany, bopS_add, bopS_sub, bopS_mul, bopS_fdiv, bopS_mod, bopS_addt, copS_lt, copS_le, copS_gt, copS_ge, copS_eqi, copS_nei, copS_isN, copS_isnN, bfS_lent, bfS_abs, bfS_max, bfS_min, bfS_int, decide_eq_true_eq, Bool.not_eq_true', decide_eq_false_iff_not, idxS_t, at2_0, at2_1, isi_int, isi_bl, isi_non, isi_str, isi_tup, isi_lst, reduceCtorEq, decide_false, decide_true, Bool.not_true, Bool.not_false, or_false, false_or, or_true, true_or, ite_self, setiR, idxS_l, bfS_lenl, bfS_lists, bfS_listt, slcS_t, slcS_l, slcS_s, newL_f, newL_t, at5_0, at5_1, at5_2, at5_3, at5_4, ix5_1, ix5_2, ix5_3, copS_neb, copS_eqb, copS_isB, idx_fr0, idx_fr1, Ob.lst.injEq, List.set_set]
  refine hpoints _ _ _ _ ⟨m, _, o6, 3, rfl, by decide, hm6, hp6, by decide, fun qs o7 Sq hp7 => ?_⟩
  simp only [ss_law_16, wSs, wS, wE, wEs, wHs, IL.g0, IL.g1, IL.s0, IL.s1, Option.some.injEq, exists_eq_left', exists_eq_left, IL.ex2, IL.ex3, and_true, true_and, isNop, IL.pWn, IL.pWs, tW, Bool.false_eq_true, if_true, if_false, D.int.injEq, D.bl.injEq, D.str.injEq, D.tup.injEq, D.lst.injEq, D.ref.injEq, setMany, bopS_add, bopS_sub, bopS_mul, bopS_fdiv, bopS_mod, bopS_addt, copS_lt, copS_le, copS_gt, copS_ge, copS_eqi, copS_nei, copS_isN, copS_isnN, bfS_lent, bfS_abs, bfS_max, bfS_min, bfS_int, decide_eq_true_eq, Bool.not_eq_true', decide_eq_false_iff_not, idxS_t, at2_0, at2_1, isi_int, isi_bl, isi_non, isi_str, isi_tup, isi_lst, reduceCtorEq, decide_false, decide_true, Bool.not_true, Bool.not_false, or_false, false_or, or_true, true_or, ite_self, setiR, idxS_l, bfS_lenl, bfS_lists, bfS_listt, slcS_t, slcS_l, slcS_s, newL_f, newL_t, at5_0, at5_1, at5_2, at5_3, at5_4, ix5_1, ix5_2, ix5_3, copS_neb, copS_eqb, copS_isB, idx_fr0, idx_fr1, Ob.lst.injEq, List.set_set]
  refine call_lb hlb (prw Sq) s0' (by omega) fun b5 L5 _ => ?_
  simp only [wSs, wS, wE, wEs, wHs, IL.g0, IL.g1, IL.s0, IL.s1, Option.some.injEq, exists_eq_left', exists_eq_left, IL.ex2, IL.ex3, and_true, true_and, isNop, IL.pWn, IL.pWs, tW, Bool.false_eq_true, if_true, if_false, D.int.injEq, D.bl.injEq, D.str.injEq, D.tup.injEq, D.lst.injEq, D.ref.injEq, setMany, bopS_add, bopS_sub, bopS_mul, bopS_fdiv, bopS_mod, bopS_addt, copS_lt, copS_le, copS_gt, copS_ge, copS_eqi, copS_nei, copS_isN, copS_isnN, bfS_lent, bfS_abs, bfS_max, bfS_min, bfS_int, decide_eq_true_eq, Bool.not_eq_true', decide_eq_false_iff_not, idxS_t, at2_0, at2_1, isi_int, isi_bl, isi_non, isi_str, isi_tup, isi_lst, reduceCtorEq, decide_false, decide_true, Bool.not_true, Bool.not_false, or_false, false_or, or_true, true_or, ite_self, setiR, idxS_l, bfS_lenl, bfS_lists, bfS_listt, slcS_t, slcS_l, slcS_s, newL_f, newL_t, at5_0, at5_1, at5_2, at5_3, at5_4, ix5_1, ix5_2, ix5_3, copS_neb, copS_eqb, copS_isB, idx_fr0, idx_fr1, Ob.lst.injEq, List.set_set]
  refine htold _ _ _ _ ⟨qs, rfl, pts_s Sq.toPtsOk Sq.sz (n := 2) Sq.n (by decide) (by decide), ?_⟩
  have e5 : decide (b5 ≤ s') = (ladQ qs).isSome := by
    rw [Bool.eq_iff_iff, decide_eq_true_eq, told_iff Sq.toPtsOk, ← bd_self s0', L5.iff (prw Sq).toNumOk s0' s']
  simp only [wSs, wS, wE, wEs, wHs, IL.g0, IL.g1, IL.s0, IL.s1, Option.some.injEq, exists_eq_left', exists_eq_left, IL.ex2, IL.ex3, and_true, true_and, isNop, IL.pWn, IL.pWs, tW, Bool.false_eq_true, if_true, if_false, D.int.injEq, D.bl.injEq, D.str.injEq, D.tup.injEq, D.lst.injEq, D.ref.injEq, setMany, bopS_add, bopS_sub, bopS_mul, bopS_fdiv, bopS_mod, bopS_addt, copS_lt, copS_le, copS_gt, copS_ge, copS_eqi, copS_nei, copS_isN, copS_isnN, bfS_lent, bfS_abs, bfS_max, bfS_min, bfS_int, decide_eq_true_eq, Bool.not_eq_true', decide_eq_false_iff_not, idxS_t, at2_0, at2_1, isi_int, isi_bl, isi_non, isi_str, isi_tup, isi_lst, reduceCtorEq, decide_false, decide_true, Bool.not_true, Bool.not_false, or_false, false_or, or_true, true_or, ite_self, setiR, idxS_l, bfS_lenl, bfS_lists, bfS_listt, slcS_t, slcS_l, slcS_s, newL_f, newL_t, at5_0, at5_1, at5_2, at5_3, at5_4, ix5_1, ix5_2, ix5_3, copS_neb, copS_eqb, copS_isB, idx_fr0, idx_fr1, Ob.lst.injEq, List.set_set]
  rw [e5, beq_self_eq_true]
  exact .inl (hP _)
end
end IL

namespace IL
open PySem PySem.Spec PyProof.Rows L2
def topS (i : Nat) : Stmt := PySem.Challenge.pw_withinone_k26_whole_bounds_reckoned.main.body.getD i (.Pass ⟨0, 0, 0, 0⟩)
abbrev dLaw : DefI := d_law (topS 44)
def tabL : List DefI := [d_is_whole (topS 6), d_common (topS 7), d_fraction (topS 8), d_is_fraction (topS 9), d_plus (topS 10), d_minus (topS 11), d_times (topS 12), d_over (topS 13), d_is_level (topS 14), d_turn (topS 15), d_lifted (topS 17), d_lowered (topS 18), d_value_on (topS 19), d_ladder_of (topS 21), d_can_be_told (topS 22), d_least_bound (topS 23), d_is_bound (topS 24), d_law_pool (topS 26), d_law_spread (topS 27), d_law_draw (topS 28), d_law_gcd (topS 29), d_law_f (topS 30), d_law_add (topS 31), d_law_sub (topS 32), d_law_mul (topS 33), d_law_div (topS 34), d_law_less (topS 35), d_law_place (topS 36), d_law_level (topS 37), d_law_places (topS 38), d_law_points (topS 39), d_law_ladder (topS 40), d_law_swing (topS 41), d_law_lift (topS 42), d_law_on (topS 43), d_law (topS 44)]
def gcL : GC := ⟨([("is_whole", 1), ("common", 2), ("fraction", 2), ("is_fraction", 1), ("plus", 2), ("minus", 2), ("times", 2), ("over", 2), ("is_level", 1), ("turn", 2), ("lifted", 2), ("lowered", 2), ("value_on", 2), ("ladder_of", 1), ("can_be_told", 1), ("least_bound", 2), ("is_bound", 3), ("_law_pool", 1), ("_law_spread", 1), ("_law_draw", 2), ("_law_gcd", 2), ("_law_f", 2), ("_law_add", 2), ("_law_sub", 2), ("_law_mul", 2)] : List (Str × Nat)) ++ ([("_law_div", 2), ("_law_less", 2), ("_law_place", 1), ("_law_level", 1), ("_law_places", 2), ("_law_points", 2), ("_law_ladder", 2), ("_law_swing", 2), ("_law_lift", 2), ("_law_on", 2), ("law", 1)] : List (Str × Nat)), ["ONE", "ZERO"], ["NoQuotient"], false⟩
def csL : CsT := [("ONE", .tup [1, 1]), ("ZERO", .tup [0, 1])]
def usL : UsT := [(("NoQuotient", "NoQuotient"), true)]
theorem bnd_is_whole (K : PySem.W.Frag) (f : Addr) (fd : FuncData) (F : FunD K (d_is_whole (topS 6)).x (d_is_whole (topS 6)).x (defArgs (topS 6)) (defBody (topS 6)) (defScope (topS 6)) [] [] f fd) : Binds K fd (d_is_whole (topS 6)).ps [] := F.bindsN fun _ _ _ _ _ _ us hl => match us, hl with | [_], _ => rfl
theorem bnd_common (K : PySem.W.Frag) (f : Addr) (fd : FuncData) (F : FunD K (d_common (topS 7)).x (d_common (topS 7)).x (defArgs (topS 7)) (defBody (topS 7)) (defScope (topS 7)) [] [] f fd) : Binds K fd (d_common (topS 7)).ps [] := F.bindsN fun _ _ _ _ _ _ us hl => match us, hl with | [_, _], _ => rfl
theorem bnd_fraction (K : PySem.W.Frag) (f : Addr) (fd : FuncData) (F : FunD K (d_fraction (topS 8)).x (d_fraction (topS 8)).x (defArgs (topS 8)) (defBody (topS 8)) (defScope (topS 8)) [] [] f fd) : Binds K fd (d_fraction (topS 8)).ps [] := F.bindsN fun _ _ _ _ _ _ us hl => match us, hl with | [_, _], _ => rfl
theorem bnd_is_fraction (K : PySem.W.Frag) (f : Addr) (fd : FuncData) (F : FunD K (d_is_fraction (topS 9)).x (d_is_fraction (topS 9)).x (defArgs (topS 9)) (defBody (topS 9)) (defScope (topS 9)) [] [] f fd) : Binds K fd (d_is_fraction (topS 9)).ps [] := F.bindsN fun _ _ _ _ _ _ us hl => match us, hl with | [_], _ => rfl
theorem bnd_plus (K : PySem.W.Frag) (f : Addr) (fd : FuncData) (F : FunD K (d_plus (topS 10)).x (d_plus (topS 10)).x (defArgs (topS 10)) (defBody (topS 10)) (defScope (topS 10)) [] [] f fd) : Binds K fd (d_plus (topS 10)).ps [] := F.bindsN fun _ _ _ _ _ _ us hl => match us, hl with | [_, _], _ => rfl
theorem bnd_minus (K : PySem.W.Frag) (f : Addr) (fd : FuncData) (F : FunD K (d_minus (topS 11)).x (d_minus (topS 11)).x (defArgs (topS 11)) (defBody (topS 11)) (defScope (topS 11)) [] [] f fd) : Binds K fd (d_minus (topS 11)).ps [] := F.bindsN fun _ _ _ _ _ _ us hl => match us, hl with | [_, _], _ => rfl
theorem bnd_times (K : PySem.W.Frag) (f : Addr) (fd : FuncData) (F : FunD K (d_times (topS 12)).x (d_times (topS 12)).x (defArgs (topS 12)) (defBody (topS 12)) (defScope (topS 12)) [] [] f fd) : Binds K fd (d_times (topS 12)).ps [] := F.bindsN fun _ _ _ _ _ _ us hl => match us, hl with | [_, _], _ => rfl
theorem bnd_over (K : PySem.W.Frag) (f : Addr) (fd : FuncData) (F : FunD K (d_over (topS 13)).x (d_over (topS 13)).x (defArgs (topS 13)) (defBody (topS 13)) (defScope (topS 13)) [] [] f fd) : Binds K fd (d_over (topS 13)).ps [] := F.bindsN fun _ _ _ _ _ _ us hl => match us, hl with | [_, _], _ => rfl
theorem bnd_is_level (K : PySem.W.Frag) (f : Addr) (fd : FuncData) (F : FunD K (d_is_level (topS 14)).x (d_is_level (topS 14)).x (defArgs (topS 14)) (defBody (topS 14)) (defScope (topS 14)) [] [] f fd) : Binds K fd (d_is_level (topS 14)).ps [] := F.bindsN fun _ _ _ _ _ _ us hl => match us, hl with | [_], _ => rfl
theorem bnd_turn (K : PySem.W.Frag) (f : Addr) (fd : FuncData) (F : FunD K (d_turn (topS 15)).x (d_turn (topS 15)).x (defArgs (topS 15)) (defBody (topS 15)) (defScope (topS 15)) [] [] f fd) : Binds K fd (d_turn (topS 15)).ps [] := F.bindsN fun _ _ _ _ _ _ us hl => match us, hl with | [_, _], _ => rfl
theorem bnd_lifted (K : PySem.W.Frag) (f : Addr) (fd : FuncData) (F : FunD K (d_lifted (topS 17)).x (d_lifted (topS 17)).x (defArgs (topS 17)) (defBody (topS 17)) (defScope (topS 17)) [] [] f fd) : Binds K fd (d_lifted (topS 17)).ps [] := F.bindsN fun _ _ _ _ _ _ us hl => match us, hl with | [_, _], _ => rfl
theorem bnd_lowered (K : PySem.W.Frag) (f : Addr) (fd : FuncData) (F : FunD K (d_lowered (topS 18)).x (d_lowered (topS 18)).x (defArgs (topS 18)) (defBody (topS 18)) (defScope (topS 18)) [] [] f fd) : Binds K fd (d_lowered (topS 18)).ps [] := F.bindsN fun _ _ _ _ _ _ us hl => match us, hl with | [_, _], _ => rfl
theorem bnd_value_on (K : PySem.W.Frag) (f : Addr) (fd : FuncData) (F : FunD K (d_value_on (topS 19)).x (d_value_on (topS 19)).x (defArgs (topS 19)) (defBody (topS 19)) (defScope (topS 19)) [] [] f fd) : Binds K fd (d_value_on (topS 19)).ps [] := F.bindsN fun _ _ _ _ _ _ us hl => match us, hl with | [_, _], _ => rfl
theorem bnd_ladder_of (K : PySem.W.Frag) (f : Addr) (fd : FuncData) (F : FunD K (d_ladder_of (topS 21)).x (d_ladder_of (topS 21)).x (defArgs (topS 21)) (defBody (topS 21)) (defScope (topS 21)) [] [] f fd) : Binds K fd (d_ladder_of (topS 21)).ps [] := F.bindsN fun _ _ _ _ _ _ us hl => match us, hl with | [_], _ => rfl
theorem bnd_can_be_told (K : PySem.W.Frag) (f : Addr) (fd : FuncData) (F : FunD K (d_can_be_told (topS 22)).x (d_can_be_told (topS 22)).x (defArgs (topS 22)) (defBody (topS 22)) (defScope (topS 22)) [] [] f fd) : Binds K fd (d_can_be_told (topS 22)).ps [] := F.bindsN fun _ _ _ _ _ _ us hl => match us, hl with | [_], _ => rfl
theorem bnd_least_bound (K : PySem.W.Frag) (f : Addr) (fd : FuncData) (F : FunD K (d_least_bound (topS 23)).x (d_least_bound (topS 23)).x (defArgs (topS 23)) (defBody (topS 23)) (defScope (topS 23)) [] [] f fd) : Binds K fd (d_least_bound (topS 23)).ps [] := F.bindsN fun _ _ _ _ _ _ us hl => match us, hl with | [_, _], _ => rfl
theorem bnd_is_bound (K : PySem.W.Frag) (f : Addr) (fd : FuncData) (F : FunD K (d_is_bound (topS 24)).x (d_is_bound (topS 24)).x (defArgs (topS 24)) (defBody (topS 24)) (defScope (topS 24)) [] [] f fd) : Binds K fd (d_is_bound (topS 24)).ps [] := F.bindsN fun _ _ _ _ _ _ us hl => match us, hl with | [_, _, _], _ => rfl
theorem bnd_law_pool (K : PySem.W.Frag) (f : Addr) (fd : FuncData) (F : FunD K (d_law_pool (topS 26)).x (d_law_pool (topS 26)).x (defArgs (topS 26)) (defBody (topS 26)) (defScope (topS 26)) [] [] f fd) : Binds K fd (d_law_pool (topS 26)).ps [] := F.bindsN fun _ _ _ _ _ _ us hl => match us, hl with | [_], _ => rfl
theorem bnd_law_spread (K : PySem.W.Frag) (f : Addr) (fd : FuncData) (F : FunD K (d_law_spread (topS 27)).x (d_law_spread (topS 27)).x (defArgs (topS 27)) (defBody (topS 27)) (defScope (topS 27)) [] [] f fd) : Binds K fd (d_law_spread (topS 27)).ps [] := F.bindsN fun _ _ _ _ _ _ us hl => match us, hl with | [_], _ => rfl
theorem bnd_law_draw (K : PySem.W.Frag) (f : Addr) (fd : FuncData) (F : FunD K (d_law_draw (topS 28)).x (d_law_draw (topS 28)).x (defArgs (topS 28)) (defBody (topS 28)) (defScope (topS 28)) [] [] f fd) : Binds K fd (d_law_draw (topS 28)).ps [] := F.bindsN fun _ _ _ _ _ _ us hl => match us, hl with | [_, _], _ => rfl
theorem bnd_law_gcd (K : PySem.W.Frag) (f : Addr) (fd : FuncData) (F : FunD K (d_law_gcd (topS 29)).x (d_law_gcd (topS 29)).x (defArgs (topS 29)) (defBody (topS 29)) (defScope (topS 29)) [] [] f fd) : Binds K fd (d_law_gcd (topS 29)).ps [] := F.bindsN fun _ _ _ _ _ _ us hl => match us, hl with | [_, _], _ => rfl
theorem bnd_law_f (K : PySem.W.Frag) (f : Addr) (fd : FuncData) (F : FunD K (d_law_f (topS 30)).x (d_law_f (topS 30)).x (defArgs (topS 30)) (defBody (topS 30)) (defScope (topS 30)) [] [] f fd) : Binds K fd (d_law_f (topS 30)).ps [] := F.bindsN fun _ _ _ _ _ _ us hl => match us, hl with | [_, _], _ => rfl
theorem bnd_law_add (K : PySem.W.Frag) (f : Addr) (fd : FuncData) (F : FunD K (d_law_add (topS 31)).x (d_law_add (topS 31)).x (defArgs (topS 31)) (defBody (topS 31)) (defScope (topS 31)) [] [] f fd) : Binds K fd (d_law_add (topS 31)).ps [] := F.bindsN fun _ _ _ _ _ _ us hl => match us, hl with | [_, _], _ => rfl
theorem bnd_law_sub (K : PySem.W.Frag) (f : Addr) (fd : FuncData) (F : FunD K (d_law_sub (topS 32)).x (d_law_sub (topS 32)).x (defArgs (topS 32)) (defBody (topS 32)) (defScope (topS 32)) [] [] f fd) : Binds K fd (d_law_sub (topS 32)).ps [] := F.bindsN fun _ _ _ _ _ _ us hl => match us, hl with | [_, _], _ => rfl
theorem bnd_law_mul (K : PySem.W.Frag) (f : Addr) (fd : FuncData) (F : FunD K (d_law_mul (topS 33)).x (d_law_mul (topS 33)).x (defArgs (topS 33)) (defBody (topS 33)) (defScope (topS 33)) [] [] f fd) : Binds K fd (d_law_mul (topS 33)).ps [] := F.bindsN fun _ _ _ _ _ _ us hl => match us, hl with | [_, _], _ => rfl
theorem bnd_law_div (K : PySem.W.Frag) (f : Addr) (fd : FuncData) (F : FunD K (d_law_div (topS 34)).x (d_law_div (topS 34)).x (defArgs (topS 34)) (defBody (topS 34)) (defScope (topS 34)) [] [] f fd) : Binds K fd (d_law_div (topS 34)).ps [] := F.bindsN fun _ _ _ _ _ _ us hl => match us, hl with | [_, _], _ => rfl
theorem bnd_law_less (K : PySem.W.Frag) (f : Addr) (fd : FuncData) (F : FunD K (d_law_less (topS 35)).x (d_law_less (topS 35)).x (defArgs (topS 35)) (defBody (topS 35)) (defScope (topS 35)) [] [] f fd) : Binds K fd (d_law_less (topS 35)).ps [] := F.bindsN fun _ _ _ _ _ _ us hl => match us, hl with | [_, _], _ => rfl
theorem bnd_law_place (K : PySem.W.Frag) (f : Addr) (fd : FuncData) (F : FunD K (d_law_place (topS 36)).x (d_law_place (topS 36)).x (defArgs (topS 36)) (defBody (topS 36)) (defScope (topS 36)) [] [] f fd) : Binds K fd (d_law_place (topS 36)).ps [] := F.bindsN fun _ _ _ _ _ _ us hl => match us, hl with | [_], _ => rfl
theorem bnd_law_level (K : PySem.W.Frag) (f : Addr) (fd : FuncData) (F : FunD K (d_law_level (topS 37)).x (d_law_level (topS 37)).x (defArgs (topS 37)) (defBody (topS 37)) (defScope (topS 37)) [] [] f fd) : Binds K fd (d_law_level (topS 37)).ps [] := F.bindsN fun _ _ _ _ _ _ us hl => match us, hl with | [_], _ => rfl
theorem bnd_law_places (K : PySem.W.Frag) (f : Addr) (fd : FuncData) (F : FunD K (d_law_places (topS 38)).x (d_law_places (topS 38)).x (defArgs (topS 38)) (defBody (topS 38)) (defScope (topS 38)) [] [] f fd) : Binds K fd (d_law_places (topS 38)).ps [] := F.bindsN fun _ _ _ _ _ _ us hl => match us, hl with | [_, _], _ => rfl
theorem bnd_law_points (K : PySem.W.Frag) (f : Addr) (fd : FuncData) (F : FunD K (d_law_points (topS 39)).x (d_law_points (topS 39)).x (defArgs (topS 39)) (defBody (topS 39)) (defScope (topS 39)) [] [] f fd) : Binds K fd (d_law_points (topS 39)).ps [] := F.bindsN fun _ _ _ _ _ _ us hl => match us, hl with | [_, _], _ => rfl
theorem bnd_law_ladder (K : PySem.W.Frag) (f : Addr) (fd : FuncData) (F : FunD K (d_law_ladder (topS 40)).x (d_law_ladder (topS 40)).x (defArgs (topS 40)) (defBody (topS 40)) (defScope (topS 40)) [] [] f fd) : Binds K fd (d_law_ladder (topS 40)).ps [] := F.bindsN fun _ _ _ _ _ _ us hl => match us, hl with | [_, _], _ => rfl
theorem bnd_law_swing (K : PySem.W.Frag) (f : Addr) (fd : FuncData) (F : FunD K (d_law_swing (topS 41)).x (d_law_swing (topS 41)).x (defArgs (topS 41)) (defBody (topS 41)) (defScope (topS 41)) [] [] f fd) : Binds K fd (d_law_swing (topS 41)).ps [] := F.bindsN fun _ _ _ _ _ _ us hl => match us, hl with | [_, _], _ => rfl
theorem bnd_law_lift (K : PySem.W.Frag) (f : Addr) (fd : FuncData) (F : FunD K (d_law_lift (topS 42)).x (d_law_lift (topS 42)).x (defArgs (topS 42)) (defBody (topS 42)) (defScope (topS 42)) [] [] f fd) : Binds K fd (d_law_lift (topS 42)).ps [] := F.bindsN fun _ _ _ _ _ _ us hl => match us, hl with | [_, _], _ => rfl
theorem bnd_law_on (K : PySem.W.Frag) (f : Addr) (fd : FuncData) (F : FunD K (d_law_on (topS 43)).x (d_law_on (topS 43)).x (defArgs (topS 43)) (defBody (topS 43)) (defScope (topS 43)) [] [] f fd) : Binds K fd (d_law_on (topS 43)).ps [] := F.bindsN fun _ _ _ _ _ _ us hl => match us, hl with | [_, _], _ => rfl
theorem bnd_law (K : PySem.W.Frag) (f : Addr) (fd : FuncData) (F : FunD K (d_law (topS 44)).x (d_law (topS 44)).x (defArgs (topS 44)) (defBody (topS 44)) (defScope (topS 44)) [] [] f fd) : Binds K fd (d_law (topS 44)).ps [] := F.bindsN fun _ _ _ _ _ _ us hl => match us, hl with | [_], _ => rfl
theorem tab_okL : TabOk gcL tabL := by
  refine ⟨List.all_eq_true.mp (by kernel_rfl), fun x n h => ?_, fun d hd => ?_⟩
  · have z : (gcL.fns.all fun p => tabL.any fun d => decide (d.x = p.1) && decide (d.ps.length = p.2)) = true := by kernel_rfl
    obtain ⟨d, h1, h2⟩ := List.any_eq_true.mp (List.all_eq_true.mp z _ h)
    rw [Bool.and_eq_true] at h2
    exact ⟨d, h1, of_decide_eq_true h2.1, of_decide_eq_true h2.2⟩
  · unfold tabL at hd
    simp only [List.mem_cons, List.not_mem_nil, or_false] at hd
    rcases hd with rfl | rfl | rfl | rfl | rfl | rfl | rfl | rfl | rfl | rfl | rfl | rfl | rfl | rfl | rfl | rfl | rfl | rfl | rfl | rfl | rfl | rfl | rfl | rfl | rfl | rfl | rfl | rfl | rfl | rfl | rfl | rfl | rfl | rfl | rfl | rfl
    · exact bnd_is_whole
    · exact bnd_common
    · exact bnd_fraction
    · exact bnd_is_fraction
    · exact bnd_plus
    · exact bnd_minus
    · exact bnd_times
    · exact bnd_over
    · exact bnd_is_level
    · exact bnd_turn
    · exact bnd_lifted
    · exact bnd_lowered
    · exact bnd_value_on
    · exact bnd_ladder_of
    · exact bnd_can_be_told
    · exact bnd_least_bound
    · exact bnd_is_bound
    · exact bnd_law_pool
    · exact bnd_law_spread
    · exact bnd_law_draw
    · exact bnd_law_gcd
    · exact bnd_law_f
    · exact bnd_law_add
    · exact bnd_law_sub
    · exact bnd_law_mul
    · exact bnd_law_div
    · exact bnd_law_less
    · exact bnd_law_place
    · exact bnd_law_level
    · exact bnd_law_places
    · exact bnd_law_points
    · exact bnd_law_ladder
    · exact bnd_law_swing
    · exact bnd_law_lift
    · exact bnd_law_on
    · exact bnd_law
def lv (h : Nat) (s : Spec) (n : Nat) : Spec := fun ds μ P X => h ≤ n ∧ s ds μ P X
def sgL : List (Str × (Nat → Spec)) := ([("is_whole", lv 1 sp_is_whole), ("common", lv 1 sp_common), ("fraction", lv 2 sp_fraction), ("is_fraction", lv 2 sp_is_fraction), ("plus", lv 3 sp_plus), ("minus", lv 3 sp_minus), ("times", lv 3 sp_times), ("over", lv 3 sp_over), ("is_level", lv 3 sp_is_level), ("turn", lv 4 sp_turn), ("lifted", lv 4 sp_lifted), ("lowered", lv 4 sp_lowered), ("value_on", lv 5 sp_value_on), ("ladder_of", lv 5 sp_ladder_of), ("can_be_told", lv 6 sp_can_be_told), ("least_bound", lv 8 sp_least_bound), ("is_bound", lv 7 sp_is_bound), ("_law_pool", lv 1 sp_pool), ("_law_spread", lv 1 sp_spread), ("_law_draw", lv 2 sp_draw), ("_law_gcd", lv 1 sp_common), ("_law_f", lv 2 sp_f), ("_law_add", lv 3 sp_plus), ("_law_sub", lv 3 sp_minus), ("_law_mul", lv 3 sp_times)] : List (Str × (Nat → Spec))) ++ ([("_law_div", lv 3 sp_ldiv), ("_law_less", lv 1 sp_less), ("_law_place", lv 3 sp_place), ("_law_level", lv 3 sp_level), ("_law_places", lv 4 sp_law_places), ("_law_points", lv 6 sp_law_points), ("_law_ladder", lv 4 sp_law_ladder), ("_law_swing", lv 4 sp_swing), ("_law_lift", lv 4 sp_llift), ("_law_on", lv 5 sp_value_on), ("law", lv 9 sp_law)] : List (Str × (Nat → Spec)))
def PhiL (n : Nat) (x : Str) : Spec := fun ds μ P X => ∃ s, sgL.lookup x = some s ∧ s n ds μ P X
theorem phi_of {n : Nat} {x : Str} {s : Nat → Spec} {ds : List D} {μ : Store} {P : DQ} {X : XQ} (e : sgL.lookup x = some s) : PhiL n x ds μ P X ↔ s n ds μ P X := ⟨fun ⟨s2, e2, h⟩ => by rw [e] at e2; cases e2; exact h, fun h => ⟨s, e, h⟩⟩
theorem has_of {n h : Nat} {x : Str} {s : Spec} (e : sgL.lookup x = some (lv h s)) (hn : h ≤ n) : Has (PhiL n) x s := fun ds μ P X hs => (phi_of e).mpr ⟨hn, hs⟩
theorem lk_is_whole : sgL.lookup ("is_whole" : Str) = some (lv 1 sp_is_whole) := by kernel_rfl
theorem has_is_whole {n : Nat} (h : 1 ≤ n) : Has (PhiL n) "is_whole" sp_is_whole := has_of lk_is_whole h
theorem lk_common : sgL.lookup ("common" : Str) = some (lv 1 sp_common) := by kernel_rfl
theorem has_common {n : Nat} (h : 1 ≤ n) : Has (PhiL n) "common" sp_common := has_of lk_common h
theorem lk_fraction : sgL.lookup ("fraction" : Str) = some (lv 2 sp_fraction) := by kernel_rfl
theorem has_fraction {n : Nat} (h : 2 ≤ n) : Has (PhiL n) "fraction" sp_fraction := has_of lk_fraction h
theorem lk_is_fraction : sgL.lookup ("is_fraction" : Str) = some (lv 2 sp_is_fraction) := by kernel_rfl
theorem has_is_fraction {n : Nat} (h : 2 ≤ n) : Has (PhiL n) "is_fraction" sp_is_fraction := has_of lk_is_fraction h
theorem lk_plus : sgL.lookup ("plus" : Str) = some (lv 3 sp_plus) := by kernel_rfl
theorem has_plus {n : Nat} (h : 3 ≤ n) : Has (PhiL n) "plus" sp_plus := has_of lk_plus h
theorem lk_minus : sgL.lookup ("minus" : Str) = some (lv 3 sp_minus) := by kernel_rfl
theorem has_minus {n : Nat} (h : 3 ≤ n) : Has (PhiL n) "minus" sp_minus := has_of lk_minus h
theorem lk_times : sgL.lookup ("times" : Str) = some (lv 3 sp_times) := by kernel_rfl
theorem has_times {n : Nat} (h : 3 ≤ n) : Has (PhiL n) "times" sp_times := has_of lk_times h
theorem lk_over : sgL.lookup ("over" : Str) = some (lv 3 sp_over) := by kernel_rfl
theorem has_over {n : Nat} (h : 3 ≤ n) : Has (PhiL n) "over" sp_over := has_of lk_over h
theorem lk_is_level : sgL.lookup ("is_level" : Str) = some (lv 3 sp_is_level) := by kernel_rfl
theorem has_is_level {n : Nat} (h : 3 ≤ n) : Has (PhiL n) "is_level" sp_is_level := has_of lk_is_level h
theorem lk_turn : sgL.lookup ("turn" : Str) = some (lv 4 sp_turn) := by kernel_rfl
theorem has_turn {n : Nat} (h : 4 ≤ n) : Has (PhiL n) "turn" sp_turn := has_of lk_turn h
theorem lk_lifted : sgL.lookup ("lifted" : Str) = some (lv 4 sp_lifted) := by kernel_rfl
theorem has_lifted {n : Nat} (h : 4 ≤ n) : Has (PhiL n) "lifted" sp_lifted := has_of lk_lifted h
theorem lk_lowered : sgL.lookup ("lowered" : Str) = some (lv 4 sp_lowered) := by kernel_rfl
theorem has_lowered {n : Nat} (h : 4 ≤ n) : Has (PhiL n) "lowered" sp_lowered := has_of lk_lowered h
theorem lk_value_on : sgL.lookup ("value_on" : Str) = some (lv 5 sp_value_on) := by kernel_rfl
theorem has_value_on {n : Nat} (h : 5 ≤ n) : Has (PhiL n) "value_on" sp_value_on := has_of lk_value_on h
theorem lk_ladder_of : sgL.lookup ("ladder_of" : Str) = some (lv 5 sp_ladder_of) := by kernel_rfl
theorem has_ladder_of {n : Nat} (h : 5 ≤ n) : Has (PhiL n) "ladder_of" sp_ladder_of := has_of lk_ladder_of h
theorem lk_can_be_told : sgL.lookup ("can_be_told" : Str) = some (lv 6 sp_can_be_told) := by kernel_rfl
theorem has_can_be_told {n : Nat} (h : 6 ≤ n) : Has (PhiL n) "can_be_told" sp_can_be_told := has_of lk_can_be_told h
theorem lk_least_bound : sgL.lookup ("least_bound" : Str) = some (lv 8 sp_least_bound) := by kernel_rfl
theorem has_least_bound {n : Nat} (h : 8 ≤ n) : Has (PhiL n) "least_bound" sp_least_bound := has_of lk_least_bound h
theorem lk_is_bound : sgL.lookup ("is_bound" : Str) = some (lv 7 sp_is_bound) := by kernel_rfl
theorem has_is_bound {n : Nat} (h : 7 ≤ n) : Has (PhiL n) "is_bound" sp_is_bound := has_of lk_is_bound h
theorem lk_law_pool : sgL.lookup ("_law_pool" : Str) = some (lv 1 sp_pool) := by kernel_rfl
theorem has_law_pool {n : Nat} (h : 1 ≤ n) : Has (PhiL n) "_law_pool" sp_pool := has_of lk_law_pool h
theorem lk_law_spread : sgL.lookup ("_law_spread" : Str) = some (lv 1 sp_spread) := by kernel_rfl
theorem has_law_spread {n : Nat} (h : 1 ≤ n) : Has (PhiL n) "_law_spread" sp_spread := has_of lk_law_spread h
theorem lk_law_draw : sgL.lookup ("_law_draw" : Str) = some (lv 2 sp_draw) := by kernel_rfl
theorem has_law_draw {n : Nat} (h : 2 ≤ n) : Has (PhiL n) "_law_draw" sp_draw := has_of lk_law_draw h
theorem lk_law_gcd : sgL.lookup ("_law_gcd" : Str) = some (lv 1 sp_common) := by kernel_rfl
theorem has_law_gcd {n : Nat} (h : 1 ≤ n) : Has (PhiL n) "_law_gcd" sp_common := has_of lk_law_gcd h
theorem lk_law_f : sgL.lookup ("_law_f" : Str) = some (lv 2 sp_f) := by kernel_rfl
theorem has_law_f {n : Nat} (h : 2 ≤ n) : Has (PhiL n) "_law_f" sp_f := has_of lk_law_f h
theorem lk_law_add : sgL.lookup ("_law_add" : Str) = some (lv 3 sp_plus) := by kernel_rfl
theorem has_law_add {n : Nat} (h : 3 ≤ n) : Has (PhiL n) "_law_add" sp_plus := has_of lk_law_add h
theorem lk_law_sub : sgL.lookup ("_law_sub" : Str) = some (lv 3 sp_minus) := by kernel_rfl
theorem has_law_sub {n : Nat} (h : 3 ≤ n) : Has (PhiL n) "_law_sub" sp_minus := has_of lk_law_sub h
theorem lk_law_mul : sgL.lookup ("_law_mul" : Str) = some (lv 3 sp_times) := by kernel_rfl
theorem has_law_mul {n : Nat} (h : 3 ≤ n) : Has (PhiL n) "_law_mul" sp_times := has_of lk_law_mul h
theorem lk_law_div : sgL.lookup ("_law_div" : Str) = some (lv 3 sp_ldiv) := by kernel_rfl
theorem has_law_div {n : Nat} (h : 3 ≤ n) : Has (PhiL n) "_law_div" sp_ldiv := has_of lk_law_div h
theorem lk_law_less : sgL.lookup ("_law_less" : Str) = some (lv 1 sp_less) := by kernel_rfl
theorem has_law_less {n : Nat} (h : 1 ≤ n) : Has (PhiL n) "_law_less" sp_less := has_of lk_law_less h
theorem lk_law_place : sgL.lookup ("_law_place" : Str) = some (lv 3 sp_place) := by kernel_rfl
theorem has_law_place {n : Nat} (h : 3 ≤ n) : Has (PhiL n) "_law_place" sp_place := has_of lk_law_place h
theorem lk_law_level : sgL.lookup ("_law_level" : Str) = some (lv 3 sp_level) := by kernel_rfl
theorem has_law_level {n : Nat} (h : 3 ≤ n) : Has (PhiL n) "_law_level" sp_level := has_of lk_law_level h
theorem lk_law_places : sgL.lookup ("_law_places" : Str) = some (lv 4 sp_law_places) := by kernel_rfl
theorem has_law_places {n : Nat} (h : 4 ≤ n) : Has (PhiL n) "_law_places" sp_law_places := has_of lk_law_places h
theorem lk_law_points : sgL.lookup ("_law_points" : Str) = some (lv 6 sp_law_points) := by kernel_rfl
theorem has_law_points {n : Nat} (h : 6 ≤ n) : Has (PhiL n) "_law_points" sp_law_points := has_of lk_law_points h
theorem lk_law_ladder : sgL.lookup ("_law_ladder" : Str) = some (lv 4 sp_law_ladder) := by kernel_rfl
theorem has_law_ladder {n : Nat} (h : 4 ≤ n) : Has (PhiL n) "_law_ladder" sp_law_ladder := has_of lk_law_ladder h
theorem lk_law_swing : sgL.lookup ("_law_swing" : Str) = some (lv 4 sp_swing) := by kernel_rfl
theorem has_law_swing {n : Nat} (h : 4 ≤ n) : Has (PhiL n) "_law_swing" sp_swing := has_of lk_law_swing h
theorem lk_law_lift : sgL.lookup ("_law_lift" : Str) = some (lv 4 sp_llift) := by kernel_rfl
theorem has_law_lift {n : Nat} (h : 4 ≤ n) : Has (PhiL n) "_law_lift" sp_llift := has_of lk_law_lift h
theorem lk_law_on : sgL.lookup ("_law_on" : Str) = some (lv 5 sp_value_on) := by kernel_rfl
theorem has_law_on {n : Nat} (h : 5 ≤ n) : Has (PhiL n) "_law_on" sp_value_on := has_of lk_law_on h
theorem lk_law : sgL.lookup ("law" : Str) = some (lv 9 sp_law) := by kernel_rfl
theorem has_law {n : Nat} (h : 9 ≤ n) : Has (PhiL n) "law" sp_law := has_of lk_law h
theorem bod_okL : BodOk csL usL tabL PhiL := by
  refine ⟨fun d hd => ?_, fun n d hd => ?_⟩
  · unfold tabL at hd
    simp only [List.mem_cons, List.not_mem_nil, or_false] at hd
    rcases hd with rfl | rfl | rfl | rfl | rfl | rfl | rfl | rfl | rfl | rfl | rfl | rfl | rfl | rfl | rfl | rfl | rfl | rfl | rfl | rfl | rfl | rfl | rfl | rfl | rfl | rfl | rfl | rfl | rfl | rfl | rfl | rfl | rfl | rfl | rfl | rfl
    · exact fun ds μ P X h => match (phi_of lk_is_whole).mp h with | ⟨h, _⟩ => absurd h (by omega)
    · exact fun ds μ P X h => match (phi_of lk_common).mp h with | ⟨h, _⟩ => absurd h (by omega)
    · exact fun ds μ P X h => match (phi_of lk_fraction).mp h with | ⟨h, _⟩ => absurd h (by omega)
    · exact fun ds μ P X h => match (phi_of lk_is_fraction).mp h with | ⟨h, _⟩ => absurd h (by omega)
    · exact fun ds μ P X h => match (phi_of lk_plus).mp h with | ⟨h, _⟩ => absurd h (by omega)
    · exact fun ds μ P X h => match (phi_of lk_minus).mp h with | ⟨h, _⟩ => absurd h (by omega)
    · exact fun ds μ P X h => match (phi_of lk_times).mp h with | ⟨h, _⟩ => absurd h (by omega)
    · exact fun ds μ P X h => match (phi_of lk_over).mp h with | ⟨h, _⟩ => absurd h (by omega)
    · exact fun ds μ P X h => match (phi_of lk_is_level).mp h with | ⟨h, _⟩ => absurd h (by omega)
    · exact fun ds μ P X h => match (phi_of lk_turn).mp h with | ⟨h, _⟩ => absurd h (by omega)
    · exact fun ds μ P X h => match (phi_of lk_lifted).mp h with | ⟨h, _⟩ => absurd h (by omega)
    · exact fun ds μ P X h => match (phi_of lk_lowered).mp h with | ⟨h, _⟩ => absurd h (by omega)
    · exact fun ds μ P X h => match (phi_of lk_value_on).mp h with | ⟨h, _⟩ => absurd h (by omega)
    · exact fun ds μ P X h => match (phi_of lk_ladder_of).mp h with | ⟨h, _⟩ => absurd h (by omega)
    · exact fun ds μ P X h => match (phi_of lk_can_be_told).mp h with | ⟨h, _⟩ => absurd h (by omega)
    · exact fun ds μ P X h => match (phi_of lk_least_bound).mp h with | ⟨h, _⟩ => absurd h (by omega)
    · exact fun ds μ P X h => match (phi_of lk_is_bound).mp h with | ⟨h, _⟩ => absurd h (by omega)
    · exact fun ds μ P X h => match (phi_of lk_law_pool).mp h with | ⟨h, _⟩ => absurd h (by omega)
    · exact fun ds μ P X h => match (phi_of lk_law_spread).mp h with | ⟨h, _⟩ => absurd h (by omega)
    · exact fun ds μ P X h => match (phi_of lk_law_draw).mp h with | ⟨h, _⟩ => absurd h (by omega)
    · exact fun ds μ P X h => match (phi_of lk_law_gcd).mp h with | ⟨h, _⟩ => absurd h (by omega)
    · exact fun ds μ P X h => match (phi_of lk_law_f).mp h with | ⟨h, _⟩ => absurd h (by omega)
    · exact fun ds μ P X h => match (phi_of lk_law_add).mp h with | ⟨h, _⟩ => absurd h (by omega)
    · exact fun ds μ P X h => match (phi_of lk_law_sub).mp h with | ⟨h, _⟩ => absurd h (by omega)
    · exact fun ds μ P X h => match (phi_of lk_law_mul).mp h with | ⟨h, _⟩ => absurd h (by omega)
    · exact fun ds μ P X h => match (phi_of lk_law_div).mp h with | ⟨h, _⟩ => absurd h (by omega)
    · exact fun ds μ P X h => match (phi_of lk_law_less).mp h with | ⟨h, _⟩ => absurd h (by omega)
    · exact fun ds μ P X h => match (phi_of lk_law_place).mp h with | ⟨h, _⟩ => absurd h (by omega)
    · exact fun ds μ P X h => match (phi_of lk_law_level).mp h with | ⟨h, _⟩ => absurd h (by omega)
    · exact fun ds μ P X h => match (phi_of lk_law_places).mp h with | ⟨h, _⟩ => absurd h (by omega)
    · exact fun ds μ P X h => match (phi_of lk_law_points).mp h with | ⟨h, _⟩ => absurd h (by omega)
    · exact fun ds μ P X h => match (phi_of lk_law_ladder).mp h with | ⟨h, _⟩ => absurd h (by omega)
    · exact fun ds μ P X h => match (phi_of lk_law_swing).mp h with | ⟨h, _⟩ => absurd h (by omega)
    · exact fun ds μ P X h => match (phi_of lk_law_lift).mp h with | ⟨h, _⟩ => absurd h (by omega)
    · exact fun ds μ P X h => match (phi_of lk_law_on).mp h with | ⟨h, _⟩ => absurd h (by omega)
    · exact fun ds μ P X h => match (phi_of lk_law).mp h with | ⟨h, _⟩ => absurd h (by omega)
  · unfold tabL at hd
    simp only [List.mem_cons, List.not_mem_nil, or_false] at hd
    rcases hd with rfl | rfl | rfl | rfl | rfl | rfl | rfl | rfl | rfl | rfl | rfl | rfl | rfl | rfl | rfl | rfl | rfl | rfl | rfl | rfl | rfl | rfl | rfl | rfl | rfl | rfl | rfl | rfl | rfl | rfl | rfl | rfl | rfl | rfl | rfl | rfl
    · revert n; exact fun n ds μ P X hcl h => by
        obtain ⟨hn, hs⟩ := (phi_of lk_is_whole).mp h
        exact b_is_whole _  hs
    · revert n; exact fun n ds μ P X hcl h => by
        obtain ⟨hn, hs⟩ := (phi_of lk_common).mp h
        exact b_common _  hs
    · revert n; exact fun n ds μ P X hcl h => by
        obtain ⟨hn, hs⟩ := (phi_of lk_fraction).mp h
        exact b_fraction _ (has_common (by omega)) hs
    · revert n; exact fun n ds μ P X hcl h => by
        obtain ⟨hn, hs⟩ := (phi_of lk_is_fraction).mp h
        exact b_is_fraction _ (has_is_whole (by omega)) (has_common (by omega)) hs
    · revert n; exact fun n ds μ P X hcl h => by
        obtain ⟨hn, hs⟩ := (phi_of lk_plus).mp h
        exact b_plus _ (has_fraction (by omega)) hs
    · revert n; exact fun n ds μ P X hcl h => by
        obtain ⟨hn, hs⟩ := (phi_of lk_minus).mp h
        exact b_minus _ (has_fraction (by omega)) hs
    · revert n; exact fun n ds μ P X hcl h => by
        obtain ⟨hn, hs⟩ := (phi_of lk_times).mp h
        exact b_times _ (has_fraction (by omega)) hs
    · revert n; exact fun n ds μ P X hcl h => by
        obtain ⟨hn, hs⟩ := (phi_of lk_over).mp h
        exact b_over _ (has_fraction (by omega)) hs
    · revert n; exact fun n ds μ P X hcl h => by
        obtain ⟨hn, hs⟩ := (phi_of lk_is_level).mp h
        exact b_is_level _ (has_is_fraction (by omega)) hs
    · revert n; exact fun n ds μ P X hcl h => by
        obtain ⟨hn, hs⟩ := (phi_of lk_turn).mp h
        exact b_turn _ (by kernel_rfl) (has_minus (by omega)) (has_times (by omega)) (has_over (by omega)) hs
    · revert n; exact fun n ds μ P X hcl h => by
        obtain ⟨hn, hs⟩ := (phi_of lk_lifted).mp h
        exact b_lifted _ (by kernel_rfl) (has_plus (by omega)) (has_times (by omega)) (has_over (by omega)) hs
    · revert n; exact fun n ds μ P X hcl h => by
        obtain ⟨hn, hs⟩ := (phi_of lk_lowered).mp h
        exact b_lowered _ (by kernel_rfl) (has_minus (by omega)) (has_times (by omega)) (has_over (by omega)) hs
    · revert n; exact fun n ds μ P X hcl h => by
        obtain ⟨hn, hs⟩ := (phi_of lk_value_on).mp h
        exact b_value_on _ (has_turn (by omega)) (has_times (by omega)) (has_lifted (by omega)) hs
    · revert n; exact fun n ds μ P X hcl h => by
        obtain ⟨hn, hs⟩ := (phi_of lk_ladder_of).mp h
        exact b_ladder_of _ (by kernel_rfl) (by kernel_rfl) (has_lowered (by omega)) (has_turn (by omega)) (has_over (by omega)) (has_is_level (by omega)) hcl hs
    · revert n; exact fun n ds μ P X hcl h => by
        obtain ⟨hn, hs⟩ := (phi_of lk_can_be_told).mp h
        exact b_can_be_told _ (has_ladder_of (by omega)) hs
    · revert n; exact fun n ds μ P X hcl h => by
        obtain ⟨hn, hs⟩ := (phi_of lk_least_bound).mp h
        exact b_least_bound _ (has_is_bound (by omega)) hs
    · revert n; exact fun n ds μ P X hcl h => by
        obtain ⟨hn, hs⟩ := (phi_of lk_is_bound).mp h
        exact b_is_bound _ (by kernel_rfl) (has_over (by omega)) (has_is_level (by omega)) (has_can_be_told (by omega)) hs
    · revert n; exact fun n ds μ P X hcl h => by
        obtain ⟨hn, hs⟩ := (phi_of lk_law_pool).mp h
        exact b_law_pool _  hs
    · revert n; exact fun n ds μ P X hcl h => by
        obtain ⟨hn, hs⟩ := (phi_of lk_law_spread).mp h
        exact b_law_spread _  hs
    · revert n; exact fun n ds μ P X hcl h => by
        obtain ⟨hn, hs⟩ := (phi_of lk_law_draw).mp h
        exact b_law_draw _ (has_law_spread (by omega)) hs
    · revert n; exact fun n ds μ P X hcl h => by
        obtain ⟨hn, hs⟩ := (phi_of lk_law_gcd).mp h
        exact b_law_gcd _  hs
    · revert n; exact fun n ds μ P X hcl h => by
        obtain ⟨hn, hs⟩ := (phi_of lk_law_f).mp h
        exact b_law_f _ (has_law_gcd (by omega)) hs
    · revert n; exact fun n ds μ P X hcl h => by
        obtain ⟨hn, hs⟩ := (phi_of lk_law_add).mp h
        exact b_law_add _ (has_law_f (by omega)) hs
    · revert n; exact fun n ds μ P X hcl h => by
        obtain ⟨hn, hs⟩ := (phi_of lk_law_sub).mp h
        exact b_law_sub _ (has_law_f (by omega)) hs
    · revert n; exact fun n ds μ P X hcl h => by
        obtain ⟨hn, hs⟩ := (phi_of lk_law_mul).mp h
        exact b_law_mul _ (has_law_f (by omega)) hs
    · revert n; exact fun n ds μ P X hcl h => by
        obtain ⟨hn, hs⟩ := (phi_of lk_law_div).mp h
        exact b_law_div _ (has_law_f (by omega)) hs
    · revert n; exact fun n ds μ P X hcl h => by
        obtain ⟨hn, hs⟩ := (phi_of lk_law_less).mp h
        exact b_law_less _  hs
    · revert n; exact fun n ds μ P X hcl h => by
        obtain ⟨hn, hs⟩ := (phi_of lk_law_place).mp h
        exact b_law_place _ (has_law_draw (by omega)) (has_law_f (by omega)) hs
    · revert n; exact fun n ds μ P X hcl h => by
        obtain ⟨hn, hs⟩ := (phi_of lk_law_level).mp h
        exact b_law_level _ (has_law_draw (by omega)) (has_law_f (by omega)) hs
    · revert n; exact fun n ds μ P X hcl h => by
        obtain ⟨hn, hs⟩ := (phi_of lk_law_places).mp h
        exact b_law_places _ (has_law_draw (by omega)) (has_law_place (by omega)) (has_law_less (by omega)) hcl hs
    · revert n; exact fun n ds μ P X hcl h => by
        obtain ⟨hn, hs⟩ := (phi_of lk_law_points).mp h
        exact b_law_points _ (has_law_draw (by omega)) (has_law_ladder (by omega)) (has_law_places (by omega)) (has_law_on (by omega)) (has_law_level (by omega)) hs
    · revert n; exact fun n ds μ P X hcl h => by
        obtain ⟨hn, hs⟩ := (phi_of lk_law_ladder).mp h
        exact b_law_ladder _ (has_law_draw (by omega)) (has_law_place (by omega)) (has_law_level (by omega)) hs
    · revert n; exact fun n ds μ P X hcl h => by
        obtain ⟨hn, hs⟩ := (phi_of lk_law_swing).mp h
        exact b_law_swing _ (has_law_sub (by omega)) (has_law_mul (by omega)) (has_law_div (by omega)) hs
    · revert n; exact fun n ds μ P X hcl h => by
        obtain ⟨hn, hs⟩ := (phi_of lk_law_lift).mp h
        exact b_law_lift _ (has_law_add (by omega)) (has_law_mul (by omega)) (has_law_div (by omega)) hs
    · revert n; exact fun n ds μ P X hcl h => by
        obtain ⟨hn, hs⟩ := (phi_of lk_law_on).mp h
        exact b_law_on _ (has_law_swing (by omega)) (has_law_mul (by omega)) (has_law_lift (by omega)) hs
    · revert n; exact fun n ds μ P X hcl h => by
        obtain ⟨hn, hs⟩ := (phi_of lk_law).mp h
        exact b_law _ (has_law_pool (by omega)) (has_law_ladder (by omega)) (has_law_places (by omega)) (has_value_on (by omega)) (has_law_points (by omega)) (has_law_draw (by omega)) (has_law_f (by omega)) (has_law_mul (by omega)) (has_law_sub (by omega)) (has_least_bound (by omega)) (has_can_be_told (by omega)) hs
def lvL : Nat := 9
theorem law_specL (ns : List Int) (hl : ns.length ≤ 63) : PhiL lvL "law" [.scr ns] [] (fun v _ => v = .bl true) (fun _ _ => False) := (phi_of lk_law).mpr ⟨by decide, ns, rfl, hl, fun _ => rfl⟩
def looseL : List PySem.Str := (["WithinError", "NoQuotient", "ZERO", "ONE", "is_whole", "common", "fraction", "is_fraction", "plus", "minus", "times", "over", "is_level", "turn", "lifted", "lowered", "value_on", "ladder_of", "can_be_told", "least_bound", "is_bound", "_law_pool", "_law_spread", "_law_draw", "_law_gcd", "_law_f", "_law_add", "_law_sub", "_law_mul", "_law_div"] : List PySem.Str) ++ (["_law_less", "_law_place", "_law_level", "_law_places", "_law_points", "_law_ladder", "_law_swing", "_law_lift", "_law_on"] : List PySem.Str)
abbrev hkL : PySem.W.Hook := hookI 4 (faOf gcL usL) csL (tabL.map dOf)
abbrev RWL : PySem.W.OpenRow := PySem.W.OpenLaw.row PySem.Challenge.rw_withinone_k26_whole_bounds_reckoned
def obL (s : PySem.W.SharedT) : He.AlD := obsIG 4 (faOf gcL usL) csL (tabL.map dOf) (HandSHeadRun.getT s)
theorem obL_eq (s : PySem.W.SharedT) : obL s = hkL.obs s.abs := obsIG_eq (HandSHeadRun.getT_eq s)
theorem runL (w : World) : HandSHeadRun.RunEq RWL (PySem.W.view RWL.prog [44]) hkL obL 4000 looseL w := by
  intro os
  kernel_rfl
end IL
open PySem PySem.W PySem.Calls PyProof.Rows
theorem PySem.Challenge.cw_withinone_k26_whole_bounds_reckoned_holds : PySem.Challenge.rw_withinone_k26_whole_bounds_reckoned.Holds := by
  w_on; o_law
  refine HandSHeadRun.head_any (r := OpenLaw.row PySem.Challenge.rw_withinone_k26_whole_bounds_reckoned) (q := view (OpenLaw.row PySem.Challenge.rw_withinone_k26_whole_bounds_reckoned).prog [44]) (H := IL.hkL) (ob := IL.obL) (M := 4000) (loose := IL.looseL) (d := HandSHeadRun.topDef (OpenLaw.row PySem.Challenge.rw_withinone_k26_whole_bounds_reckoned).prog 44) (kwd := []) IL.obL_eq
    (by kernel_rfl) (fun s => by kernel_rfl) IL.runL (by kernel_rfl) (by kernel_rfl) (by kernel_rfl) (by rfl) (by first | assumption | decide +kernel) (by decide +kernel) ⟨rfl, rfl, rfl, rfl, rfl, by decide +kernel⟩ ?hw ?hc
  case hw => w_witness2
  case hc =>
    refine L2.walk_ofE (l := PySem.Challenge.rw_withinone_k26_whole_bounds_reckoned) (n := 63) (k := IL.lvL + 34) (x := "script") (CX := fun outer H s E u s' => ∃ w, L2.CX (PySem.Challenge.rw_withinone_k26_whole_bounds_reckoned).prog w outer H s E u s') rfl (by decide) (by kernel_rfl) ⟨rfl, by decide, by decide⟩ ?F (fun _ _ _ _ ⟨_, z⟩ => by
      obtain ⟨_, _, _, _, _, _, _, _, _, _, _, _, z⟩ := z
      exact z)
    intro w mg fa h Y G hmg0
    obtain ⟨K, KX, c⟩ := Y
    have hmg : mg ("law" : PySem.Str) = some (.ref fa) := by
      have e : (HandSHeadRun.topDef (OpenLaw.row PySem.Challenge.rw_withinone_k26_whole_bounds_reckoned).prog 44).name = ("law" : PySem.Str) := by kernel_rfl
      rw [← e]
      exact hmg0
    have hm : IL.dLaw ∈ IL.tabL := by simp [IL.tabL]
    obtain ⟨fd, F, hF⟩ := IL.law_ok (P := (PySem.Challenge.rw_withinone_k26_whole_bounds_reckoned).prog) (wo := w) IL.tab_okL IL.bod_okL (by rfl) KX G c hm
    have e := hmg.symm.trans ((IL.glob_ok KX G c).gl "law" 1 (by decide))
    cases e
    have b := L2.FunD.bindsA (ps := ["script"]) F fun _ _ _ _ _ _ us hl => match us, hl with | [_], _ => rfl
    exact ⟨K, fd, _, KX, fun s v => b s [v] rfl, fun H a ns hl hO hS => IL.law_lift hO hS (IL.law_specL ns hl), fun base b1 b2 => IL.cx_mono (hF IL.lvL base b1 b2) fun _ _ _ _ _ _ z => ⟨w, z⟩⟩
