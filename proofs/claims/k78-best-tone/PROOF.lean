import PyProof.Rows.All
import HandS.ForMost
import HandS.ForExc
import HandS.Wide
import HandS.IsInst
import HandS.ExcIs
import HandS.Defaults
import HandS.HeadHook2
import HandS.HeadHook4
import PySem.Challenge.RW_everyshift_k78_best_tone
import HandS.Head0
import HandS.Head1
import HandS.Head2
import HandS.HeadEnd
import KE.KStateDown
import Lean
import HandS.Zip
import HandS.RaiseMore
import KE.GoesMore
import HandS.Conv
import HandS.Small
section
set_option Elab.async false
set_option maxRecDepth 100000
set_option linter.all false
/-! DV0: the small syntax, and its reading over data trees. -/
namespace DV
open PySem L2

inductive D where
  | non | bl (b : Bool) | int (i : Int) | str (x : Str) | lst (xs : List D) | tup (xs : List D)
  deriving Inhabited
inductive B where
  | val (d : D) | own (xs : List D)
@[reducible] def B.d : B → D
  | .val d => d
  | .own xs => .lst xs
abbrev Env := List (Option B)
inductive Out where
  | ok (b : B) | err (c : Nat)
abbrev DSp := List B → (Out → List (List D) → Prop) → Prop
abbrev Er := Nat → Env → Prop
abbrev LINE : Nat := 16777216

inductive Op where
  | add | sub | mul | fdiv | mod | pow | shl
  deriving DecidableEq
inductive Cm where
  | lt | le | gt | ge | eq | ne | is | isNot
  deriving DecidableEq
inductive Ty where
  | int | bool | str | list | tuple
  deriving DecidableEq
inductive Bi where
  | abs | int | sum | all | any | min1 | max1 | list | tuple | repr | sorted | listRange
  deriving DecidableEq
inductive Bj where
  | min2 | max2
  deriving DecidableEq

mutual
inductive Pat where
  | name (i : Nat) | tup (ps : Pats)
inductive Pats where
  | nil | cons (p : Pat) (r : Pats)
end
mutual
inductive E where
  | var (i : Nat) | int (i : Int) | str (x : Str) | bl (b : Bool) | non | con (x : Str) (i : Int)
  | bin (o : Op) (a b : E) | neg (a : E) | cmp (o : Cm) (a b : E) | chain (o p : Cm) (a b c : E)
  | and (a b : E) | or (a b : E) | not (a : E) | ite (t : T) (a b : E)
  | call (f : Nat) (as : Es) | tup (as : Es) | lst (as : Es)
  | ix (a i : E) | ixo (s : Nat) (i : E) | len (a : E) | leno (s : Nat)
  | slice (a lo hi : E) | slFrom (a lo : E) | slTo (a hi : E) | bif (b : Bi) (a : E) | bjf (b : Bj) (a c : E)
  | isi (a : E) (tys : List Ty) | excIs (cs : List Nat) (many : Bool)
  | lc (it : Iu) (p : Pat) (c : T) (e : E) (vs : List Nat)
  | pop (s : Nat) | idx (s : Nat) (e : E) | lrg (a : E)
inductive T where
  | yes | cmp (o : Cm) (a b : E) | chain (o p : Cm) (a b c : E) | and (a b : T) | or (a b : T) | not (a : T)
  | val (e : E) | tro (s : Nat)
inductive Es where
  | nil | cons (e : E) (r : Es) | own (s : Nat) (r : Es) | bor (s : Nat) (r : Es)
inductive Iu where
  | seq (e : E) | rng1 (a : E) | rng2 (a b : E) | rng3 (a b c : E) | zip (a b : E) | enum (a : E)
end
mutual
inductive S where
  | set (i : Nat) (e : E) | unp (p : Pat) (e : E) | par (i j : Nat) (a b : E)
  | six (s : Nat) (i e : E) | swp (s : Nat) (i j k l : E) | aug (i : Nat) (o : Op) (e : E) | aix (s : Nat) (i : E) (o : Op) (e : E)
  | app (s : Nat) (e : E) | ext (s : Nat) (e : E)
  | ife (t : T) (a b : Ss) | for (p : Pat) (it : Iu) (b : Ss) | whi (t : T) (b : Ss)
  | ret (e : E) | reto (s : Nat) | retn | rai (c : Nat) | exp (e : E) | brk | con | pas
  | tri (b : Ss) (c s : Nat) (h : Ss)
inductive Ss where
  | nil | cons (s : S) (r : Ss)
end

/-! ### what operations give -/
def lg (i : Int) : Nat := i.natAbs.log2
def MulOk (i j : Int) : Prop := lg i + lg j < 1000000
def DivOk (j : Int) : Prop := j ≠ 0 ∧ lg j < 9000
def PowOk (i n : Int) : Prop := 0 ≤ n ∧ (Builtin.Int.intBits i : Int) * n ≤ 2 ^ 27
def br (k : Bool) (A C : Prop) : Prop := match k with
  | true => A
  | false => C
def opD : Op → D → D → (B → Prop) → Prop
  | .add, .int i, .int j, K => K (.val (.int (i + j)))
  | .add, .lst xs, .lst ys, K => xs.length + ys.length ≤ LINE ∧ K (.own (xs ++ ys))
  | .add, .tup xs, .tup ys, K => xs ≠ [] ∧ xs.length + ys.length ≤ LINE ∧ K (.val (.tup (xs ++ ys)))
  | .sub, .int i, .int j, K => K (.val (.int (i - j)))
  | .mul, .int i, .int j, K => MulOk i j ∧ K (.val (.int (i * j)))
  | .mul, .lst xs, .int k, K => xs.length * k.toNat ≤ LINE ∧ -(2 ^ 63) ≤ k ∧ k < 2 ^ 63 ∧ K (.own (List.replicate k.toNat xs).flatten)
  | .fdiv, .int i, .int j, K => DivOk j ∧ K (.val (.int (i.fdiv j)))
  | .mod, .int i, .int j, K => j ≠ 0 ∧ K (.val (.int (i.fmod j)))
  | .pow, .int i, .int n, K => PowOk i n ∧ K (.val (.int (i ^ n.toNat)))
  | .shl, .int i, .int n, K => (0 ≤ n ∧ n ≤ 1000000 ∧ i.natAbs < 2 ^ 64) ∧ K (.val (.int (i * 2 ^ n.toNat)))
  | _, _, _, _ => False
mutual
def D.py : D → PyData
  | .non => .none
  | .bl b => .bool b
  | .int i => .int i
  | .str x => .str x
  | .lst xs => .list (D.pys xs)
  | .tup xs => .tuple (D.pys xs)
def D.pys : List D → List PyData
  | [] => []
  | x :: xs => x.py :: D.pys xs
end
def EqOk (d : D) : Prop := SeqAt.shaped d.py = true
mutual
def pyEq : D → D → Bool
  | .non, .non => true
  | .bl a, .bl b => a == b
  | .bl a, .int j => (if a then 1 else 0) == j
  | .int i, .bl b => i == (if b then 1 else 0)
  | .int i, .int j => i == j
  | .str x, .str y => x == y
  | .lst xs, .lst ys => pyEqs xs ys
  | .tup xs, .tup ys => pyEqs xs ys
  | _, _ => false
def pyEqs : List D → List D → Bool
  | [], [] => true
  | x :: xs, y :: ys => pyEq x y && pyEqs xs ys
  | _, _ => false
end
def D.isNon : D → Bool
  | .non => true
  | _ => false
def cmD : Cm → D → D → (Bool → Prop) → Prop
  | .lt, .int i, .int j, K => K (decide (i < j))
  | .le, .int i, .int j, K => K (decide (i ≤ j))
  | .gt, .int i, .int j, K => K (decide (j < i))
  | .ge, .int i, .int j, K => K (decide (j ≤ i))
  | .eq, .int i, .int j, K => K (decide (i = j))
  | .ne, .int i, .int j, K => K (!decide (i = j))
  | .eq, x, y, K => EqOk x ∧ EqOk y ∧ K (pyEq x y)
  | .ne, x, y, K => EqOk x ∧ EqOk y ∧ K (!pyEq x y)
  | .is, x, .non, K => K x.isNon
  | .isNot, x, .non, K => K (!x.isNon)
  | _, _, _, _ => False
def truD : D → Bool
  | .non => false
  | .bl b => b
  | .int i => i != 0
  | .str x => (x.length : Int) != 0
  | .lst xs => !xs.isEmpty
  | .tup xs => !xs.isEmpty
def truOk : D → Prop
  | .str x => x.length ≤ LINE
  | _ => True
def tyIs : Ty → D → Bool
  | .int, .int _ => true
  | .int, .bl _ => true
  | .bool, .bl _ => true
  | .str, .str _ => true
  | .list, .lst _ => true
  | .tuple, .tup _ => true
  | _, _ => false
/-- repr of a flat thing, as the model tells it -/
def reprD : D → Str
  | .non => "None"
  | .bl true => "True"
  | .bl false => "False"
  | .int i => ((toString i : String) : Str)
  | .str x => reprText x
  | _ => ""
def reprOk : D → Prop
  | .non => True
  | .bl _ => True
  | .int i => i.natAbs.log2 < 1920
  | .str x => (reprText x).length ≤ LINE
  | _ => False
/-- an order of data: whole numbers, tuples from the left -/
def biD : Bi → D → (B → Prop) → Prop
  | .abs, .int i, K => K (.val (.int (if i < 0 then -i else i)))
  | .int, .int i, K => K (.val (.int i))
  | .int, .bl b, K => K (.val (.int (if b then 1 else 0)))
  | .sum, .lst xs, K => ∃ ns : List Int, xs = ns.map D.int ∧ K (.val (.int ns.sum))
  | .all, .lst xs, K => ∃ bs : List Bool, xs = bs.map D.bl ∧ K (.val (.bl (bs.all id)))
  | .any, .lst xs, K => ∃ bs : List Bool, xs = bs.map D.bl ∧ K (.val (.bl (bs.any id)))
  | .min1, .lst xs, K => ∃ ns : List Int, xs = ns.map D.int ∧ 0 < ns.length ∧ ∀ m, m ∈ ns → (∀ y, y ∈ ns → m ≤ y) → K (.val (.int m))
  | .max1, .lst xs, K => ∃ ns : List Int, xs = ns.map D.int ∧ 0 < ns.length ∧ ∀ m, m ∈ ns → (∀ y, y ∈ ns → y ≤ m) → K (.val (.int m))
  | .list, .lst xs, K => K (.own xs)
  | .list, .tup xs, K => K (.own xs)
  | .tuple, .lst xs, K => K (.val (.tup xs))
  | .tuple, .tup xs, K => K (.val (.tup xs))
  | .repr, d, K => reprOk d ∧ K (.val (.str (reprD d)))
  | _, _, _ => False
def bjD : Bj → D → D → (B → Prop) → Prop
  | .min2, .int i, .int j, K => K (.val (.int (if j < i then j else i)))
  | .max2, .int i, .int j, K => K (.val (.int (if j > i then j else i)))
  | _, _, _, _ => False
def lenD : D → (Int → Prop) → Prop
  | .lst xs, K => K (xs.length : Nat)
  | .tup xs, K => K (xs.length : Nat)
  | .str x, K => x.length ≤ LINE ∧ K (x.length : Nat)
  | _, _ => False
def ixD : D → D → (D → Prop) → Prop
  | .lst xs, .int k, K => ∃ d, atI xs k = some d ∧ K d
  | .tup xs, .int k, K => ∃ d, atI xs k = some d ∧ K d
  | _, _, _ => False
def idxD : D → D → (Int → Prop) → Prop
  | .lst xs, .int i, K => ∃ ns : List Int, xs = ns.map D.int ∧ ∃ j : Nat, ns[j]? = some i ∧ (∀ m z, m < j → ns[m]? = some z → z ≠ i) ∧ K (j : Nat)
  | _, _, _ => False
def cutL {α : Type} (xs : List α) (lo hi : Option Int) : List α := (xs.drop (HT.sIx xs.length 0 lo)).take (HT.sIx xs.length xs.length hi - HT.sIx xs.length 0 lo)
def partD : D → (Option Int → Prop) → Prop
  | .int i, K => K (some i)
  | _, _ => False
def slD : D → Option Int → Option Int → (B → Prop) → Prop
  | .lst xs, lo, hi, K => K (.own (cutL xs lo hi))
  | .tup xs, lo, hi, K => ¬ (HT.sIx xs.length 0 lo = 0 ∧ HT.sIx xs.length xs.length hi = xs.length) ∧ K (.val (.tup (cutL xs lo hi)))
  | _, _, _, _ => False
def seqD : D → (List D → Prop) → Prop
  | .lst xs, K => K xs
  | .tup xs, K => K xs
  | _, _ => False
def zipL (xs ys : List D) : List D := List.zipWith (fun u v => D.tup [u, v]) xs ys
def zipD : D → D → (List D → Prop) → Prop
  | .lst xs, .lst ys, K => K (zipL xs ys)
  | .tup xs, .tup ys, K => K (zipL xs ys)
  | _, _, _ => False
def enumL (xs : List D) : List D := xs.zipIdx.map fun p => D.tup [.int (p.2 : Nat), p.1]
def enumD : D → (List D → Prop) → Prop
  | .lst xs, K => K (enumL xs)
  | .tup xs, K => K (enumL xs)
  | _, _ => False
def rngL (lo : Int) (n : Nat) (c : Int) : List D := (List.range n).map fun (i : Nat) => D.int (lo + (i : Int) * c)
def rngOk (i : Int) : Prop := -(2 ^ 62) ≤ i ∧ i < 2 ^ 62

/-! ### arguments of a call -/
inductive Ar where
  | v (d : D) | o (s : Nat) | w (s : Nat)
def getE (ρ : Env) (i : Nat) : Option B := ρ.getD i none
def resolve (ρ : Env) : List Ar → Option (List B)
  | [] => some []
  | .v d :: r => match resolve ρ r with
    | some bs => some (.val d :: bs)
    | none => none
  | .o s :: r => match getE ρ s, resolve ρ r with
    | some (.own xs), some bs => some (.own xs :: bs)
    | _, _ => none
  | .w s :: r => match getE ρ s, resolve ρ r with
    | some (.own xs), some bs => some (.val (.lst xs) :: bs)
    | _, _ => none
def slotsO : List Ar → List Nat
  | [] => []
  | .o s :: r => s :: slotsO r
  | _ :: r => slotsO r
def borrows : List Ar → Bool
  | [] => false
  | .w _ :: _ => true
  | _ :: r => borrows r
def valsA : List Ar → Option (List D)
  | [] => some []
  | .v d :: r => match valsA r with
    | some ds => some (d :: ds)
    | none => none
  | _ :: _ => none
def nodupB : List Nat → Bool
  | [] => true
  | x :: r => !r.contains x && nodupB r
def putBack : Env → List Nat → List (List D) → Env
  | ρ, [], _ => ρ
  | ρ, _ :: _, [] => ρ
  | ρ, i :: is, xs :: os => putBack (ρ.set i (some (.own xs))) is os
def flatB : B → Bool
  | .val .non => true
  | .val (.bl _) => true
  | .val (.int _) => true
  | .val (.str _) => true
  | _ => false
/-- a spec, closed upwards -/
def Cl (sp : DSp) (bs : List B) (K : Out → List (List D) → Prop) : Prop := ∃ K0, sp bs K0 ∧ ∀ o os, K0 o os → K o os
theorem cl {sp : DSp} {bs : List B} {K : Out → List (List D) → Prop} (h : sp bs K) : Cl sp bs K := ⟨K, h, fun _ _ k => k⟩
def callD (sp : DSp) (ars : List Ar) (ρ : Env) (er : Er) (Q : B → Env → Prop) : Prop :=
  match resolve ρ ars with
  | none => False
  | some bs => nodupB (slotsO ars) = true ∧ (borrows ars = true → slotsO ars = []) ∧
    Cl sp bs (fun o os => match o with
      | .ok b => (borrows ars = true → flatB b = true) ∧ Q b (putBack ρ (slotsO ars) os)
      | .err c => slotsO ars = [] ∧ borrows ars = false ∧ er c ρ)

/-! ### loops -/
def lcLoop (f : D → Env → (Option D → Env → Prop) → Prop) : List D → List D → Env → (List D → Env → Prop) → Prop
  | [], acc, ρ, Q => Q acc ρ
  | x :: xs, acc, ρ, Q => f x ρ fun r ρ1 => match r with
    | some d => lcLoop f xs (acc ++ [d]) ρ1 Q
    | none => lcLoop f xs acc ρ1 Q
def forLoop (f : D → Env → (Env → Prop) → Prop) : List D → Env → (Env → Prop) → Prop
  | [], ρ, nx => nx ρ
  | x :: xs, ρ, nx => f x ρ fun ρ1 => forLoop f xs ρ1 nx
def wipeE (ρ : Env) : List Nat → Env
  | [] => ρ
  | v :: vs => (wipeE ρ vs).set v none
def unwipe (ρ2 ρ : Env) : List Nat → Env
  | [] => ρ2
  | v :: vs => (unwipe ρ2 ρ vs).set v (getE ρ v)
def notOwn : Option B → Bool
  | some (.own _) => false
  | _ => true

def isSet : Option B → Bool
  | some _ => true
  | none => false
def isLst : Option B → Bool
  | some (.own _) => true
  | some (.val (.lst _)) => true
  | _ => false
def isOwn : Option B → Bool
  | some (.own _) => true
  | _ => false

def anySub (f : Nat → Option Bool) : List Nat → Option Bool
  | [] => some false
  | k :: ks => match f k with
    | some true => some true
    | some false => anySub f ks
    | none => none

structure Rx where
  G : Nat → DSp
  pm : List Nat
  cur : Option Nat
  sub : Nat → Nat → Option Bool

mutual
def rdP (cx : Rx) : Pat → D → Env → (Env → Prop) → Prop
  | .name i, d, ρ, Q => cx.pm.contains i = false ∧ Q (ρ.set i (some (.val d)))
  | .tup ps, d, ρ, Q => seqD d fun ds => rdPs cx ps ds ρ Q
def rdPs (cx : Rx) : Pats → List D → Env → (Env → Prop) → Prop
  | .nil, [], ρ, Q => Q ρ
  | .cons p r, d :: ds, ρ, Q => rdP cx p d ρ fun ρ1 => rdPs cx r ds ρ1 Q
  | _, _, _, _ => False
end
abbrev noEr : Er := fun _ _ => False
mutual
def rdE (cx : Rx) : E → Env → Er → (B → Env → Prop) → Prop
  | .var i, ρ, _, Q => match getE ρ i with
    | some (.val d) => Q (.val d) ρ
    | some (.own xs) => cx.pm.contains i = false ∧ Q (.val (.lst xs)) (ρ.set i (some (.val (.lst xs))))
    | none => False
  | .int i, ρ, _, Q => Q (.val (.int i)) ρ
  | .str x, ρ, _, Q => Q (.val (.str x)) ρ
  | .bl b, ρ, _, Q => Q (.val (.bl b)) ρ
  | .non, ρ, _, Q => Q (.val .non) ρ
  | .con _ i, ρ, _, Q => Q (.val (.int i)) ρ
  | .bin o a b, ρ, er, Q => rdE cx a ρ er fun x ρ1 => rdE cx b ρ1 er fun y ρ2 => opD o x.d y.d fun z => Q z ρ2
  | .neg a, ρ, er, Q => rdE cx a ρ er fun x ρ1 => match x.d with
    | .int i => Q (.val (.int (-i))) ρ1
    | _ => False
  | .cmp o a b, ρ, er, Q => rdE cx a ρ er fun x ρ1 => rdE cx b ρ1 er fun y ρ2 => cmD o x.d y.d fun k => Q (.val (.bl k)) ρ2
  | .chain o p a b c, ρ, er, Q => rdE cx a ρ er fun x ρ1 => rdE cx b ρ1 er fun y ρ2 => cmD o x.d y.d fun k =>
      br k (rdE cx c ρ2 er fun z ρ3 => cmD p y.d z.d fun k' => Q (.val (.bl k')) ρ3) (Q (.val (.bl false)) ρ2)
  | .and a b, ρ, er, Q => rdE cx a ρ er fun x ρ1 => match x.d with
    | .bl k => br k (rdE cx b ρ1 er Q) (Q (.val (.bl false)) ρ1)
    | _ => False
  | .or a b, ρ, er, Q => rdE cx a ρ er fun x ρ1 => match x.d with
    | .bl k => br k (Q (.val (.bl true)) ρ1) (rdE cx b ρ1 er Q)
    | _ => False
  | .not a, ρ, er, Q => rdE cx a ρ er fun x ρ1 => match x.d with
    | .bl k => Q (.val (.bl (!k))) ρ1
    | _ => False
  | .ite t a b, ρ, er, Q => rdT cx t ρ er fun k ρ1 => br k (rdE cx a ρ1 er Q) (rdE cx b ρ1 er Q)
  | .call f as, ρ, er, Q => rdEs cx as ρ er fun ars ρ1 => callD (cx.G f) ars ρ1 er Q
  | .tup as, ρ, er, Q => rdEs cx as ρ er fun ars ρ1 => match valsA ars with
    | some ds => Q (.val (.tup ds)) ρ1
    | none => False
  | .lst as, ρ, er, Q => rdEs cx as ρ er fun ars ρ1 => match valsA ars with
    | some ds => Q (.own ds) ρ1
    | none => False
  | .ix a i, ρ, er, Q => rdE cx a ρ er fun x ρ1 => rdE cx i ρ1 er fun y ρ2 => ixD x.d y.d fun d => Q (.val d) ρ2
  | .ixo s i, ρ, er, Q => isSet (getE ρ s) = true ∧ rdE cx i ρ er fun y ρ1 => match getE ρ1 s with
    | some b => ixD b.d y.d fun d => Q (.val d) ρ1
    | none => False
  | .len a, ρ, er, Q => rdE cx a ρ er fun x ρ1 => lenD x.d fun n => Q (.val (.int n)) ρ1
  | .leno s, ρ, _, Q => match getE ρ s with
    | some b => lenD b.d fun n => Q (.val (.int n)) ρ
    | none => False
  | .slice a lo hi, ρ, er, Q => rdE cx a ρ er fun x ρ1 => rdE cx lo ρ1 er fun y ρ2 => partD y.d fun l => rdE cx hi ρ2 er fun z ρ3 => partD z.d fun h => slD x.d l h fun b => Q b ρ3
  | .slFrom a lo, ρ, er, Q => rdE cx a ρ er fun x ρ1 => rdE cx lo ρ1 er fun y ρ2 => partD y.d fun l => slD x.d l none fun b => Q b ρ2
  | .slTo a hi, ρ, er, Q => rdE cx a ρ er fun x ρ1 => rdE cx hi ρ1 er fun y ρ2 => partD y.d fun h => slD x.d none h fun b => Q b ρ2
  | .bif b a, ρ, er, Q => rdE cx a ρ er fun x ρ1 => biD b x.d fun z => Q z ρ1
  | .bjf b a c, ρ, er, Q => rdE cx a ρ er fun x ρ1 => rdE cx c ρ1 er fun y ρ2 => bjD b x.d y.d fun z => Q z ρ2
  | .isi a tys, ρ, er, Q => rdE cx a ρ er fun x ρ1 => Q (.val (.bl (tys.any fun t => tyIs t x.d))) ρ1
  | .excIs cs _, ρ, _, Q => match cx.cur with
    | some c => (match anySub (cx.sub c) cs with
      | some b => Q (.val (.bl b)) ρ
      | none => False)
    | none => False
  | .lc it p c e vs, ρ, er, Q => rdIt cx it ρ er fun items ρ1 => items.length ≤ LINE ∧ vs.all (fun v => notOwn (getE ρ1 v)) = true ∧
      lcLoop (fun x ρ K => rdP cx p x (wipeE ρ vs) fun ρ2 => rdT cx c ρ2 noEr fun k ρ3 =>
        br k (rdE cx e ρ3 noEr fun d ρ4 => K (some d.d) (unwipe ρ4 ρ vs)) (K none (unwipe ρ3 ρ vs))) items [] ρ1 fun acc ρ2 => Q (.own acc) ρ2
  | .pop s, ρ, _, Q => match getE ρ s with
    | some (.own xs) => ∃ d, xs[xs.length - 1]? = some d ∧ Q (.val d) (ρ.set s (some (.own xs.dropLast)))
    | _ => False
  | .lrg a, ρ, er, Q => rdE cx a ρ er fun x ρ1 => match x.d with
    | .int j => (-(2 ^ 62) ≤ j ∧ j ≤ 16777216) ∧ Q (.own (rngL 0 j.toNat 1)) ρ1
    | _ => False
  | .idx s e, ρ, er, Q => isLst (getE ρ s) = true ∧ rdE cx e ρ er fun x ρ1 => match getE ρ1 s with
    | some b => idxD b.d x.d fun j => Q (.val (.int j)) ρ1
    | none => False
def rdT (cx : Rx) : T → Env → Er → (Bool → Env → Prop) → Prop
  | .yes, ρ, _, Q => Q true ρ
  | .cmp o a b, ρ, er, Q => rdE cx a ρ er fun x ρ1 => rdE cx b ρ1 er fun y ρ2 => cmD o x.d y.d fun k => Q k ρ2
  | .chain o p a b c, ρ, er, Q => rdE cx a ρ er fun x ρ1 => rdE cx b ρ1 er fun y ρ2 => cmD o x.d y.d fun k =>
      br k (rdE cx c ρ2 er fun z ρ3 => cmD p y.d z.d fun k' => Q k' ρ3) (Q false ρ2)
  | .and a b, ρ, er, Q => rdT cx a ρ er fun k ρ1 => br k (rdT cx b ρ1 er Q) (Q false ρ1)
  | .or a b, ρ, er, Q => rdT cx a ρ er fun k ρ1 => br k (Q true ρ1) (rdT cx b ρ1 er Q)
  | .not a, ρ, er, Q => rdT cx a ρ er fun k ρ1 => Q (!k) ρ1
  | .val e, ρ, er, Q => rdE cx e ρ er fun x ρ1 => truOk x.d ∧ Q (truD x.d) ρ1
  | .tro s, ρ, _, Q => match getE ρ s with
    | some b => truOk b.d ∧ Q (truD b.d) ρ
    | none => False
def rdEs (cx : Rx) : Es → Env → Er → (List Ar → Env → Prop) → Prop
  | .nil, ρ, _, Q => Q [] ρ
  | .cons e r, ρ, er, Q => rdE cx e ρ er fun x ρ1 => rdEs cx r ρ1 er fun ars ρ2 => Q (.v x.d :: ars) ρ2
  | .own s r, ρ, er, Q => isOwn (getE ρ s) = true ∧ rdEs cx r ρ er fun ars ρ2 => Q (.o s :: ars) ρ2
  | .bor s r, ρ, er, Q => isOwn (getE ρ s) = true ∧ rdEs cx r ρ er fun ars ρ2 => Q (.w s :: ars) ρ2
def rdIt (cx : Rx) : Iu → Env → Er → (List D → Env → Prop) → Prop
  | .seq e, ρ, er, Q => rdE cx e ρ er fun x ρ1 => seqD x.d fun ds => Q ds ρ1
  | .rng1 a, ρ, er, Q => rdE cx a ρ er fun x ρ1 => match x.d with
    | .int j => rngOk j ∧ Q (rngL 0 j.toNat 1) ρ1
    | _ => False
  | .rng2 a b, ρ, er, Q => rdE cx a ρ er fun x ρ1 => rdE cx b ρ1 er fun y ρ2 => match x.d, y.d with
    | .int i, .int j => rngOk i ∧ rngOk j ∧ Q (rngL i (j - i).toNat 1) ρ2
    | _, _ => False
  | .rng3 a b c, ρ, er, Q => rdE cx a ρ er fun x ρ1 => rdE cx b ρ1 er fun y ρ2 => rdE cx c ρ2 er fun z ρ3 => match x.d, y.d, z.d with
    | .int i, .int j, .int k => k = -1 ∧ rngOk i ∧ rngOk j ∧ Q (rngL i (i - j).toNat (-1)) ρ3
    | _, _, _ => False
  | .zip a b, ρ, er, Q => rdE cx a ρ er fun x ρ1 => rdE cx b ρ1 er fun y ρ2 => zipD x.d y.d fun l => Q l ρ2
  | .enum a, ρ, er, Q => rdE cx a ρ er fun x ρ1 => enumD x.d fun l => Q l ρ1
end

structure Dn where
  nx : Env → Prop
  rt : B → Env → Prop
  bk : Env → Prop
  ct : Env → Prop
  er : Er
/-- an int, changed in place -/
def augD : Op → D → D → (D → Prop) → Prop
  | .add, .int i, .int j, K => K (.int (i + j))
  | .sub, .int i, .int j, K => K (.int (i - j))
  | .mul, .int i, .int j, K => MulOk i j ∧ K (.int (i * j))
  | _, _, _, _ => False
/-- s[i] = d -/
def setD (ri : Env → Er → (B → Env → Prop) → Prop) (s : Nat) (d : D) (ρ : Env) (er : Er) (Q : Env → Prop) : Prop :=
  isSet (getE ρ s) = true ∧ ri ρ er fun y ρ2 => match getE ρ2 s with
    | some (.own xs) => (match y.d with
      | .int k => ∃ j, ixN xs.length k = some j ∧ Q (ρ2.set s (some (.own (xs.set j d))))
      | _ => False)
    | _ => False
mutual
def rdS (cx : Rx) : S → Env → Dn → Prop
  | .set i e, ρ, N => rdE cx e ρ N.er fun b ρ1 => cx.pm.contains i = false ∧ N.nx (ρ1.set i (some b))
  | .unp p e, ρ, N => rdE cx e ρ N.er fun b ρ1 => rdP cx p b.d ρ1 N.nx
  | .par i j a b, ρ, N => rdE cx a ρ N.er fun x ρ1 => rdE cx b ρ1 N.er fun y ρ2 => (cx.pm.contains i || cx.pm.contains j) = false ∧ N.nx ((ρ2.set i (some (.val x.d))).set j (some (.val y.d)))
  | .six s i e, ρ, N => rdE cx e ρ N.er fun x ρ1 => isSet (getE ρ1 s) = true ∧ rdE cx i ρ1 N.er fun y ρ2 => match getE ρ2 s with
    | some (.own xs) => (match y.d with
      | .int k => ∃ j, ixN xs.length k = some j ∧ N.nx (ρ2.set s (some (.own (xs.set j x.d))))
      | _ => False)
    | _ => False
  | .swp s i j k l, ρ, N => rdE cx (.ixo s k) ρ N.er fun x ρ1 => rdE cx (.ixo s l) ρ1 N.er fun y ρ2 =>
      setD (fun ρ er Q => rdE cx i ρ er Q) s x.d ρ2 N.er fun ρ3 => setD (fun ρ er Q => rdE cx j ρ er Q) s y.d ρ3 N.er N.nx
  | .aug i o e, ρ, N => match getE ρ i with
    | some (.val d) => rdE cx e ρ N.er fun x ρ1 => augD o d x.d fun z => cx.pm.contains i = false ∧ N.nx (ρ1.set i (some (.val z)))
    | _ => False
  | .aix s i o e, ρ, N => isSet (getE ρ s) = true ∧ rdE cx i ρ N.er fun y ρ1 => match getE ρ1 s with
    | some (.own xs) => (match y.d with
      | .int k => ∃ d, atI xs k = some d ∧ rdE cx e ρ1 N.er fun x ρ2 => augD o d x.d fun z => (match getE ρ2 s with
        | some (.own ys) => ∃ j, ixN ys.length k = some j ∧ N.nx (ρ2.set s (some (.own (ys.set j z))))
        | _ => False)
      | _ => False)
    | _ => False
  | .app s e, ρ, N => isOwn (getE ρ s) = true ∧ rdE cx e ρ N.er fun x ρ1 => match getE ρ1 s with
    | some (.own xs) => xs.length < LINE ∧ N.nx (ρ1.set s (some (.own (xs ++ [x.d]))))
    | _ => False
  | .ext s e, ρ, N => isOwn (getE ρ s) = true ∧ rdE cx e ρ N.er fun x ρ1 => match getE ρ1 s with
    | some (.own xs) => (match x.d with
      | .lst ys => xs.length + ys.length ≤ LINE ∧ N.nx (ρ1.set s (some (.own (xs ++ ys))))
      | _ => False)
    | _ => False
  | .ife t a b, ρ, N => rdT cx t ρ N.er fun k ρ1 => br k (rdSs cx a ρ1 N) (rdSs cx b ρ1 N)
  | .for p it b, ρ, N => rdIt cx it ρ N.er fun items ρ1 =>
      forLoop (fun x ρ nx => rdP cx p x ρ fun ρ2 => rdSs cx b ρ2 ⟨nx, N.rt, N.nx, nx, N.er⟩) items ρ1 N.nx
  | .whi t b, ρ, N => ∃ W : Nat → Env → Prop, (∃ m, W m ρ) ∧ ∀ m ρ, W m ρ → rdT cx t ρ N.er fun k ρ1 =>
      br k (rdSs cx b ρ1 ⟨fun ρ2 => ∃ m', m' < m ∧ W m' ρ2, N.rt, N.nx, fun ρ2 => ∃ m', m' < m ∧ W m' ρ2, N.er⟩) (N.nx ρ1)
  | .ret e, ρ, N => rdE cx e ρ N.er N.rt
  | .reto s, ρ, N => match getE ρ s with
    | some (.own xs) => cx.pm.contains s = false ∧ N.rt (.own xs) (ρ.set s none)
    | _ => False
  | .retn, ρ, N => N.rt (.val .non) ρ
  | .rai c, ρ, N => N.er c ρ
  | .exp e, ρ, N => rdE cx e ρ N.er fun _ ρ1 => N.nx ρ1
  | .brk, ρ, N => N.bk ρ
  | .con, ρ, N => N.ct ρ
  | .pas, ρ, N => N.nx ρ
  | .tri b c s h, ρ, N => rdSs cx b ρ ⟨N.nx, N.rt, N.bk, N.ct, fun c' ρ' =>
      cx.sub c' c = some true ∧ (s < ρ'.length ∧ getE ρ' s = none) ∧ rdSs { cx with cur := some c' } h ρ' ⟨fun _ => False, N.rt, fun _ => False, fun _ => False, noEr⟩⟩
def rdSs (cx : Rx) : Ss → Env → Dn → Prop
  | .nil, ρ, N => N.nx ρ
  | .cons s r, ρ, N => rdS cx s ρ ⟨fun ρ1 => rdSs cx r ρ1 N, N.rt, N.bk, N.ct, N.er⟩
end
/-- a def's body on its arguments -/
def envOf (n : Nat) (bs : List B) : Env := bs.map some ++ List.replicate (n - bs.length) none
def ownsOf (ρ : Env) (pm : List Nat) : List (List D) := pm.map fun i => match getE ρ i with
  | some (.own xs) => xs
  | _ => []
def rdDef (cx : Rx) (body : Ss) (n : Nat) (bs : List B) (K : Out → List (List D) → Prop) : Prop :=
  rdSs cx body (envOf n bs) ⟨fun ρ => K (.ok (.val .non)) (ownsOf ρ cx.pm), fun b ρ => K (.ok b) (ownsOf ρ cx.pm), fun _ => False, fun _ => False, fun c _ => K (.err c) []⟩
end DV
end
section
set_option Elab.async false
set_option maxRecDepth 100000
set_option linter.all false
/-! DV0H: what the head needs of the layer (apart, so that the head may stand first in a joined text: it takes 7 GB). -/
namespace DV
open PySem PySem.Spec PyProof.Rows L2
def bltNames : List String := ["len", "isinstance", "all", "any", "abs", "min", "max", "int", "bool", "str", "list", "tuple", "range", "zip", "enumerate", "sum", "sorted", "repr", "ValueError"]
def clsV (cls : Nat → Addr) (n i : Nat) : Value := if i = n then .type "ValueError" else .ref (cls i)
/-- a def as it is called: name, given arguments, level, names, parameters, owned ones, body, defaults -/
structure Row where
  nm : Str
  ar : Nat
  lv : Nat
  N : List Str
  ps : List Str
  pm : List Nat
  ir : Ss
  dv : List Int
structure Env1 where
  exc : List Str
  cons : List (Str × Int)
def tblOf (rows : List Row) : List (Str × Nat × Nat) := rows.map fun r => (r.nm, r.ar, r.lv)
def clsA (e : Env1) (K : PySem.W.Frag) (i : Nat) : Addr := He.ga K (e.exc.getD i "")
def exaB (K : PySem.W.Frag) (D : Addr) : Bool :=
  decide (PySem.W.findIn K (.ref D) "__getattribute__" = some (some (.builtin "BaseException.__getattribute__"))) && decide (PySem.W.findIn K (.ref D) "__getattr__" = some none) && decide (PySem.W.subIn K (.ref D) (.type "BaseException") = some true) &&
  PySem.W.hasDictIn K D && decide (PySem.W.findIn K (.ref D) "__class__" = some (some (.builtin "object.__class__"))) && decide (PySem.W.specialIn K (.builtin "object.__class__") "__get__" = some (some (.builtin "getset_descriptor.__get__"))) &&
  decide (PySem.W.takesIn K (.builtin "object.__class__") = some true) && decide (PySem.W.mroIn K D (.type "object") = some true)
def isListO (o : Obj) : Bool := decide (o.cls = .type "list")
/-- what is asked of the written part, beside the facts by names -/
def exB (e : Env1) (sb : Nat → Nat → Bool) (K : PySem.W.Frag) : Bool :=
  ((List.range e.exc.length).all fun i => exaB K (clsA e K i) && (List.range (e.exc.length + 1)).all fun j =>
    decide (PySem.W.exmOne K (.ref (clsA e K i)) (clsV (clsA e K) e.exc.length j) = some (sb i j)) && decide (PySem.W.kitOne K (.ref (clsA e K i)) (clsV (clsA e K) e.exc.length j) = some (sb i j))) &&
  K.all fun p => !isListO p.2
def subOf (e : Env1) (sb : Nat → Nat → Bool) : Nat → Nat → Option Bool := fun i j => if i < e.exc.length ∧ j < e.exc.length + 1 then some (sb i j) else none
def faOf (e : Env1) (rows : List Row) : List He.Fa := (rows.map fun r => He.Fa.glo r.nm) ++ (e.exc.map He.Fa.glo ++ (e.exc.map He.Fa.exc ++ (bltNames.map (fun (x : String) => He.Fa.free (x : Str)) ++ e.cons.map fun p => He.Fa.int p.1 p.2)))
end DV
end
section
set_option Elab.async false
set_option maxRecDepth 100000
set_option linter.all false
/-! K78: the defs of the law in the small syntax (printed by gen.py). -/
namespace K78
open PySem DV
def top (i : Nat) : Stmt := PySem.Challenge.pw_everyshift_k78_best_tone.main.body.getD i (.Pass ⟨0, 0, 0, 0⟩)
def N_law_start : List Str := ["script"]
def ir_law_start : Ss := .cons (.ret (.lst (.cons (.bif .list (.var 0)) (.cons (.int 0) (.cons (.int 0) (.cons (.int 0) (.cons (.int 7) (.cons (.int 0) (.nil))))))))) (.nil)
def N_law_mixed : List Str := ["state", "turn", "wide", "once", "twice"]
def ir_law_mixed : Ss := .cons (.set 2 (.int 2305843009213693951)) (.cons (.set 3 (.bin .mod (.bif .int (.bin .add (.bin .add (.bin .mul (.var 0) (.int 6364136223846793005)) (.bin .mul (.var 1) (.int 1442695040888963407))) (.int 1013904223))) (.var 2))) (.cons (.set 4 (.bin .mod (.bif .int (.bin .add (.bin .add (.bin .mul (.bin .fdiv (.var 3) (.int 1048576)) (.int 2862933555777941757)) (.bin .mul (.var 3) (.var 3))) (.bin .mul (.var 1) (.int 3037000493)))) (.int 1000000000000000003))) (.cons (.ret (.bin .fdiv (.var 4) (.int 1000))) (.nil))))
def N_law_wide : List Str := ["state", "turn", "many", "drawn", "reach", "k"]
def ir_law_wide : Ss := .cons (.set 3 (.call 0 (.cons (.var 0) (.cons (.var 1) (.nil))))) (.cons (.set 4 (.bin .pow (.int 10) (.int 15))) (.cons (.for (.name 5) (.rng1 (.int 40)) (.cons (.ife (.cmp .ge (.var 4) (.bin .mul (.var 2) (.int 1000))) (.cons (.brk) (.nil)) (.nil)) (.cons (.set 3 (.bin .add (.bin .mul (.var 3) (.bin .pow (.int 10) (.int 15))) (.call 0 (.cons (.var 0) (.cons (.bin .add (.var 1) (.bin .mul (.int 1000003) (.bin .add (.var 5) (.int 1)))) (.nil)))))) (.cons (.set 4 (.bin .mul (.var 4) (.bin .pow (.int 10) (.int 15)))) (.nil))))) (.cons (.ret (.bin .mod (.bif .int (.var 3)) (.var 2))) (.nil))))
def N_law_move : List Str := ["store", "cell"]
def ir_law_move : Ss := .cons (.set 1 (.bif .int (.ix (.ixo 0 (.int 0)) (.ixo 0 (.int 1))))) (.cons (.six 0 (.int 4) (.call 0 (.cons (.bin .add (.ixo 0 (.int 4)) (.bin .mod (.bif .int (.var 1)) (.int 2305843009213693951))) (.cons (.bin .add (.ixo 0 (.int 1)) (.int 7)) (.nil))))) (.cons (.six 0 (.int 1) (.bin .add (.ixo 0 (.int 1)) (.int 1))) (.cons (.ife (.or (.cmp .ge (.var 1) (.bin .pow (.int 10) (.int 18))) (.cmp .le (.var 1) (.neg (.bin .pow (.int 10) (.int 18))))) (.cons (.six 0 (.int 2) (.bin .mod (.bif .int (.bif .abs (.var 1))) (.bin .pow (.bin .pow (.int 10) (.int 60)) (.int 12)))) (.nil)) (.cons (.six 0 (.int 3) (.int 2)) (.nil))) (.nil))))
def N_law_take : List Str := ["store", "many", "k", "drawn"]
def ir_law_take : Ss := .cons (.ife (.cmp .lt (.var 1) (.int 2)) (.cons (.ret (.int 0)) (.nil)) (.nil)) (.cons (.six 0 (.int 5) (.bin .add (.ixo 0 (.int 5)) (.int 1))) (.cons (.for (.name 2) (.rng1 (.len (.ixo 0 (.int 0)))) (.cons (.ife (.or (.cmp .gt (.ixo 0 (.int 2)) (.int 0)) (.or (.cmp .gt (.ixo 0 (.int 3)) (.int 0)) (.cmp .ge (.ixo 0 (.int 1)) (.len (.ixo 0 (.int 0)))))) (.cons (.brk) (.nil)) (.nil)) (.cons (.exp (.call 2 (.own 0 (.nil)))) (.nil)))) (.cons (.ife (.cmp .gt (.ixo 0 (.int 2)) (.int 0)) (.cons (.set 3 (.bin .mod (.bif .int (.ixo 0 (.int 2))) (.var 1))) (.cons (.six 0 (.int 2) (.bin .fdiv (.ixo 0 (.int 2)) (.var 1))) (.cons (.ret (.var 3)) (.nil)))) (.nil)) (.cons (.six 0 (.int 3) (.bjf .max2 (.int 0) (.bin .sub (.ixo 0 (.int 3)) (.int 1)))) (.cons (.ret (.call 1 (.cons (.ixo 0 (.int 4)) (.cons (.ixo 0 (.int 5)) (.cons (.var 1) (.nil)))))) (.nil))))))
def N_law_rare : List Str := ["store", "many"]
def ir_law_rare : Ss := .cons (.ret (.cmp .eq (.call 3 (.own 0 (.cons (.var 1) (.nil)))) (.int 0))) (.nil)
def N_law_order : List Str := ["store", "many", "places", "how", "k", "at", "held"]
def ir_law_order : Ss := .cons (.set 2 (.lrg (.var 1))) (.cons (.set 3 (.call 3 (.own 0 (.cons (.int 6) (.nil))))) (.cons (.ife (.cmp .eq (.var 3) (.int 1)) (.cons (.set 2 (.lc (.rng1 (.var 1)) (.name 4) (.yes) (.bin .sub (.bin .sub (.var 1) (.int 1)) (.var 4)) [4])) (.nil)) (.nil)) (.cons (.ife (.and (.cmp .eq (.var 3) (.int 2)) (.cmp .gt (.var 1) (.int 1))) (.cons (.set 5 (.call 3 (.own 0 (.cons (.bin .sub (.var 1) (.int 1)) (.nil))))) (.cons (.six 2 (.var 5) (.bin .add (.var 5) (.int 1))) (.cons (.six 2 (.bin .add (.var 5) (.int 1)) (.var 5)) (.nil)))) (.nil)) (.cons (.ife (.cmp .gt (.var 3) (.int 2)) (.cons (.for (.name 4) (.rng3 (.bin .sub (.var 1) (.int 1)) (.int 0) (.neg (.int 1))) (.cons (.set 5 (.call 3 (.own 0 (.cons (.bin .add (.var 4) (.int 1)) (.nil))))) (.cons (.set 6 (.ixo 2 (.var 5))) (.cons (.six 2 (.var 5) (.ixo 2 (.var 4))) (.cons (.six 2 (.var 4) (.var 6)) (.nil)))))) (.nil)) (.nil)) (.cons (.ret (.var 2)) (.nil))))))
def N_law_filled : List Str := ["store", "sizes", "free", "rows", "i", "row", "size", "j"]
def ir_law_filled : Ss := .cons (.set 3 (.lst (.nil))) (.cons (.for (.name 4) (.rng1 (.leno 1)) (.cons (.set 5 (.lc (.seq (.var 1)) (.name 6) (.yes) (.int 0) [6])) (.cons (.six 5 (.var 4) (.ixo 1 (.var 4))) (.cons (.for (.name 7) (.rng2 (.bin .add (.var 4) (.int 1)) (.leno 1)) (.cons (.ife (.tro 2) (.cons (.six 5 (.var 7) (.call 3 (.own 0 (.cons (.ixo 1 (.var 7)) (.nil))))) (.nil)) (.nil)) (.nil))) (.cons (.app 3 (.bif .tuple (.var 5))) (.nil)))))) (.cons (.ret (.bif .tuple (.var 3))) (.nil)))
def N_law_from : List Str := ["store", "low", "high"]
def ir_law_from : Ss := .cons (.ret (.bin .add (.var 1) (.call 3 (.own 0 (.cons (.bin .add (.bin .sub (.var 2) (.var 1)) (.int 1)) (.nil)))))) (.nil)
def N_law_count : List Str := ["store", "most", "how"]
def ir_law_count : Ss := .cons (.set 2 (.call 3 (.own 0 (.cons (.int 6) (.nil))))) (.cons (.ife (.cmp .eq (.var 2) (.int 0)) (.cons (.ret (.int 1)) (.nil)) (.nil)) (.cons (.ife (.cmp .eq (.var 2) (.int 1)) (.cons (.ret (.bjf .max2 (.int 1) (.bin .sub (.var 1) (.call 3 (.own 0 (.cons (.int 2) (.nil))))))) (.nil)) (.nil)) (.cons (.ife (.cmp .eq (.var 2) (.int 2)) (.cons (.ret (.call 7 (.own 0 (.cons (.int 1) (.cons (.var 1) (.nil)))))) (.nil)) (.nil)) (.cons (.ret (.call 7 (.own 0 (.cons (.int 1) (.cons (.bjf .min2 (.var 1) (.int 12)) (.nil)))))) (.nil)))))
def N_law_great_screen : List Str := ["store", "directions", "most", "sizes", "k", "room", "at"]
def ir_law_great_screen : Ss := .cons (.set 3 (.lc (.rng1 (.var 1)) (.name 4) (.yes) (.int 1) [4])) (.cons (.set 5 (.var 2)) (.cons (.for (.name 6) (.seq (.call 5 (.own 0 (.cons (.var 1) (.nil))))) (.cons (.ife (.or (.val (.call 4 (.own 0 (.cons (.int 2) (.nil))))) (.cmp .eq (.var 6) (.int 0))) (.cons (.six 3 (.var 6) (.call 8 (.own 0 (.cons (.bjf .max2 (.int 1) (.var 5)) (.nil))))) (.cons (.set 5 (.bin .fdiv (.var 5) (.ixo 3 (.var 6)))) (.nil))) (.nil)) (.nil))) (.cons (.ret (.call 6 (.own 0 (.cons (.var 3) (.cons (.not (.call 4 (.own 0 (.cons (.int 4) (.nil))))) (.nil)))))) (.nil))))
def N_law_index_of : List Str := ["screen", "whole", "i"]
def ir_law_index_of : Ss := .cons (.set 1 (.int 1)) (.cons (.for (.name 2) (.rng1 (.leno 0)) (.cons (.set 1 (.bin .mul (.var 1) (.ix (.ixo 0 (.var 2)) (.var 2)))) (.nil))) (.cons (.ret (.var 1)) (.nil)))
def N_law_great_stack : List Str := ["store", "directions", "many", "screens", "room", "k", "screen"]
def ir_law_great_stack : Ss := .cons (.set 3 (.lst (.nil))) (.cons (.set 4 (.bin .pow (.int 10) (.int 60))) (.cons (.for (.name 5) (.rng1 (.var 2)) (.cons (.ife (.and (.cmp .gt (.var 5) (.int 0)) (.and (.val (.call 4 (.own 0 (.cons (.int 4) (.nil))))) (.cmp .le (.call 10 (.cons (.ixo 3 (.int 0)) (.nil))) (.var 4)))) (.cons (.set 6 (.ixo 3 (.int 0))) (.nil)) (.cons (.set 6 (.call 9 (.own 0 (.cons (.var 1) (.cons (.ite (.val (.call 4 (.own 0 (.cons (.int 2) (.nil))))) (.var 4) (.bjf .min2 (.var 4) (.bin .pow (.int 10) (.int 12)))) (.nil)))))) (.nil))) (.cons (.set 4 (.bin .fdiv (.var 4) (.call 10 (.cons (.var 6) (.nil))))) (.cons (.app 3 (.var 6)) (.nil))))) (.cons (.ret (.var 3)) (.nil))))
def N_law_pick : List Str := ["store", "things"]
def ir_law_pick : Ss := .cons (.ret (.ixo 1 (.call 3 (.own 0 (.cons (.leno 1) (.nil)))))) (.nil)
def N_law_drawn_stack : List Str := ["store", "directions", "screens", "room", "turn", "sizes", "k", "more", "at", "size"]
def ir_law_drawn_stack : Ss := .cons (.ife (.cmp .eq (.call 3 (.own 0 (.cons (.int 2) (.nil)))) (.int 0)) (.cons (.ret (.call 11 (.own 0 (.cons (.var 1) (.cons (.call 12 (.own 0 (.cons (.lst (.cons (.int 1) (.cons (.int 2) (.cons (.int 2) (.cons (.int 3) (.cons (.int 6) (.nil))))))) (.nil)))) (.nil)))))) (.nil)) (.nil)) (.cons (.set 2 (.lst (.nil))) (.cons (.set 3 (.int 60)) (.cons (.for (.name 4) (.rng1 (.call 12 (.own 0 (.cons (.lst (.cons (.int 2) (.cons (.int 2) (.cons (.int 3) (.cons (.int 1) (.cons (.int 4) (.cons (.int 6) (.nil)))))))) (.nil))))) (.cons (.set 5 (.lc (.rng1 (.var 1)) (.name 6) (.yes) (.int 1) [6])) (.cons (.for (.name 7) (.rng1 (.bin .add (.int 1) (.bin .fdiv (.call 3 (.own 0 (.cons (.int 3) (.nil)))) (.int 2)))) (.cons (.set 8 (.call 3 (.own 0 (.cons (.var 1) (.nil))))) (.cons (.set 9 (.bjf .min2 (.var 3) (.call 12 (.own 0 (.cons (.lst (.cons (.int 2) (.cons (.int 2) (.cons (.int 4) (.cons (.int 3) (.cons (.int 5) (.cons (.int 1) (.nil)))))))) (.nil)))))) (.cons (.six 5 (.var 8) (.bin .mul (.ixo 5 (.var 8)) (.var 9))) (.cons (.set 3 (.bin .fdiv (.var 3) (.var 9))) (.nil)))))) (.cons (.app 2 (.call 6 (.own 0 (.cons (.var 5) (.cons (.cmp .gt (.call 3 (.own 0 (.cons (.int 3) (.nil)))) (.int 0)) (.nil)))))) (.nil))))) (.cons (.ret (.var 2)) (.nil)))))
def N_law_tones : List Str := ["store", "screens", "tones", "screen", "whole", "how"]
def ir_law_tones : Ss := .cons (.set 2 (.lst (.nil))) (.cons (.for (.name 3) (.seq (.var 1)) (.cons (.set 4 (.call 10 (.cons (.var 3) (.nil)))) (.cons (.set 5 (.call 3 (.own 0 (.cons (.int 4) (.nil))))) (.cons (.app 2 (.ite (.cmp .eq (.var 5) (.int 0)) (.int 0) (.ite (.cmp .eq (.var 5) (.int 1)) (.var 4) (.call 3 (.own 0 (.cons (.bin .add (.var 4) (.int 1)) (.nil))))))) (.nil))))) (.cons (.ret (.var 2)) (.nil)))
def N_law_power : List Str := ["number", "many", "found", "k"]
def ir_law_power : Ss := .cons (.set 2 (.int 1)) (.cons (.for (.name 3) (.rng1 (.var 1)) (.cons (.set 2 (.bin .mul (.var 2) (.var 0))) (.nil))) (.cons (.ret (.var 2)) (.nil)))
def N_law_colour : List Str := ["store", "k"]
def ir_law_colour : Ss := .cons (.ife (.val (.call 4 (.own 0 (.cons (.int 3) (.nil))))) (.cons (.ret (.bif .tuple (.lc (.rng1 (.int 3)) (.name 1) (.yes) (.call 12 (.own 0 (.cons (.lst (.cons (.int 0) (.cons (.int 1000) (.cons (.int 1) (.cons (.int 999) (.nil)))))) (.nil)))) [1]))) (.nil)) (.nil)) (.cons (.ret (.bif .tuple (.lc (.rng1 (.int 3)) (.name 1) (.yes) (.call 3 (.own 0 (.cons (.int 1001) (.nil)))) [1]))) (.nil))
def N_law_colours : List Str := ["store", "inks", "found", "k"]
def ir_law_colours : Ss := .cons (.set 2 (.lst (.nil))) (.cons (.for (.name 3) (.rng1 (.call 15 (.cons (.int 2) (.cons (.var 1) (.nil))))) (.cons (.app 2 (.ite (.and (.cmp .gt (.var 3) (.int 0)) (.val (.call 4 (.own 0 (.cons (.int 6) (.nil)))))) (.ixo 2 (.int 0)) (.call 16 (.own 0 (.nil))))) (.nil))) (.cons (.ret (.var 2)) (.nil)))
def N_law_copy : List Str := ["part", "deep", "x"]
def ir_law_copy (f : Nat) : Ss := .cons (.ife (.cmp .lt (.var 1) (.int 1)) (.cons (.ret (.var 0)) (.nil)) (.nil)) (.cons (.ife (.val (.isi (.var 0) [.list])) (.cons (.ret (.lc (.seq (.var 0)) (.name 2) (.yes) (.call f (.cons (.var 2) (.cons (.bin .sub (.var 1) (.int 1)) (.nil)))) [2])) (.nil)) (.nil)) (.cons (.ife (.val (.isi (.var 0) [.tuple])) (.cons (.ret (.bif .tuple (.lc (.seq (.var 0)) (.name 2) (.yes) (.call f (.cons (.var 2) (.cons (.bin .sub (.var 1) (.int 1)) (.nil)))) [2]))) (.nil)) (.nil)) (.cons (.ret (.var 0)) (.nil))))
def N_law_unit_cell : List Str := ["directions", "j", "k"]
def ir_law_unit_cell : Ss := .cons (.ret (.bif .tuple (.lc (.rng1 (.var 0)) (.name 2) (.yes) (.bif .int (.cmp .eq (.var 2) (.var 1))) [2]))) (.nil)
def N_law_unit : List Str := ["directions", "i"]
def ir_law_unit : Ss := .cons (.ret (.bif .tuple (.lc (.rng1 (.var 0)) (.name 1) (.yes) (.call 29 (.cons (.var 0) (.cons (.var 1) (.nil)))) [1]))) (.nil)
def N_law_with : List Str := ["things", "place", "part", "row"]
def ir_law_with : Ss := .cons (.set 3 (.bif .list (.var 0))) (.cons (.six 3 (.var 1) (.var 2)) (.cons (.ret (.ite (.val (.isi (.var 0) [.tuple])) (.bif .tuple (.var 3)) (.var 3))) (.nil)))
def N_law_box_basis : List Str := ["sizes", "k"]
def ir_law_box_basis : Ss := .cons (.ret (.bif .tuple (.lc (.rng1 (.leno 0)) (.name 1) (.yes) (.call 31 (.cons (.call 29 (.cons (.leno 0) (.cons (.var 1) (.nil)))) (.cons (.var 1) (.cons (.ixo 0 (.var 1)) (.nil))))) [1]))) (.nil)
def N_law_is_number : List Str := ["part"]
def ir_law_is_number : Ss := .cons (.ret (.and (.isi (.var 0) [.int]) (.not (.isi (.var 0) [.bool])))) (.nil)
def N_law_bent : List Str := ["store", "thing", "path", "chain", "turn", "part", "bent", "k", "at"]
def ir_law_bent : Ss := .cons (.set 2 (.lst (.nil))) (.cons (.set 3 (.lst (.cons (.var 1) (.nil)))) (.cons (.for (.name 4) (.rng1 (.int 6)) (.cons (.set 5 (.ixo 3 (.var 4))) (.cons (.ife (.or (.not (.val (.isi (.var 5) [.list, .tuple]))) (.or (.cmp .eq (.leno 5) (.int 0)) (.val (.call 4 (.own 0 (.cons (.int 5) (.nil))))))) (.cons (.brk) (.nil)) (.nil)) (.cons (.app 2 (.call 3 (.own 0 (.cons (.leno 5) (.nil))))) (.cons (.app 3 (.ixo 5 (.ixo 2 (.var 4)))) (.nil)))))) (.cons (.set 5 (.ixo 3 (.leno 2))) (.cons (.set 6 (.non)) (.cons (.ife (.val (.isi (.var 5) [.list])) (.cons (.set 6 (.bif .tuple (.var 5))) (.nil)) (.cons (.ife (.val (.isi (.var 5) [.tuple])) (.cons (.set 6 (.bif .list (.var 5))) (.nil)) (.cons (.ife (.val (.call 33 (.cons (.var 5) (.nil)))) (.cons (.set 6 (.call 12 (.own 0 (.cons (.lst (.cons (.non) (.cons (.cmp .eq (.var 5) (.int 1)) (.cons (.bl true) (.cons (.str "1") (.cons (.lst (.nil)) (.cons (.tup (.cons (.var 5) (.nil))) (.cons (.lst (.cons (.var 5) (.nil))) (.nil))))))))) (.nil))))) (.nil)) (.cons (.ife (.cmp .is (.var 5) (.non)) (.cons (.set 6 (.bl true)) (.nil)) (.nil)) (.nil))) (.nil))) (.nil))) (.cons (.for (.name 7) (.rng1 (.leno 2)) (.cons (.set 8 (.bin .sub (.bin .sub (.leno 2) (.int 1)) (.var 7))) (.cons (.set 6 (.call 31 (.cons (.ixo 3 (.var 8)) (.cons (.ixo 2 (.var 8)) (.cons (.var 6) (.nil)))))) (.nil)))) (.cons (.ret (.var 6)) (.nil))))))))
def N_law_entry : List Str := ["screen", "i", "j", "part"]
def ir_law_entry : Ss := .cons (.ret (.call 31 (.cons (.var 0) (.cons (.var 1) (.cons (.call 31 (.cons (.ixo 0 (.var 1)) (.cons (.var 2) (.cons (.var 3) (.nil))))) (.nil)))))) (.nil)
def N_law_bad_screens : List Str := ["store", "screen", "many", "at", "size", "bad", "odd", "two", "one", "row"]
def ir_law_bad_screens : Ss := .cons (.set 2 (.leno 1)) (.cons (.set 3 (.call 3 (.own 0 (.cons (.var 2) (.nil))))) (.cons (.set 4 (.ix (.ixo 1 (.var 3)) (.var 3))) (.cons (.set 5 (.lst (.cons (.non) (.cons (.bl true) (.cons (.int 1) (.cons (.str "rows 1") (.cons (.lst (.nil)) (.cons (.tup (.nil)) (.cons (.bif .list (.var 1)) (.cons (.slTo (.var 1) (.bin .sub (.var 2) (.int 1))) (.cons (.bin .add (.var 1) (.tup (.cons (.ixo 1 (.bin .sub (.var 2) (.int 1))) (.nil)))) (.nil)))))))))))) (.cons (.for (.name 6) (.seq (.lst (.cons (.int 0) (.cons (.bin .sub (.int 0) (.var 4)) (.cons (.bin .add (.bin .pow (.int 10) (.int 60)) (.int 1)) (.cons (.bl true) (.cons (.non) (.cons (.str "1") (.cons (.tup (.cons (.var 4) (.nil))) (.nil)))))))))) (.cons (.app 5 (.call 35 (.cons (.var 1) (.cons (.var 3) (.cons (.var 3) (.cons (.var 6) (.nil))))))) (.nil))) (.cons (.ife (.cmp .gt (.var 2) (.int 1)) (.cons (.set 7 (.bin .add (.int 1) (.call 3 (.own 0 (.cons (.bin .sub (.var 2) (.int 1)) (.nil)))))) (.cons (.set 8 (.call 3 (.own 0 (.cons (.var 7) (.nil))))) (.cons (.app 5 (.call 35 (.cons (.var 1) (.cons (.var 7) (.cons (.var 8) (.cons (.int 1) (.nil))))))) (.cons (.app 5 (.call 35 (.cons (.var 1) (.cons (.var 7) (.cons (.var 8) (.cons (.bl false) (.nil))))))) (.cons (.app 5 (.call 35 (.cons (.var 1) (.cons (.var 8) (.cons (.var 7) (.cons (.ix (.ixo 1 (.var 7)) (.var 7)) (.nil))))))) (.cons (.app 5 (.call 35 (.cons (.var 1) (.cons (.var 8) (.cons (.var 7) (.cons (.neg (.int 1)) (.nil))))))) (.nil))))))) (.nil)) (.cons (.app 5 (.bif .tuple (.lc (.seq (.var 1)) (.name 9) (.yes) (.bin .add (.var 9) (.tup (.cons (.int 0) (.nil)))) [9]))) (.cons (.app 5 (.bif .tuple (.lc (.seq (.var 1)) (.name 9) (.yes) (.slTo (.var 9) (.bin .sub (.var 2) (.int 1))) [9]))) (.cons (.app 5 (.call 31 (.cons (.var 1) (.cons (.var 3) (.cons (.bif .list (.ixo 1 (.var 3))) (.nil)))))) (.cons (.app 5 (.call 34 (.own 0 (.cons (.var 1) (.nil))))) (.cons (.ret (.bin .add (.var 5) (.lst (.cons (.call 30 (.cons (.int 19) (.nil))) (.cons (.lst (.cons (.var 1) (.nil))) (.nil)))))) (.nil)))))))))))
def N_law_bad_catalogs : List Str := ["store", "screens", "many", "at", "other", "great", "k", "double", "bad", "odd"]
def ir_law_bad_catalogs : Ss := .cons (.set 2 (.len (.ixo 1 (.int 0)))) (.cons (.set 3 (.call 3 (.own 0 (.cons (.leno 1) (.nil))))) (.cons (.set 4 (.call 30 (.cons (.ite (.cmp .lt (.var 2) (.int 18)) (.bin .add (.var 2) (.int 1)) (.bin .sub (.var 2) (.int 1))) (.nil)))) (.cons (.set 5 (.call 32 (.cons (.lc (.rng1 (.var 2)) (.name 6) (.yes) (.ite (.cmp .eq (.var 6) (.int 0)) (.bin .pow (.int 10) (.int 60)) (.int 1)) [6]) (.nil)))) (.cons (.set 7 (.call 32 (.cons (.lc (.rng1 (.var 2)) (.name 6) (.yes) (.ite (.cmp .eq (.var 6) (.int 0)) (.int 2) (.int 1)) [6]) (.nil)))) (.cons (.set 8 (.lst (.cons (.non) (.cons (.bl true) (.cons (.int 0) (.cons (.str "") (.cons (.lst (.nil)) (.cons (.tup (.nil)) (.cons (.bif .tuple (.var 1)) (.cons (.ixo 1 (.var 3)) (.cons (.lst (.cons (.var 1) (.nil))) (.cons (.lc (.rng1 (.int 9)) (.name 6) (.yes) (.call 30 (.cons (.var 2) (.nil))) [6]) (.nil))))))))))))) (.cons (.app 8 (.lst (.cons (.var 5) (.cons (.var 7) (.nil))))) (.cons (.app 8 (.bin .add (.bin .add (.slTo (.var 1) (.var 3)) (.lst (.cons (.var 4) (.nil)))) (.slFrom (.var 1) (.var 3)))) (.cons (.app 8 (.call 34 (.own 0 (.cons (.var 1) (.nil))))) (.cons (.for (.name 9) (.seq (.call 36 (.own 0 (.cons (.ixo 1 (.var 3)) (.nil))))) (.cons (.app 8 (.call 31 (.cons (.var 1) (.cons (.var 3) (.cons (.var 9) (.nil)))))) (.nil))) (.cons (.ret (.var 8)) (.nil)))))))))))
def N_law_bad_stacks : List Str := ["store", "screens", "many", "k"]
def ir_law_bad_stacks : Ss := .cons (.set 2 (.len (.ixo 1 (.int 0)))) (.cons (.ret (.bin .add (.call 37 (.own 0 (.cons (.var 1) (.nil)))) (.lst (.cons (.lc (.rng1 (.int 7)) (.name 3) (.yes) (.call 30 (.cons (.var 2) (.nil))) [3]) (.cons (.lst (.cons (.call 30 (.cons (.int 4) (.nil))) (.nil))) (.nil)))))) (.nil))
def N_law_no_numbers : List Str := []
def ir_law_no_numbers : Ss := .cons (.ret (.lst (.cons (.non) (.cons (.bl true) (.cons (.bl false) (.cons (.str "") (.cons (.str "1") (.cons (.lst (.nil)) (.cons (.tup (.nil)) (.cons (.lst (.cons (.int 1) (.nil))) (.cons (.tup (.cons (.int 1) (.nil))) (.nil)))))))))))) (.nil)
def N_law_bad_numbers : List Str := ["low", "high"]
def ir_law_bad_numbers : Ss := .cons (.ret (.bin .add (.call 39 (.nil)) (.lst (.cons (.bin .sub (.var 0) (.int 1)) (.cons (.bin .add (.var 1) (.int 1)) (.nil)))))) (.nil)
def N_law_bad_colour : List Str := ["store", "colour", "at", "bad", "odd"]
def ir_law_bad_colour : Ss := .cons (.set 2 (.call 3 (.own 0 (.cons (.int 3) (.nil))))) (.cons (.set 3 (.lst (.cons (.non) (.cons (.bl true) (.cons (.int 0) (.cons (.str "") (.cons (.tup (.nil)) (.cons (.lst (.nil)) (.cons (.bif .list (.var 1)) (.cons (.bin .add (.var 1) (.tup (.cons (.int 0) (.nil)))) (.cons (.slTo (.var 1) (.int 2)) (.cons (.call 34 (.own 0 (.cons (.var 1) (.nil)))) (.nil))))))))))))) (.cons (.for (.name 4) (.seq (.lst (.cons (.neg (.int 1)) (.cons (.int 1001) (.cons (.non) (.cons (.bl true) (.cons (.str "0") (.nil)))))))) (.cons (.app 3 (.call 31 (.cons (.var 1) (.cons (.var 2) (.cons (.var 4) (.nil)))))) (.nil))) (.cons (.ret (.var 3)) (.nil))))
def N_law_bad_colours : List Str := ["store", "colours", "at", "bad", "odd"]
def ir_law_bad_colours : Ss := .cons (.set 2 (.call 3 (.own 0 (.cons (.leno 1) (.nil))))) (.cons (.set 3 (.lst (.cons (.non) (.cons (.bl true) (.cons (.int 0) (.cons (.str "") (.cons (.lst (.nil)) (.cons (.tup (.nil)) (.cons (.bif .tuple (.var 1)) (.cons (.bin .add (.var 1) (.lst (.cons (.ixo 1 (.int 0)) (.nil)))) (.cons (.slTo (.var 1) (.bin .sub (.leno 1) (.int 1))) (.cons (.ixo 1 (.var 2)) (.nil))))))))))))) (.cons (.for (.name 4) (.seq (.call 41 (.own 0 (.cons (.ixo 1 (.var 2)) (.nil))))) (.cons (.app 3 (.call 31 (.cons (.var 1) (.cons (.var 2) (.cons (.var 4) (.nil)))))) (.nil))) (.cons (.app 3 (.call 34 (.own 0 (.cons (.var 1) (.nil))))) (.cons (.ret (.var 3)) (.nil)))))
def N_law_bad_tones : List Str := ["store", "screens", "tones", "at", "bad", "odd"]
def ir_law_bad_tones : Ss := .cons (.set 3 (.call 3 (.own 0 (.cons (.leno 2) (.nil))))) (.cons (.set 4 (.lst (.cons (.non) (.cons (.bl true) (.cons (.int 0) (.cons (.str "") (.cons (.lst (.nil)) (.cons (.tup (.nil)) (.cons (.bif .tuple (.var 2)) (.cons (.bin .add (.var 2) (.lst (.cons (.int 0) (.nil)))) (.cons (.bin .add (.slTo (.var 2) (.var 3)) (.slFrom (.var 2) (.bin .add (.var 3) (.int 1)))) (.cons (.call 34 (.own 0 (.cons (.var 2) (.nil)))) (.nil))))))))))))) (.cons (.for (.name 5) (.seq (.lst (.cons (.neg (.int 1)) (.cons (.bin .add (.call 10 (.cons (.ixo 1 (.var 3)) (.nil))) (.int 1)) (.cons (.non) (.cons (.bl true) (.cons (.str "0") (.nil)))))))) (.cons (.app 4 (.call 31 (.cons (.var 2) (.cons (.var 3) (.cons (.var 5) (.nil)))))) (.nil))) (.cons (.ret (.var 4)) (.nil))))
def N_index_bounded : List Str := ["screens", "product", "screen", "i"]
def ir_index_bounded : Ss := .cons (.set 1 (.int 1)) (.cons (.for (.name 2) (.seq (.var 0)) (.cons (.for (.name 3) (.rng1 (.leno 2)) (.cons (.set 1 (.bin .mul (.var 1) (.ix (.ixo 2 (.var 3)) (.var 3)))) (.cons (.ife (.cmp .gt (.var 1) (.con "MOST" (1000000000000000000000000000000000000000000000000000000000000))) (.cons (.ret (.bl false)) (.nil)) (.nil)) (.nil)))) (.nil))) (.cons (.ret (.bl true)) (.nil)))
def N_is_whole_checks : List Str := ["value"]
def ir_is_whole_checks : Ss := .cons (.ret (.and (.isi (.var 0) [.int]) (.not (.isi (.var 0) [.bool])))) (.nil)
def N_is_square : List Str := ["value", "row", "entry"]
def ir_is_square : Ss := .cons (.ife (.or (.not (.val (.isi (.var 0) [.tuple]))) (.not (.chain .le .le (.int 1) (.leno 0) (.int 18)))) (.cons (.ret (.bl false)) (.nil)) (.nil)) (.cons (.for (.name 1) (.seq (.var 0)) (.cons (.ife (.or (.not (.val (.isi (.var 1) [.tuple]))) (.cmp .ne (.leno 1) (.leno 0))) (.cons (.ret (.bl false)) (.nil)) (.nil)) (.cons (.ife (.not (.val (.bif .all (.lc (.seq (.var 1)) (.name 2) (.yes) (.call 45 (.cons (.var 2) (.nil))) [2])))) (.cons (.ret (.bl false)) (.nil)) (.nil)) (.nil)))) (.cons (.ret (.bl true)) (.nil)))
def N_is_basis_row : List Str := ["square", "i", "row", "j"]
def ir_is_basis_row : Ss := .cons (.set 2 (.ixo 0 (.var 1))) (.cons (.ife (.cmp .lt (.ixo 2 (.var 1)) (.int 1)) (.cons (.ret (.bl false)) (.nil)) (.nil)) (.cons (.for (.name 3) (.rng1 (.var 1)) (.cons (.ife (.cmp .ne (.ixo 2 (.var 3)) (.int 0)) (.cons (.ret (.bl false)) (.nil)) (.nil)) (.nil))) (.cons (.for (.name 3) (.rng2 (.bin .add (.var 1) (.int 1)) (.leno 2)) (.cons (.ife (.not (.chain .le .lt (.int 0) (.ixo 2 (.var 3)) (.ix (.ixo 0 (.var 3)) (.var 3)))) (.cons (.ret (.bl false)) (.nil)) (.nil)) (.nil))) (.cons (.ret (.bl true)) (.nil)))))
def N_is_screen : List Str := ["value", "i"]
def ir_is_screen : Ss := .cons (.ife (.not (.val (.call 46 (.cons (.var 0) (.nil))))) (.cons (.ret (.bl false)) (.nil)) (.nil)) (.cons (.ife (.not (.val (.bif .all (.lc (.rng1 (.leno 0)) (.name 1) (.yes) (.call 47 (.cons (.var 0) (.cons (.var 1) (.nil)))) [1])))) (.cons (.ret (.bl false)) (.nil)) (.nil)) (.cons (.ret (.call 44 (.cons (.lst (.cons (.var 0) (.nil))) (.nil)))) (.nil)))
def N_is_catalog : List Str := ["value", "screen"]
def ir_is_catalog : Ss := .cons (.ife (.or (.not (.val (.isi (.var 0) [.list]))) (.not (.chain .le .le (.int 1) (.leno 0) (.int 8)))) (.cons (.ret (.bl false)) (.nil)) (.nil)) (.cons (.ife (.not (.val (.bif .all (.lc (.seq (.var 0)) (.name 1) (.yes) (.call 48 (.cons (.var 1) (.nil))) [1])))) (.cons (.ret (.bl false)) (.nil)) (.nil)) (.cons (.ife (.not (.val (.bif .all (.lc (.seq (.var 0)) (.name 1) (.yes) (.cmp .eq (.leno 1) (.len (.ixo 0 (.int 0)))) [1])))) (.cons (.ret (.bl false)) (.nil)) (.nil)) (.cons (.ret (.call 44 (.cons (.var 0) (.nil)))) (.nil))))
def N_is_stack : List Str := ["value"]
def ir_is_stack : Ss := .cons (.ife (.not (.val (.call 49 (.cons (.var 0) (.nil))))) (.cons (.ret (.bl false)) (.nil)) (.nil)) (.cons (.ret (.and (.cmp .le (.leno 0) (.int 6)) (.cmp .le (.len (.ixo 0 (.int 0))) (.int 3)))) (.nil))
def N_check_stack : List Str := ["value"]
def ir_check_stack : Ss := .cons (.ife (.not (.val (.call 50 (.cons (.var 0) (.nil))))) (.cons (.rai 5) (.nil)) (.nil)) (.nil)
def N_is_whole_tints : List Str := ["value"]
def ir_is_whole_tints : Ss := .cons (.ret (.and (.isi (.var 0) [.int]) (.not (.isi (.var 0) [.bool])))) (.nil)
def N_has_tones : List Str := ["indices", "value", "tone", "index"]
def ir_has_tones : Ss := .cons (.ife (.or (.not (.val (.isi (.var 1) [.list]))) (.cmp .ne (.leno 1) (.leno 0))) (.cons (.ret (.bl false)) (.nil)) (.nil)) (.cons (.ret (.bif .all (.lc (.zip (.var 1) (.var 0)) (.tup (.cons (.name 2) (.cons (.name 3) (.nil)))) (.yes) (.and (.call 52 (.cons (.var 2) (.nil))) (.chain .le .le (.int 0) (.var 2) (.var 3))) [2, 3]))) (.nil))
def N_check_tones : List Str := ["indices", "value"]
def ir_check_tones : Ss := .cons (.ife (.not (.val (.call 53 (.cons (.var 0) (.cons (.var 1) (.nil)))))) (.cons (.rai 1) (.nil)) (.nil)) (.nil)
def N_is_within : List Str := ["value", "low", "high"]
def ir_is_within : Ss := .cons (.ret (.and (.call 45 (.cons (.var 0) (.nil))) (.chain .le .le (.var 1) (.var 0) (.var 2)))) (.nil)
def N_check_bounds : List Str := ["low", "high"]
def ir_check_bounds : Ss := .cons (.ife (.not (.val (.call 55 (.cons (.var 0) (.cons (.neg (.con "MOST" (1000000000000000000000000000000000000000000000000000000000000))) (.cons (.con "MOST" (1000000000000000000000000000000000000000000000000000000000000)) (.nil))))))) (.cons (.rai 1) (.nil)) (.nil)) (.cons (.ife (.not (.val (.call 55 (.cons (.var 1) (.cons (.neg (.con "MOST" (1000000000000000000000000000000000000000000000000000000000000))) (.cons (.con "MOST" (1000000000000000000000000000000000000000000000000000000000000)) (.nil))))))) (.cons (.rai 1) (.nil)) (.nil)) (.nil))
def N_is_number : List Str := ["value", "low", "high"]
def ir_is_number : Ss := .cons (.exp (.call 56 (.cons (.var 1) (.cons (.var 2) (.nil))))) (.cons (.ret (.call 55 (.cons (.var 0) (.cons (.var 1) (.cons (.var 2) (.nil)))))) (.nil))
def N_check_number : List Str := ["value", "low", "high"]
def ir_check_number : Ss := .cons (.ife (.not (.val (.call 57 (.cons (.var 0) (.cons (.var 1) (.cons (.var 2) (.nil))))))) (.cons (.rai 1) (.nil)) (.nil)) (.nil)
def N_is_colour : List Str := ["value", "entry"]
def ir_is_colour : Ss := .cons (.ife (.or (.not (.val (.isi (.var 0) [.tuple]))) (.cmp .ne (.leno 0) (.int 3))) (.cons (.ret (.bl false)) (.nil)) (.nil)) (.cons (.ret (.bif .all (.lc (.seq (.var 0)) (.name 1) (.yes) (.and (.call 52 (.cons (.var 1) (.nil))) (.chain .le .le (.int 0) (.var 1) (.int 1000))) [1]))) (.nil))
def N_has_colours : List Str := ["many", "value", "colour"]
def ir_has_colours : Ss := .cons (.ife (.or (.not (.val (.isi (.var 1) [.list]))) (.cmp .ne (.leno 1) (.var 0))) (.cons (.ret (.bl false)) (.nil)) (.nil)) (.cons (.ret (.bif .all (.lc (.seq (.var 1)) (.name 2) (.yes) (.call 59 (.cons (.var 2) (.nil))) [2]))) (.nil))
def N_check_colours : List Str := ["many", "value"]
def ir_check_colours : Ss := .cons (.ife (.not (.val (.call 60 (.cons (.var 0) (.cons (.var 1) (.nil)))))) (.cons (.rai 6) (.nil)) (.nil)) (.nil)
def N_check_wish : List Str := ["value"]
def ir_check_wish : Ss := .cons (.ife (.not (.val (.call 59 (.cons (.var 0) (.nil))))) (.cons (.rai 6) (.nil)) (.nil)) (.nil)
def N_blend : List Str := ["weights", "colours", "triple", "weight", "colour", "at"]
def ir_blend : Ss := .cons (.set 2 (.lst (.cons (.int 0) (.cons (.int 0) (.cons (.int 0) (.nil)))))) (.cons (.for (.tup (.cons (.name 3) (.cons (.name 4) (.nil)))) (.zip (.var 0) (.var 1)) (.cons (.for (.name 5) (.rng1 (.int 3)) (.cons (.aix 2 (.var 5) .add (.bin .mul (.var 3) (.ixo 4 (.var 5)))) (.nil))) (.nil))) (.cons (.ret (.bif .tuple (.var 2))) (.nil)))
def N_total_of : List Str := ["indices", "total", "index"]
def ir_total_of : Ss := .cons (.set 1 (.int 1)) (.cons (.for (.name 2) (.seq (.var 0)) (.cons (.aug 1 .mul (.var 2)) (.nil))) (.cons (.ret (.var 1)) (.nil)))
def N_products : List Str := ["indices", "tones", "found", "index", "tone", "part"]
def ir_products : Ss := .cons (.set 2 (.lst (.cons (.int 1) (.nil)))) (.cons (.for (.tup (.cons (.name 3) (.cons (.name 4) (.nil)))) (.zip (.var 0) (.var 1)) (.cons (.set 2 (.bin .add (.lc (.seq (.var 2)) (.name 5) (.yes) (.bin .mul (.var 5) (.bin .sub (.var 3) (.var 4))) [5]) (.lc (.seq (.var 2)) (.name 5) (.yes) (.bin .mul (.var 5) (.var 4)) [5]))) (.nil))) (.cons (.ret (.var 2)) (.nil)))
def N_gaps : List Str := ["indices", "tones", "colours", "wish", "triple", "total", "entry", "wished"]
def ir_gaps : Ss := .cons (.set 4 (.call 63 (.cons (.call 65 (.cons (.var 0) (.cons (.var 1) (.nil)))) (.cons (.var 2) (.nil))))) (.cons (.set 5 (.call 64 (.cons (.var 0) (.nil)))) (.cons (.ret (.lc (.zip (.var 4) (.var 3)) (.tup (.cons (.name 6) (.cons (.name 7) (.nil)))) (.yes) (.bin .sub (.var 6) (.bin .mul (.var 5) (.var 7))) [6, 7])) (.nil)))
def N_check_screen : List Str := ["value"]
def ir_check_screen : Ss := .cons (.ife (.not (.val (.call 48 (.cons (.var 0) (.nil))))) (.cons (.rai 4) (.nil)) (.nil)) (.nil)
def N_diagonal_of : List Str := ["basis", "place", "row"]
def ir_diagonal_of : Ss := .cons (.ret (.lc (.enum (.var 0)) (.tup (.cons (.name 1) (.cons (.name 2) (.nil)))) (.yes) (.ixo 2 (.var 1)) [1, 2])) (.nil)
def N_index_of : List Str := ["screen", "index", "size"]
def ir_index_of : Ss := .cons (.exp (.call 67 (.cons (.var 0) (.nil)))) (.cons (.set 1 (.int 1)) (.cons (.for (.name 2) (.seq (.call 68 (.cons (.var 0) (.nil)))) (.cons (.set 1 (.bin .mul (.var 1) (.var 2))) (.nil))) (.cons (.ret (.var 1)) (.nil))))
def N_best_tone : List Str := ["screens", "tones", "place", "colours", "wish", "indices", "screen", "at_zero", "at_one", "steps", "low", "high", "square", "step", "slope", "nearest"]
def ir_best_tone : Ss := .cons (.exp (.call 51 (.cons (.var 0) (.nil)))) (.cons (.set 5 (.lc (.seq (.var 0)) (.name 6) (.yes) (.call 69 (.cons (.var 6) (.nil))) [6])) (.cons (.exp (.call 54 (.cons (.var 5) (.cons (.var 1) (.nil))))) (.cons (.exp (.call 58 (.cons (.var 2) (.cons (.int 0) (.cons (.bin .sub (.leno 0) (.int 1)) (.nil)))))) (.cons (.exp (.call 61 (.cons (.bin .shl (.int 1) (.leno 0)) (.cons (.var 3) (.nil))))) (.cons (.exp (.call 62 (.cons (.var 4) (.nil)))) (.cons (.set 7 (.call 66 (.cons (.var 5) (.cons (.bin .add (.bin .add (.slTo (.var 1) (.var 2)) (.lst (.cons (.int 0) (.nil)))) (.slFrom (.var 1) (.bin .add (.var 2) (.int 1)))) (.cons (.var 3) (.cons (.var 4) (.nil))))))) (.cons (.set 8 (.call 66 (.cons (.var 5) (.cons (.bin .add (.bin .add (.slTo (.var 1) (.var 2)) (.lst (.cons (.int 1) (.nil)))) (.slFrom (.var 1) (.bin .add (.var 2) (.int 1)))) (.cons (.var 3) (.cons (.var 4) (.nil))))))) (.cons (.set 9 (.lc (.zip (.var 7) (.var 8)) (.tup (.cons (.name 10) (.cons (.name 11) (.nil)))) (.yes) (.bin .sub (.var 11) (.var 10)) [10, 11])) (.cons (.set 12 (.bif .sum (.lc (.seq (.var 9)) (.name 13) (.yes) (.bin .mul (.var 13) (.var 13)) [13]))) (.cons (.ife (.cmp .eq (.var 12) (.int 0)) (.cons (.ret (.int 0)) (.nil)) (.nil)) (.cons (.set 14 (.bif .sum (.lc (.zip (.var 7) (.var 9)) (.tup (.cons (.name 10) (.cons (.name 13) (.nil)))) (.yes) (.bin .mul (.var 10) (.var 13)) [10, 13]))) (.cons (.set 15 (.neg (.bin .fdiv (.bin .add (.bin .mul (.int 2) (.var 14)) (.var 12)) (.bin .mul (.int 2) (.var 12))))) (.cons (.ret (.bjf .max2 (.int 0) (.bjf .min2 (.ixo 5 (.var 2)) (.var 15)))) (.nil))))))))))))))
def N_squared : List Str := ["indices", "tones", "colours", "wish", "gap"]
def ir_squared : Ss := .cons (.ret (.bif .sum (.lc (.seq (.call 66 (.cons (.var 0) (.cons (.var 1) (.cons (.var 2) (.cons (.var 3) (.nil))))))) (.name 4) (.yes) (.bin .mul (.var 4) (.var 4)) [4]))) (.nil)
def N_distance : List Str := ["screens", "tones", "colours", "wish", "indices", "screen"]
def ir_distance : Ss := .cons (.exp (.call 51 (.cons (.var 0) (.nil)))) (.cons (.set 4 (.lc (.seq (.var 0)) (.name 5) (.yes) (.call 69 (.cons (.var 5) (.nil))) [5])) (.cons (.exp (.call 54 (.cons (.var 4) (.cons (.var 1) (.nil))))) (.cons (.exp (.call 61 (.cons (.bin .shl (.int 1) (.leno 0)) (.cons (.var 2) (.nil))))) (.cons (.exp (.call 62 (.cons (.var 3) (.nil)))) (.cons (.ret (.call 71 (.cons (.var 4) (.cons (.var 1) (.cons (.var 2) (.cons (.var 3) (.nil))))))) (.nil))))))
def N_law_refused : List Str := ["which", "screens", "tones", "place", "colours", "wish", "e", "another"]
def ir_law_refused : Ss := .cons (.tri (.cons (.ife (.cmp .eq (.var 0) (.int 0)) (.cons (.exp (.call 70 (.cons (.var 1) (.cons (.var 2) (.cons (.var 3) (.cons (.var 4) (.cons (.var 5) (.nil)))))))) (.nil)) (.cons (.exp (.call 72 (.cons (.var 1) (.cons (.var 2) (.cons (.var 4) (.cons (.var 5) (.nil))))))) (.nil))) (.cons (.ret (.lst (.nil))) (.nil))) 0 6 (.cons (.set 7 (.excIs [2, 3, 4, 7, 8] true)) (.cons (.ret (.bin .add (.lst (.cons (.excIs [5] false) (.cons (.excIs [1] false) (.cons (.excIs [6] false) (.cons (.var 7) (.nil)))))) (.lst (.cons (.excIs [9] false) (.nil))))) (.nil)))) (.nil)
def N_law_refusals_hold : List Str := ["store", "screens", "tones", "place", "colours", "wish", "flags", "stacks", "over", "which", "odd", "part"]
def ir_law_refusals_hold : Ss := .cons (.set 6 (.lst (.cons (.lst (.cons (.bl true) (.cons (.bl false) (.cons (.bl false) (.cons (.bl false) (.cons (.bl true) (.nil))))))) (.cons (.lst (.cons (.bl false) (.cons (.bl true) (.cons (.bl false) (.cons (.bl false) (.cons (.bl true) (.nil))))))) (.cons (.lst (.cons (.bl false) (.cons (.bl false) (.cons (.bl true) (.cons (.bl false) (.cons (.bl true) (.nil))))))) (.nil)))))) (.cons (.set 7 (.call 38 (.own 0 (.cons (.var 1) (.nil))))) (.cons (.set 8 (.call 31 (.cons (.var 2) (.cons (.var 3) (.cons (.bin .add (.call 10 (.cons (.ixo 1 (.var 3)) (.nil))) (.int 1)) (.nil)))))) (.cons (.for (.name 9) (.rng1 (.int 2)) (.cons (.for (.name 10) (.seq (.var 7)) (.cons (.set 11 (.call 28 (.cons (.var 10) (.nil)))) (.cons (.ife (.cmp .ne (.call 73 (.cons (.var 9) (.cons (.var 11) (.cons (.call 28 (.cons (.var 2) (.nil))) (.cons (.var 3) (.cons (.var 4) (.cons (.var 5) (.nil)))))))) (.ixo 6 (.int 0))) (.cons (.ret (.bl false)) (.nil)) (.nil)) (.nil)))) (.cons (.for (.name 10) (.seq (.bin .add (.call 43 (.own 0 (.cons (.var 1) (.cons (.var 2) (.nil))))) (.lst (.cons (.var 8) (.nil))))) (.cons (.ife (.cmp .ne (.call 73 (.cons (.var 9) (.cons (.var 1) (.cons (.var 10) (.cons (.var 3) (.cons (.var 4) (.cons (.var 5) (.nil)))))))) (.ixo 6 (.int 1))) (.cons (.ret (.bl false)) (.nil)) (.nil)) (.nil))) (.cons (.for (.name 10) (.seq (.call 42 (.own 0 (.cons (.var 4) (.nil))))) (.cons (.ife (.cmp .ne (.call 73 (.cons (.var 9) (.cons (.var 1) (.cons (.var 2) (.cons (.var 3) (.cons (.call 28 (.cons (.var 10) (.nil))) (.cons (.var 5) (.nil)))))))) (.ixo 6 (.int 2))) (.cons (.ret (.bl false)) (.nil)) (.nil)) (.nil))) (.cons (.for (.name 10) (.seq (.call 41 (.own 0 (.cons (.var 5) (.nil))))) (.cons (.ife (.cmp .ne (.call 73 (.cons (.var 9) (.cons (.var 1) (.cons (.var 2) (.cons (.var 3) (.cons (.var 4) (.cons (.var 10) (.nil)))))))) (.ixo 6 (.int 2))) (.cons (.ret (.bl false)) (.nil)) (.nil)) (.nil))) (.cons (.ife (.cmp .ne (.call 73 (.cons (.var 9) (.cons (.lst (.nil)) (.cons (.var 8) (.cons (.bin .sub (.int 0) (.int 1)) (.cons (.lst (.nil)) (.cons (.tup (.nil)) (.nil)))))))) (.ixo 6 (.int 0))) (.cons (.ret (.bl false)) (.nil)) (.nil)) (.cons (.ife (.cmp .ne (.call 73 (.cons (.var 9) (.cons (.var 1) (.cons (.var 8) (.cons (.var 3) (.cons (.lst (.nil)) (.cons (.tup (.nil)) (.nil)))))))) (.ixo 6 (.int 1))) (.cons (.ret (.bl false)) (.nil)) (.nil)) (.nil)))))))) (.cons (.for (.name 10) (.seq (.call 40 (.cons (.int 0) (.cons (.bin .sub (.leno 1) (.int 1)) (.nil))))) (.cons (.ife (.cmp .ne (.call 73 (.cons (.int 0) (.cons (.var 1) (.cons (.var 2) (.cons (.var 10) (.cons (.var 4) (.cons (.var 5) (.nil)))))))) (.ixo 6 (.int 1))) (.cons (.ret (.bl false)) (.nil)) (.nil)) (.cons (.ife (.cmp .ne (.call 73 (.cons (.int 0) (.cons (.var 1) (.cons (.var 2) (.cons (.var 10) (.cons (.lst (.nil)) (.cons (.tup (.nil)) (.nil)))))))) (.ixo 6 (.int 1))) (.cons (.ret (.bl false)) (.nil)) (.nil)) (.nil)))) (.cons (.ret (.bl true)) (.nil))))))
def N_law_equal : List Str := ["one", "two", "left", "a", "b", "k"]
def ir_law_equal : Ss := .cons (.set 2 (.lst (.cons (.tup (.cons (.var 0) (.cons (.var 1) (.nil)))) (.nil)))) (.cons (.whi (.tro 2) (.cons (.unp (.tup (.cons (.name 3) (.cons (.name 4) (.nil)))) (.pop 2)) (.cons (.ife (.val (.isi (.var 4) [.list, .tuple])) (.cons (.ife (.or (.cmp .ne (.isi (.var 3) [.list]) (.isi (.var 4) [.list])) (.or (.not (.val (.isi (.var 3) [.list, .tuple]))) (.cmp .ne (.leno 3) (.leno 4)))) (.cons (.ret (.bl false)) (.nil)) (.nil)) (.cons (.ext 2 (.lc (.rng1 (.leno 4)) (.name 5) (.yes) (.tup (.cons (.ixo 3 (.var 5)) (.cons (.ixo 4 (.var 5)) (.nil)))) [5])) (.nil))) (.cons (.ife (.or (.not (.or (.cmp .is (.var 3) (.non)) (.val (.isi (.var 3) [.int, .str])))) (.cmp .ne (.bif .repr (.var 3)) (.bif .repr (.var 4)))) (.cons (.ret (.bl false)) (.nil)) (.nil)) (.nil))) (.nil)))) (.cons (.ret (.bl true)) (.nil)))
def N_law_far : List Str := ["screens", "tones", "colours", "wish", "weights", "total", "i", "whole", "top", "found", "c", "part", "n"]
def ir_law_far : Ss := .cons (.set 4 (.lst (.cons (.int 1) (.nil)))) (.cons (.set 5 (.int 1)) (.cons (.for (.name 6) (.rng1 (.leno 0)) (.cons (.set 7 (.call 10 (.cons (.ixo 0 (.var 6)) (.nil)))) (.cons (.set 4 (.bin .add (.lc (.seq (.var 4)) (.name 8) (.yes) (.bin .mul (.var 8) (.bin .sub (.var 7) (.ixo 1 (.var 6)))) [8]) (.lc (.seq (.var 4)) (.name 8) (.yes) (.bin .mul (.var 8) (.ixo 1 (.var 6))) [8]))) (.cons (.set 5 (.bin .mul (.var 5) (.var 7))) (.nil))))) (.cons (.set 9 (.int 0)) (.cons (.for (.name 10) (.rng1 (.int 3)) (.cons (.set 11 (.bin .sub (.bif .sum (.lc (.rng1 (.leno 4)) (.name 12) (.yes) (.bin .mul (.ixo 4 (.var 12)) (.ix (.ixo 2 (.var 12)) (.var 10))) [12])) (.bin .mul (.var 5) (.ixo 3 (.var 10))))) (.cons (.set 9 (.bin .add (.var 9) (.bin .mul (.var 11) (.var 11)))) (.nil)))) (.cons (.ret (.var 9)) (.nil))))))
def N_law_is_best : List Str := ["screens", "tones", "place", "colours", "wish", "told", "whole", "every", "tone", "near"]
def ir_law_is_best : Ss := .cons (.set 6 (.call 10 (.cons (.ixo 0 (.var 2)) (.nil)))) (.cons (.ife (.or (.not (.val (.call 33 (.cons (.var 5) (.nil))))) (.not (.chain .le .le (.int 0) (.var 5) (.var 6)))) (.cons (.ret (.bl false)) (.nil)) (.nil)) (.cons (.ife (.cmp .le (.var 6) (.int 24)) (.cons (.set 7 (.lc (.rng1 (.bin .add (.var 6) (.int 1))) (.name 8) (.yes) (.call 76 (.cons (.var 0) (.cons (.call 31 (.cons (.var 1) (.cons (.var 2) (.cons (.var 8) (.nil))))) (.cons (.var 3) (.cons (.var 4) (.nil)))))) [8])) (.cons (.ret (.cmp .eq (.idx 7 (.bif .min1 (.var 7))) (.var 5))) (.nil))) (.nil)) (.cons (.set 9 (.call 76 (.cons (.var 0) (.cons (.call 31 (.cons (.var 1) (.cons (.var 2) (.cons (.var 5) (.nil))))) (.cons (.var 3) (.cons (.var 4) (.nil))))))) (.cons (.ife (.and (.cmp .lt (.var 5) (.var 6)) (.cmp .lt (.call 76 (.cons (.var 0) (.cons (.call 31 (.cons (.var 1) (.cons (.var 2) (.cons (.bin .add (.var 5) (.int 1)) (.nil))))) (.cons (.var 3) (.cons (.var 4) (.nil)))))) (.var 9))) (.cons (.ret (.bl false)) (.nil)) (.nil)) (.cons (.ret (.or (.cmp .eq (.var 5) (.int 0)) (.cmp .gt (.call 76 (.cons (.var 0) (.cons (.call 31 (.cons (.var 1) (.cons (.var 2) (.cons (.bin .sub (.var 5) (.int 1)) (.nil))))) (.cons (.var 3) (.cons (.var 4) (.nil)))))) (.var 9)))) (.nil))))))
def N_law : List Str := ["script", "store", "screens", "tones", "colours", "wish", "at", "half", "c", "n", "kept", "place", "told", "other"]
def ir_law : Ss := .cons (.set 2 (.call 13 (.own 1 (.cons (.bin .add (.int 1) (.call 3 (.own 1 (.cons (.int 3) (.nil))))) (.nil))))) (.cons (.set 3 (.call 14 (.own 1 (.cons (.var 2) (.nil))))) (.cons (.set 4 (.call 17 (.own 1 (.cons (.leno 2) (.nil))))) (.cons (.set 5 (.call 16 (.own 1 (.nil)))) (.cons (.set 6 (.call 3 (.own 1 (.cons (.leno 2) (.nil))))) (.cons (.ife (.cmp .eq (.call 3 (.own 1 (.cons (.int 5) (.nil)))) (.int 0)) (.cons (.set 7 (.ix (.lst (.cons (.int 1) (.cons (.int 2) (.cons (.int 4) (.cons (.int 8) (.cons (.int 16) (.cons (.int 32) (.nil)))))))) (.var 6))) (.cons (.set 4 (.lc (.rng1 (.leno 4)) (.name 9) (.yes) (.bif .tuple (.lc (.rng1 (.int 3)) (.name 8) (.yes) (.bin .mul (.bin .mod (.bif .int (.bin .fdiv (.var 9) (.var 7))) (.int 2)) (.int 1000)) [8])) [9])) (.cons (.set 5 (.tup (.cons (.int 500) (.cons (.int 500) (.cons (.int 500) (.nil)))))) (.nil)))) (.nil)) (.cons (.set 10 (.call 28 (.cons (.lst (.cons (.var 2) (.cons (.var 3) (.cons (.var 4) (.nil))))) (.nil)))) (.cons (.for (.name 11) (.rng1 (.leno 2)) (.cons (.set 12 (.call 70 (.cons (.var 2) (.cons (.var 3) (.cons (.var 11) (.cons (.var 4) (.cons (.var 5) (.nil)))))))) (.cons (.ife (.not (.val (.call 77 (.cons (.ixo 10 (.int 0)) (.cons (.ixo 10 (.int 1)) (.cons (.var 11) (.cons (.ixo 10 (.int 2)) (.cons (.var 5) (.cons (.var 12) (.nil)))))))))) (.cons (.ret (.bl false)) (.nil)) (.nil)) (.cons (.set 13 (.call 31 (.cons (.var 3) (.cons (.var 11) (.cons (.call 3 (.own 1 (.cons (.bin .add (.call 10 (.cons (.ixo 2 (.var 11)) (.nil))) (.int 1)) (.nil)))) (.nil)))))) (.cons (.ife (.not (.val (.call 75 (.cons (.call 70 (.cons (.var 2) (.cons (.var 13) (.cons (.var 11) (.cons (.var 4) (.cons (.var 5) (.nil))))))) (.cons (.var 12) (.nil)))))) (.cons (.ret (.bl false)) (.nil)) (.nil)) (.cons (.ife (.not (.val (.call 75 (.cons (.call 72 (.cons (.var 2) (.cons (.var 13) (.cons (.var 4) (.cons (.var 5) (.nil)))))) (.cons (.call 76 (.cons (.ixo 10 (.int 0)) (.cons (.var 13) (.cons (.ixo 10 (.int 2)) (.cons (.var 5) (.nil)))))) (.nil)))))) (.cons (.ret (.bl false)) (.nil)) (.nil)) (.nil))))))) (.cons (.ife (.not (.val (.call 75 (.cons (.lst (.cons (.var 2) (.cons (.var 3) (.cons (.var 4) (.nil))))) (.cons (.var 10) (.nil)))))) (.cons (.ret (.bl false)) (.nil)) (.nil)) (.cons (.ret (.call 74 (.own 1 (.cons (.var 2) (.cons (.var 3) (.cons (.var 6) (.cons (.var 4) (.cons (.var 5) (.nil))))))))) (.nil))))))))))
def row0 : Row := ⟨"_law_mixed", 2, 1, N_law_mixed, ["state", "turn"], [], ir_law_mixed, []⟩
def row1 : Row := ⟨"_law_wide", 3, 2, N_law_wide, ["state", "turn", "many"], [], ir_law_wide, []⟩
def row2 : Row := ⟨"_law_move", 1, 2, N_law_move, ["store"], [0], ir_law_move, []⟩
def row3 : Row := ⟨"_law_take", 2, 3, N_law_take, ["store", "many"], [0], ir_law_take, []⟩
def row4 : Row := ⟨"_law_rare", 2, 4, N_law_rare, ["store", "many"], [0], ir_law_rare, []⟩
def row5 : Row := ⟨"_law_order", 2, 4, N_law_order, ["store", "many"], [0], ir_law_order, []⟩
def row6 : Row := ⟨"_law_filled", 3, 4, N_law_filled, ["store", "sizes", "free"], [0], ir_law_filled, []⟩
def row7 : Row := ⟨"_law_from", 3, 4, N_law_from, ["store", "low", "high"], [0], ir_law_from, []⟩
def row8 : Row := ⟨"_law_count", 2, 5, N_law_count, ["store", "most"], [0], ir_law_count, []⟩
def row9 : Row := ⟨"_law_great_screen", 3, 6, N_law_great_screen, ["store", "directions", "most"], [0], ir_law_great_screen, []⟩
def row10 : Row := ⟨"_law_index_of", 1, 1, N_law_index_of, ["screen"], [], ir_law_index_of, []⟩
def row11 : Row := ⟨"_law_great_stack", 3, 7, N_law_great_stack, ["store", "directions", "many"], [0], ir_law_great_stack, []⟩
def row12 : Row := ⟨"_law_pick", 2, 4, N_law_pick, ["store", "things"], [0], ir_law_pick, []⟩
def row13 : Row := ⟨"_law_drawn_stack", 2, 8, N_law_drawn_stack, ["store", "directions"], [0], ir_law_drawn_stack, []⟩
def row14 : Row := ⟨"_law_tones", 2, 4, N_law_tones, ["store", "screens"], [0], ir_law_tones, []⟩
def row15 : Row := ⟨"_law_power", 2, 1, N_law_power, ["number", "many"], [], ir_law_power, []⟩
def row16 : Row := ⟨"_law_colour", 1, 5, N_law_colour, ["store"], [0], ir_law_colour, []⟩
def row17 : Row := ⟨"_law_colours", 2, 6, N_law_colours, ["store", "inks"], [0], ir_law_colours, []⟩
def row18 : Row := ⟨"_law_copy", 2, 0, N_law_copy, ["part", "deep"], [], (ir_law_copy 0), []⟩
def row19 : Row := ⟨"_law_copy", 2, 1, N_law_copy, ["part", "deep"], [], (ir_law_copy 18), []⟩
def row20 : Row := ⟨"_law_copy", 2, 2, N_law_copy, ["part", "deep"], [], (ir_law_copy 19), []⟩
def row21 : Row := ⟨"_law_copy", 2, 3, N_law_copy, ["part", "deep"], [], (ir_law_copy 20), []⟩
def row22 : Row := ⟨"_law_copy", 2, 4, N_law_copy, ["part", "deep"], [], (ir_law_copy 21), []⟩
def row23 : Row := ⟨"_law_copy", 2, 5, N_law_copy, ["part", "deep"], [], (ir_law_copy 22), []⟩
def row24 : Row := ⟨"_law_copy", 2, 6, N_law_copy, ["part", "deep"], [], (ir_law_copy 23), []⟩
def row25 : Row := ⟨"_law_copy", 2, 7, N_law_copy, ["part", "deep"], [], (ir_law_copy 24), []⟩
def row26 : Row := ⟨"_law_copy", 2, 8, N_law_copy, ["part", "deep"], [], (ir_law_copy 25), []⟩
def row27 : Row := ⟨"_law_copy", 2, 9, N_law_copy, ["part", "deep"], [], (ir_law_copy 26), []⟩
def row28 : Row := ⟨"_law_copy", 1, 9, N_law_copy, ["part", "deep"], [], (ir_law_copy 26), [8]⟩
def row29 : Row := ⟨"_law_unit_cell", 2, 1, N_law_unit_cell, ["directions", "j"], [], ir_law_unit_cell, []⟩
def row30 : Row := ⟨"_law_unit", 1, 2, N_law_unit, ["directions"], [], ir_law_unit, []⟩
def row31 : Row := ⟨"_law_with", 3, 1, N_law_with, ["things", "place", "part"], [], ir_law_with, []⟩
def row32 : Row := ⟨"_law_box_basis", 1, 2, N_law_box_basis, ["sizes"], [], ir_law_box_basis, []⟩
def row33 : Row := ⟨"_law_is_number", 1, 1, N_law_is_number, ["part"], [], ir_law_is_number, []⟩
def row34 : Row := ⟨"_law_bent", 2, 5, N_law_bent, ["store", "thing"], [0], ir_law_bent, []⟩
def row35 : Row := ⟨"_law_entry", 4, 2, N_law_entry, ["screen", "i", "j", "part"], [], ir_law_entry, []⟩
def row36 : Row := ⟨"_law_bad_screens", 2, 6, N_law_bad_screens, ["store", "screen"], [0], ir_law_bad_screens, []⟩
def row37 : Row := ⟨"_law_bad_catalogs", 2, 7, N_law_bad_catalogs, ["store", "screens"], [0], ir_law_bad_catalogs, []⟩
def row38 : Row := ⟨"_law_bad_stacks", 2, 8, N_law_bad_stacks, ["store", "screens"], [0], ir_law_bad_stacks, []⟩
def row39 : Row := ⟨"_law_no_numbers", 0, 1, N_law_no_numbers, [], [], ir_law_no_numbers, []⟩
def row40 : Row := ⟨"_law_bad_numbers", 2, 2, N_law_bad_numbers, ["low", "high"], [], ir_law_bad_numbers, []⟩
def row41 : Row := ⟨"_law_bad_colour", 2, 6, N_law_bad_colour, ["store", "colour"], [0], ir_law_bad_colour, []⟩
def row42 : Row := ⟨"_law_bad_colours", 2, 7, N_law_bad_colours, ["store", "colours"], [0], ir_law_bad_colours, []⟩
def row43 : Row := ⟨"_law_bad_tones", 3, 6, N_law_bad_tones, ["store", "screens", "tones"], [0], ir_law_bad_tones, []⟩
def row44 : Row := ⟨"index_bounded", 1, 1, N_index_bounded, ["screens"], [], ir_index_bounded, []⟩
def row45 : Row := ⟨"is_whole_checks", 1, 1, N_is_whole_checks, ["value"], [], ir_is_whole_checks, []⟩
def row46 : Row := ⟨"is_square", 1, 2, N_is_square, ["value"], [], ir_is_square, []⟩
def row47 : Row := ⟨"is_basis_row", 2, 1, N_is_basis_row, ["square", "i"], [], ir_is_basis_row, []⟩
def row48 : Row := ⟨"is_screen", 1, 3, N_is_screen, ["value"], [], ir_is_screen, []⟩
def row49 : Row := ⟨"is_catalog", 1, 4, N_is_catalog, ["value"], [], ir_is_catalog, []⟩
def row50 : Row := ⟨"is_stack", 1, 5, N_is_stack, ["value"], [], ir_is_stack, []⟩
def row51 : Row := ⟨"check_stack", 1, 6, N_check_stack, ["value"], [], ir_check_stack, []⟩
def row52 : Row := ⟨"is_whole_tints", 1, 1, N_is_whole_tints, ["value"], [], ir_is_whole_tints, []⟩
def row53 : Row := ⟨"has_tones", 2, 2, N_has_tones, ["indices", "value"], [], ir_has_tones, []⟩
def row54 : Row := ⟨"check_tones", 2, 3, N_check_tones, ["indices", "value"], [], ir_check_tones, []⟩
def row55 : Row := ⟨"is_within", 3, 2, N_is_within, ["value", "low", "high"], [], ir_is_within, []⟩
def row56 : Row := ⟨"check_bounds", 2, 3, N_check_bounds, ["low", "high"], [], ir_check_bounds, []⟩
def row57 : Row := ⟨"is_number", 3, 4, N_is_number, ["value", "low", "high"], [], ir_is_number, []⟩
def row58 : Row := ⟨"check_number", 3, 5, N_check_number, ["value", "low", "high"], [], ir_check_number, []⟩
def row59 : Row := ⟨"is_colour", 1, 2, N_is_colour, ["value"], [], ir_is_colour, []⟩
def row60 : Row := ⟨"has_colours", 2, 3, N_has_colours, ["many", "value"], [], ir_has_colours, []⟩
def row61 : Row := ⟨"check_colours", 2, 4, N_check_colours, ["many", "value"], [], ir_check_colours, []⟩
def row62 : Row := ⟨"check_wish", 1, 3, N_check_wish, ["value"], [], ir_check_wish, []⟩
def row63 : Row := ⟨"blend", 2, 1, N_blend, ["weights", "colours"], [], ir_blend, []⟩
def row64 : Row := ⟨"total_of", 1, 1, N_total_of, ["indices"], [], ir_total_of, []⟩
def row65 : Row := ⟨"products", 2, 1, N_products, ["indices", "tones"], [], ir_products, []⟩
def row66 : Row := ⟨"gaps", 4, 2, N_gaps, ["indices", "tones", "colours", "wish"], [], ir_gaps, []⟩
def row67 : Row := ⟨"check_screen", 1, 4, N_check_screen, ["value"], [], ir_check_screen, []⟩
def row68 : Row := ⟨"diagonal_of", 1, 1, N_diagonal_of, ["basis"], [], ir_diagonal_of, []⟩
def row69 : Row := ⟨"index_of", 1, 5, N_index_of, ["screen"], [], ir_index_of, []⟩
def row70 : Row := ⟨"best_tone", 5, 7, N_best_tone, ["screens", "tones", "place", "colours", "wish"], [], ir_best_tone, []⟩
def row71 : Row := ⟨"squared", 4, 3, N_squared, ["indices", "tones", "colours", "wish"], [], ir_squared, []⟩
def row72 : Row := ⟨"distance", 4, 7, N_distance, ["screens", "tones", "colours", "wish"], [], ir_distance, []⟩
def row73 : Row := ⟨"_law_refused", 6, 8, N_law_refused, ["which", "screens", "tones", "place", "colours", "wish"], [], ir_law_refused, []⟩
def row74 : Row := ⟨"_law_refusals_hold", 6, 10, N_law_refusals_hold, ["store", "screens", "tones", "place", "colours", "wish"], [0], ir_law_refusals_hold, []⟩
def row75 : Row := ⟨"_law_equal", 2, 1, N_law_equal, ["one", "two"], [], ir_law_equal, []⟩
def row76 : Row := ⟨"_law_far", 4, 2, N_law_far, ["screens", "tones", "colours", "wish"], [], ir_law_far, []⟩
def row77 : Row := ⟨"_law_is_best", 6, 3, N_law_is_best, ["screens", "tones", "place", "colours", "wish", "told"], [], ir_law_is_best, []⟩
def rowLaw : Row := ⟨"law", 1, 11, N_law, ["script"], [], ir_law, []⟩
def inits : List Int := [0, 0, 0, 7, 0]
def rows : List Row := [row0, row1, row2, row3, row4, row5, row6, row7, row8, row9, row10, row11, row12, row13, row14, row15, row16, row17, row18, row19, row20, row21, row22, row23, row24, row25, row26, row27, row28, row29, row30, row31, row32, row33, row34, row35, row36, row37, row38, row39, row40, row41, row42, row43, row44, row45, row46, row47, row48, row49, row50, row51, row52, row53, row54, row55, row56, row57, row58, row59, row60, row61, row62, row63, row64, row65, row66, row67, row68, row69, row70, row71, row72, row73, row74, row75, row76, row77]
def env : Env1 := ⟨["ShiftError", "BadNumber", "BadCell", "BadRows", "BadScreen", "BadStack", "BadColours", "TooBig", "TooLong"], [("MOST", 1000000000000000000000000000000000000000000000000000000000000)]⟩
end K78
end
section
set_option Elab.async false
set_option linter.all false
set_option maxRecDepth 100000
set_option maxHeartbeats 0
/-! K78: the head: the top runs, and leaves the defs (printed by gen.py). -/
namespace K78
open PySem PySem.Spec PyProof.Rows L2 DV
def d_law_mixed : He.DefD := ⟨("_law_mixed", none), "_law_mixed", "_law_mixed", defArgs (top 47), defBody (top 47), defScope (top 47), [], []⟩
def d_law_wide : He.DefD := ⟨("_law_wide", none), "_law_wide", "_law_wide", defArgs (top 48), defBody (top 48), defScope (top 48), [], []⟩
def d_law_move : He.DefD := ⟨("_law_move", none), "_law_move", "_law_move", defArgs (top 49), defBody (top 49), defScope (top 49), [], []⟩
def d_law_take : He.DefD := ⟨("_law_take", none), "_law_take", "_law_take", defArgs (top 50), defBody (top 50), defScope (top 50), [], []⟩
def d_law_rare : He.DefD := ⟨("_law_rare", none), "_law_rare", "_law_rare", defArgs (top 53), defBody (top 53), defScope (top 53), [], []⟩
def d_law_order : He.DefD := ⟨("_law_order", none), "_law_order", "_law_order", defArgs (top 55), defBody (top 55), defScope (top 55), [], []⟩
def d_law_filled : He.DefD := ⟨("_law_filled", none), "_law_filled", "_law_filled", defArgs (top 65), defBody (top 65), defScope (top 65), [], []⟩
def d_law_from : He.DefD := ⟨("_law_from", none), "_law_from", "_law_from", defArgs (top 51), defBody (top 51), defScope (top 51), [], []⟩
def d_law_count : He.DefD := ⟨("_law_count", none), "_law_count", "_law_count", defArgs (top 54), defBody (top 54), defScope (top 54), [], []⟩
def d_law_great_screen : He.DefD := ⟨("_law_great_screen", none), "_law_great_screen", "_law_great_screen", defArgs (top 66), defBody (top 66), defScope (top 66), [], []⟩
def d_law_index_of : He.DefD := ⟨("_law_index_of", none), "_law_index_of", "_law_index_of", defArgs (top 64), defBody (top 64), defScope (top 64), [], []⟩
def d_law_great_stack : He.DefD := ⟨("_law_great_stack", none), "_law_great_stack", "_law_great_stack", defArgs (top 68), defBody (top 68), defScope (top 68), [], []⟩
def d_law_pick : He.DefD := ⟨("_law_pick", none), "_law_pick", "_law_pick", defArgs (top 52), defBody (top 52), defScope (top 52), [], []⟩
def d_law_drawn_stack : He.DefD := ⟨("_law_drawn_stack", none), "_law_drawn_stack", "_law_drawn_stack", defArgs (top 80), defBody (top 80), defScope (top 80), [], []⟩
def d_law_tones : He.DefD := ⟨("_law_tones", none), "_law_tones", "_law_tones", defArgs (top 71), defBody (top 71), defScope (top 71), [], []⟩
def d_law_power : He.DefD := ⟨("_law_power", none), "_law_power", "_law_power", defArgs (top 61), defBody (top 61), defScope (top 61), [], []⟩
def d_law_colour : He.DefD := ⟨("_law_colour", none), "_law_colour", "_law_colour", defArgs (top 69), defBody (top 69), defScope (top 69), [], []⟩
def d_law_colours : He.DefD := ⟨("_law_colours", none), "_law_colours", "_law_colours", defArgs (top 70), defBody (top 70), defScope (top 70), [], []⟩
def d_law_copy : He.DefD := ⟨("_law_copy", none), "_law_copy", "_law_copy", defArgs (top 56), defBody (top 56), defScope (top 56), [.int (8)], []⟩
def d_law_unit_cell : He.DefD := ⟨("_law_unit_cell", none), "_law_unit_cell", "_law_unit_cell", defArgs (top 63), defBody (top 63), defScope (top 63), [], []⟩
def d_law_unit : He.DefD := ⟨("_law_unit", none), "_law_unit", "_law_unit", defArgs (top 62), defBody (top 62), defScope (top 62), [], []⟩
def d_law_with : He.DefD := ⟨("_law_with", none), "_law_with", "_law_with", defArgs (top 58), defBody (top 58), defScope (top 58), [], []⟩
def d_law_box_basis : He.DefD := ⟨("_law_box_basis", none), "_law_box_basis", "_law_box_basis", defArgs (top 67), defBody (top 67), defScope (top 67), [], []⟩
def d_law_is_number : He.DefD := ⟨("_law_is_number", none), "_law_is_number", "_law_is_number", defArgs (top 57), defBody (top 57), defScope (top 57), [], []⟩
def d_law_bent : He.DefD := ⟨("_law_bent", none), "_law_bent", "_law_bent", defArgs (top 60), defBody (top 60), defScope (top 60), [], []⟩
def d_law_entry : He.DefD := ⟨("_law_entry", none), "_law_entry", "_law_entry", defArgs (top 59), defBody (top 59), defScope (top 59), [], []⟩
def d_law_bad_screens : He.DefD := ⟨("_law_bad_screens", none), "_law_bad_screens", "_law_bad_screens", defArgs (top 74), defBody (top 74), defScope (top 74), [], []⟩
def d_law_bad_catalogs : He.DefD := ⟨("_law_bad_catalogs", none), "_law_bad_catalogs", "_law_bad_catalogs", defArgs (top 75), defBody (top 75), defScope (top 75), [], []⟩
def d_law_bad_stacks : He.DefD := ⟨("_law_bad_stacks", none), "_law_bad_stacks", "_law_bad_stacks", defArgs (top 76), defBody (top 76), defScope (top 76), [], []⟩
def d_law_no_numbers : He.DefD := ⟨("_law_no_numbers", none), "_law_no_numbers", "_law_no_numbers", defArgs (top 72), defBody (top 72), defScope (top 72), [], []⟩
def d_law_bad_numbers : He.DefD := ⟨("_law_bad_numbers", none), "_law_bad_numbers", "_law_bad_numbers", defArgs (top 73), defBody (top 73), defScope (top 73), [], []⟩
def d_law_bad_colour : He.DefD := ⟨("_law_bad_colour", none), "_law_bad_colour", "_law_bad_colour", defArgs (top 78), defBody (top 78), defScope (top 78), [], []⟩
def d_law_bad_colours : He.DefD := ⟨("_law_bad_colours", none), "_law_bad_colours", "_law_bad_colours", defArgs (top 77), defBody (top 77), defScope (top 77), [], []⟩
def d_law_bad_tones : He.DefD := ⟨("_law_bad_tones", none), "_law_bad_tones", "_law_bad_tones", defArgs (top 79), defBody (top 79), defScope (top 79), [], []⟩
def d_index_bounded : He.DefD := ⟨("index_bounded", none), "index_bounded", "index_bounded", defArgs (top 19), defBody (top 19), defScope (top 19), [], []⟩
def d_is_whole_checks : He.DefD := ⟨("is_whole_checks", none), "is_whole", "is_whole", defArgs (top 12), defBody (top 12), defScope (top 12), [], []⟩
def d_is_square : He.DefD := ⟨("is_square", none), "is_square", "is_square", defArgs (top 17), defBody (top 17), defScope (top 17), [], []⟩
def d_is_basis_row : He.DefD := ⟨("is_basis_row", none), "is_basis_row", "is_basis_row", defArgs (top 18), defBody (top 18), defScope (top 18), [], []⟩
def d_is_screen : He.DefD := ⟨("is_screen", none), "is_screen", "is_screen", defArgs (top 20), defBody (top 20), defScope (top 20), [], []⟩
def d_is_catalog : He.DefD := ⟨("is_catalog", none), "is_catalog", "is_catalog", defArgs (top 21), defBody (top 21), defScope (top 21), [], []⟩
def d_is_stack : He.DefD := ⟨("is_stack", none), "is_stack", "is_stack", defArgs (top 22), defBody (top 22), defScope (top 22), [], []⟩
def d_check_stack : He.DefD := ⟨("check_stack", none), "check_stack", "check_stack", defArgs (top 25), defBody (top 25), defScope (top 25), [], []⟩
def d_is_whole_tints : He.DefD := ⟨("is_whole_tints", none), "is_whole", "is_whole", defArgs (top 30), defBody (top 30), defScope (top 30), [], []⟩
def d_has_tones : He.DefD := ⟨("has_tones", none), "has_tones", "has_tones", defArgs (top 36), defBody (top 36), defScope (top 36), [], []⟩
def d_check_tones : He.DefD := ⟨("check_tones", none), "check_tones", "check_tones", defArgs (top 37), defBody (top 37), defScope (top 37), [], []⟩
def d_is_within : He.DefD := ⟨("is_within", none), "is_within", "is_within", defArgs (top 14), defBody (top 14), defScope (top 14), [], []⟩
def d_check_bounds : He.DefD := ⟨("check_bounds", none), "check_bounds", "check_bounds", defArgs (top 15), defBody (top 15), defScope (top 15), [], []⟩
def d_is_number : He.DefD := ⟨("is_number", none), "is_number", "is_number", defArgs (top 16), defBody (top 16), defScope (top 16), [.int (-1000000000000000000000000000000000000000000000000000000000000), .int (1000000000000000000000000000000000000000000000000000000000000)], []⟩
def d_check_number : He.DefD := ⟨("check_number", none), "check_number", "check_number", defArgs (top 23), defBody (top 23), defScope (top 23), [.int (-1000000000000000000000000000000000000000000000000000000000000), .int (1000000000000000000000000000000000000000000000000000000000000)], []⟩
def d_is_colour : He.DefD := ⟨("is_colour", none), "is_colour", "is_colour", defArgs (top 32), defBody (top 32), defScope (top 32), [], []⟩
def d_has_colours : He.DefD := ⟨("has_colours", none), "has_colours", "has_colours", defArgs (top 33), defBody (top 33), defScope (top 33), [], []⟩
def d_check_colours : He.DefD := ⟨("check_colours", none), "check_colours", "check_colours", defArgs (top 34), defBody (top 34), defScope (top 34), [], []⟩
def d_check_wish : He.DefD := ⟨("check_wish", none), "check_wish", "check_wish", defArgs (top 35), defBody (top 35), defScope (top 35), [], []⟩
def d_blend : He.DefD := ⟨("blend", none), "blend", "blend", defArgs (top 39), defBody (top 39), defScope (top 39), [], []⟩
def d_total_of : He.DefD := ⟨("total_of", none), "total_of", "total_of", defArgs (top 40), defBody (top 40), defScope (top 40), [], []⟩
def d_products : He.DefD := ⟨("products", none), "products", "products", defArgs (top 38), defBody (top 38), defScope (top 38), [], []⟩
def d_gaps : He.DefD := ⟨("gaps", none), "gaps", "gaps", defArgs (top 41), defBody (top 41), defScope (top 41), [], []⟩
def d_check_screen : He.DefD := ⟨("check_screen", none), "check_screen", "check_screen", defArgs (top 24), defBody (top 24), defScope (top 24), [], []⟩
def d_diagonal_of : He.DefD := ⟨("diagonal_of", none), "diagonal_of", "diagonal_of", defArgs (top 27), defBody (top 27), defScope (top 27), [], []⟩
def d_index_of : He.DefD := ⟨("index_of", none), "index_of", "index_of", defArgs (top 28), defBody (top 28), defScope (top 28), [], []⟩
def d_best_tone : He.DefD := ⟨("best_tone", none), "best_tone", "best_tone", defArgs (top 44), defBody (top 44), defScope (top 44), [], []⟩
def d_squared : He.DefD := ⟨("squared", none), "squared", "squared", defArgs (top 42), defBody (top 42), defScope (top 42), [], []⟩
def d_distance : He.DefD := ⟨("distance", none), "distance", "distance", defArgs (top 43), defBody (top 43), defScope (top 43), [], []⟩
def d_law_refused : He.DefD := ⟨("_law_refused", none), "_law_refused", "_law_refused", defArgs (top 84), defBody (top 84), defScope (top 84), [], []⟩
def d_law_refusals_hold : He.DefD := ⟨("_law_refusals_hold", none), "_law_refusals_hold", "_law_refusals_hold", defArgs (top 85), defBody (top 85), defScope (top 85), [], []⟩
def d_law_equal : He.DefD := ⟨("_law_equal", none), "_law_equal", "_law_equal", defArgs (top 81), defBody (top 81), defScope (top 81), [], []⟩
def d_law_far : He.DefD := ⟨("_law_far", none), "_law_far", "_law_far", defArgs (top 82), defBody (top 82), defScope (top 82), [], []⟩
def d_law_is_best : He.DefD := ⟨("_law_is_best", none), "_law_is_best", "_law_is_best", defArgs (top 83), defBody (top 83), defScope (top 83), [], []⟩
def d_law_start : He.DefD := ⟨("_law_start", none), "_law_start", "_law_start", defArgs (top 46), defBody (top 46), defScope (top 46), [], []⟩
def d_law : He.DefD := ⟨("law", none), "law", "law", defArgs (top 86), defBody (top 86), defScope (top 86), [], []⟩
def fn0 : List He.DefD := [d_law_mixed, d_law_wide, d_law_move, d_law_take, d_law_rare, d_law_order, d_law_filled, d_law_from, d_law_count, d_law_great_screen, d_law_index_of, d_law_great_stack, d_law_pick, d_law_drawn_stack, d_law_tones, d_law_power, d_law_colour, d_law_colours, d_law_copy, d_law_unit_cell, d_law_unit, d_law_with, d_law_box_basis, d_law_is_number, d_law_bent, d_law_entry, d_law_bad_screens, d_law_bad_catalogs, d_law_bad_stacks, d_law_no_numbers]
def fn1 : List He.DefD := [d_law_bad_numbers, d_law_bad_colour, d_law_bad_colours, d_law_bad_tones, d_index_bounded, d_is_whole_checks, d_is_square, d_is_basis_row, d_is_screen, d_is_catalog, d_is_stack, d_check_stack, d_is_whole_tints, d_has_tones, d_check_tones, d_is_within, d_check_bounds, d_is_number, d_check_number, d_is_colour, d_has_colours, d_check_colours, d_check_wish, d_blend, d_total_of, d_products, d_gaps, d_check_screen, d_diagonal_of, d_index_of]
def fn2 : List He.DefD := [d_best_tone, d_squared, d_distance, d_law_refused, d_law_refusals_hold, d_law_equal, d_law_far, d_law_is_best, d_law_start, d_law]
def fn : List He.DefD := fn0 ++ fn1 ++ fn2
def fa : List He.Fa := faOf env (rows ++ [⟨"_law_start", 1, 1, [], [], [], .nil, []⟩, rowLaw])
def sbT : List (List Bool) := [[true, false, false, false, false, false, false, false, false, true], [true, true, false, false, false, false, false, false, false, true], [true, false, true, false, false, false, false, false, false, true], [true, false, false, true, false, false, false, false, false, true], [true, false, false, false, true, false, false, false, false, true], [true, false, false, false, false, true, false, false, false, true], [true, false, false, false, false, false, true, false, false, true], [true, false, false, false, false, false, false, true, false, true], [true, false, false, false, false, false, false, false, true, true]]
def sb (i j : Nat) : Bool := (sbT.getD i []).getD j false
def ex : PySem.W.Frag → Bool := exB env sb
abbrev R : PySem.W.OpenRow := PySem.W.OpenLaw.row PySem.Challenge.rw_everyshift_k78_best_tone
abbrev hk : PySem.W.Hook := He.hookX 4 fa fn [] [] ex
def ob (s : PySem.W.SharedT) : He.AlX := He.obsX 4 fa fn [] [] ex (HandSHeadRun.getT s)
theorem ob_eq (s : PySem.W.SharedT) : ob s = hk.obs s.abs := He.obsX_eq (HandSHeadRun.getT_eq s)
def names0 : List Str := ["ShiftError", "BadNumber", "BadCell", "BadRows", "BadScreen", "BadStack", "BadColours", "TooBig", "TooLong", "MOST", "is_whole", "is_whole_checks", "is_within", "check_bounds", "is_number", "is_square", "is_basis_row", "index_bounded", "is_screen", "is_catalog", "is_stack", "check_number", "check_screen", "check_stack", "diagonal_of", "index_of", "is_whole_tints", "is_colour", "has_colours", "check_colours"]
def names1 : List Str := ["check_wish", "has_tones", "check_tones", "products", "blend", "total_of", "gaps", "squared", "distance", "best_tone", "_law_start", "_law_mixed", "_law_wide", "_law_move", "_law_take", "_law_from", "_law_pick", "_law_rare", "_law_count", "_law_order", "_law_copy", "_law_is_number", "_law_with", "_law_entry", "_law_bent", "_law_power", "_law_unit", "_law_unit_cell", "_law_index_of", "_law_filled"]
def names2 : List Str := ["_law_great_screen", "_law_box_basis", "_law_great_stack", "_law_colour", "_law_colours", "_law_tones", "_law_no_numbers", "_law_bad_numbers", "_law_bad_screens", "_law_bad_catalogs", "_law_bad_stacks", "_law_bad_colours", "_law_bad_colour", "_law_bad_tones", "_law_drawn_stack", "_law_equal", "_law_far", "_law_is_best", "_law_refused", "_law_refusals_hold"]
def names : List Str := names0 ++ names1 ++ names2
theorem run (w : World) : HandSHeadRun.RunEq R (PySem.W.view R.prog [86]) hk ob 6000 names w := by
  intro os
  kernel_rfl
end K78
end
section
set_option Elab.async false
set_option maxRecDepth 100000
set_option linter.all false
/-! DV1: data in the abstract heap, the simulation, closures of the judgements. -/
namespace DV
open PySem PySem.Spec PyProof.Rows L2
abbrev St := L2.St

mutual
def RepD (F : Hp) : D → V → Prop
  | .non, v => v = .non
  | .bl b, v => v = .bl b
  | .int i, v => v = .int i
  | .str x, v => v = .str x
  | .lst ds, v => ∃ a vs, v = .ref a ∧ F a = some (.lst vs) ∧ RepL F ds vs
  | .tup ds, v => ∃ a vs, v = .ref a ∧ F a = some (.tup vs) ∧ RepL F ds vs
def RepL (F : Hp) : List D → List V → Prop
  | [], vs => vs = []
  | d :: ds, vs => ∃ v r, vs = v :: r ∧ RepD F d v ∧ RepL F ds r
end
mutual
theorem RepD.mono {F F' : Hp} (s : Same F F') : ∀ (d : D) (v : V), RepD F d v → RepD F' d v
  | .non, _, h => h
  | .bl _, _, h => h
  | .int _, _, h => h
  | .str _, _, h => h
  | .lst ds, v, ⟨a, vs, e, h, r⟩ => ⟨a, vs, e, s _ _ h, RepL.mono s ds vs r⟩
  | .tup ds, v, ⟨a, vs, e, h, r⟩ => ⟨a, vs, e, s _ _ h, RepL.mono s ds vs r⟩
theorem RepL.mono {F F' : Hp} (s : Same F F') : ∀ (ds : List D) (vs : List V), RepL F ds vs → RepL F' ds vs
  | [], _, h => h
  | d :: ds, vs, ⟨v, r, e, h, q⟩ => ⟨v, r, e, RepD.mono s d v h, RepL.mono s ds r q⟩
end
theorem RepL.len {F : Hp} : ∀ {ds : List D} {vs : List V}, RepL F ds vs → ds.length = vs.length
  | [], _, h => by cases h; rfl
  | _ :: ds, _, ⟨v, r, e, _, q⟩ => by subst e; simp [RepL.len q]
theorem RepL.get {F : Hp} : ∀ {ds : List D} {vs : List V} {i : Nat} {d : D}, RepL F ds vs → ds[i]? = some d → ∃ v, vs[i]? = some v ∧ RepD F d v
  | [], _, _, _, _, e => by simp at e
  | _ :: _, _, 0, _, ⟨v, r, e, h, q⟩, e' => by subst e; cases e'; exact ⟨v, rfl, h⟩
  | _ :: ds, _, i + 1, d, ⟨v, r, e, h, q⟩, e' => by
    subst e
    obtain ⟨w, k1, k2⟩ := RepL.get (ds := ds) (i := i) q (by simpa using e')
    exact ⟨w, by simpa using k1, k2⟩
theorem RepL.get' {F : Hp} {ds : List D} {vs : List V} {i : Nat} {v : V} (r : RepL F ds vs) (e : vs[i]? = some v) : ∃ d, ds[i]? = some d ∧ RepD F d v := by
  have hl := r.len
  obtain ⟨hi, _⟩ := List.getElem?_eq_some_iff.mp e
  cases q : ds[i]? with
  | none => rw [List.getElem?_eq_none_iff] at q; omega
  | some d =>
    obtain ⟨v', e', h⟩ := r.get q
    rw [e] at e'; cases e'
    exact ⟨d, rfl, h⟩
theorem RepL.append {F : Hp} : ∀ {ds es : List D} {vs ws : List V}, RepL F ds vs → RepL F es ws → RepL F (ds ++ es) (vs ++ ws)
  | [], _, _, _, h, q => by cases h; exact q
  | _ :: ds, _, _, _, ⟨v, r, e, h, k⟩, q => by subst e; exact ⟨v, r ++ _, rfl, h, RepL.append k q⟩
theorem RepL.one {F : Hp} {d : D} {v : V} (h : RepD F d v) : RepL F [d] [v] := ⟨v, [], rfl, h, rfl⟩
theorem RepL.set {F : Hp} {d : D} {v : V} (h : RepD F d v) : ∀ {ds : List D} {vs : List V} (i : Nat), RepL F ds vs → RepL F (ds.set i d) (vs.set i v)
  | [], _, _, q => by cases q; exact rfl
  | _ :: ds, _, 0, ⟨w, r, e, k, q⟩ => by subst e; exact ⟨v, r, rfl, h, q⟩
  | _ :: ds, _, i + 1, ⟨w, r, e, k, q⟩ => by subst e; exact ⟨w, r.set i v, rfl, k, RepL.set h i q⟩
theorem RepL.take {F : Hp} : ∀ {ds : List D} {vs : List V} (n : Nat), RepL F ds vs → RepL F (ds.take n) (vs.take n)
  | _, _, 0, _ => rfl
  | [], _, _ + 1, q => by cases q; rfl
  | _ :: ds, _, n + 1, ⟨w, r, e, k, q⟩ => by subst e; exact ⟨w, r.take n, rfl, k, RepL.take n q⟩
theorem RepL.drop {F : Hp} : ∀ {ds : List D} {vs : List V} (n : Nat), RepL F ds vs → RepL F (ds.drop n) (vs.drop n)
  | _, _, 0, q => q
  | [], _, _ + 1, q => by cases q; rfl
  | _ :: ds, _, n + 1, ⟨w, r, e, k, q⟩ => by subst e; exact RepL.drop n q
theorem RepL.cut {F : Hp} {ds : List D} {vs : List V} (q : RepL F ds vs) (lo hi : Option Int) : RepL F (cutL ds lo hi) (cutV vs lo hi) := by
  unfold cutL cutV
  rw [q.len]
  exact (q.drop _).take _
theorem RepL.dropLast {F : Hp} {ds : List D} {vs : List V} (q : RepL F ds vs) : RepL F ds.dropLast vs.dropLast := by
  rw [List.dropLast_eq_take, List.dropLast_eq_take, q.len]
  exact q.take _
theorem RepL.rep {F : Hp} {ds : List D} {vs : List V} (q : RepL F ds vs) : ∀ k : Nat, RepL F (List.replicate k ds).flatten (List.replicate k vs).flatten
  | 0 => rfl
  | k + 1 => by
    rw [List.replicate_succ, List.replicate_succ, List.flatten_cons, List.flatten_cons]
    exact q.append (RepL.rep q k)
theorem RepL.ints {F : Hp} : ∀ {ns : List Int} {vs : List V}, RepL F (ns.map D.int) vs → vs = ns.map V.int
  | [], _, h => h
  | _ :: ns, _, ⟨v, r, e, h, q⟩ => by
    subst e; cases h
    rw [RepL.ints q]; rfl
theorem RepL.of_ints {F : Hp} : ∀ (ns : List Int), RepL F (ns.map D.int) (ns.map V.int)
  | [] => rfl
  | n :: ns => ⟨.int n, ns.map V.int, rfl, rfl, RepL.of_ints ns⟩
theorem RepL.bls {F : Hp} : ∀ {ns : List Bool} {vs : List V}, RepL F (ns.map D.bl) vs → vs = ns.map V.bl
  | [], _, h => h
  | _ :: ns, _, ⟨v, r, e, h, q⟩ => by
    subst e; cases h
    rw [RepL.bls q]; rfl
mutual
theorem RepD.dp {K : PySem.W.Frag} {F H : Hp} (s : Same F H) : ∀ (d : D) (v : V), RepD F d v → Dp K H v d.py
  | .non, _, h => by cases h; exact .non
  | .bl _, _, h => by cases h; exact .bl _
  | .int _, _, h => by cases h; exact .int _
  | .str _, _, h => by cases h; exact .str _
  | .lst ds, v, ⟨a, vs, e, h, r⟩ => by subst e; exact .lst (SqL.of (s _ _ h)) (RepL.dp s ds vs r)
  | .tup ds, v, ⟨a, vs, e, h, r⟩ => by subst e; exact .tup (SqT.of (s _ _ h)) (RepL.dp s ds vs r)
theorem RepL.dp {K : PySem.W.Frag} {F H : Hp} (s : Same F H) : ∀ (ds : List D) (vs : List V), RepL F ds vs → DpAll K H vs (D.pys ds)
  | [], _, h => by cases h; exact .nil
  | d :: ds, vs, ⟨v, r, e, h, q⟩ => by subst e; exact .cons (RepD.dp s d v h) (RepL.dp s ds r q)
end
mutual
theorem pyEq_py : ∀ (x y : D), PyData.eqv x.py y.py = pyEq x y
  | .non, y => by cases y <;> rfl
  | .bl _, y => by cases y <;> rfl
  | .int _, y => by cases y <;> rfl
  | .str _, y => by cases y <;> rfl
  | .lst xs, y => by
    cases y with
    | lst ys => exact pyEqs_py xs ys
    | _ => rfl
  | .tup xs, y => by
    cases y with
    | tup ys => exact pyEqs_py xs ys
    | _ => rfl
theorem pyEqs_py : ∀ (xs ys : List D), PyData.eqvAll (D.pys xs) (D.pys ys) = pyEqs xs ys
  | [], ys => by cases ys <;> rfl
  | x :: xs, ys => by
    cases ys with
    | nil => rfl
    | cons y ys =>
      show (PyData.eqv x.py y.py && PyData.eqvAll (D.pys xs) (D.pys ys)) = (pyEq x y && pyEqs xs ys)
      rw [pyEq_py x y, pyEqs_py xs ys]
end

/-! ### the frame of a def's run -/
structure Fr where
  H0 : Hp
  F0 : Hp
  P : List (Nat × Addr)
  X : List (Addr × HO)
/-- slot i owns the list at a -/
def Own (ρ : Env) (σ : St) (i : Nat) (a : Addr) : Prop := (∃ xs, getE ρ i = some (.own xs)) ∧ σ[i]? = some (some (.ref a))
def ArgR (F H : Hp) (v : V) : B → Prop
  | .val d => RepD F d v
  | .own xs => ∃ a us, v = .ref a ∧ F a = none ∧ H a = some (.lst us) ∧ RepL F xs us
structure Sim (T : Fr) (ρ : Env) (σ : St) (F H : Hp) : Prop where
  ff : Same T.F0 F
  fh : Same F H
  grow : ∀ b, T.F0 b = none → T.H0 b ≠ none → F b = none
  keep : ∀ b o, T.H0 b = some o → b ∉ T.P.map (·.2) → H b = some o
  len : ρ.length = σ.length
  slot : ∀ i b, getE ρ i = some b → ∃ v, σ[i]? = some (some v) ∧ ArgR F H v b
  dist : ∀ i j a, Own ρ σ i a → Own ρ σ j a → i = j
  fresh : ∀ i a, Own ρ σ i a → T.H0 a = none ∨ (i, a) ∈ T.P
  par : ∀ p ∈ T.P, Own ρ σ p.1 p.2 ∧ T.F0 p.2 = none ∧ T.H0 p.2 ≠ none
  pins : ∀ p ∈ T.X, H p.1 = some p.2 ∧ F p.1 = none ∧ ∀ i, ¬ Own ρ σ i p.1

theorem getE_set {ρ : Env} {i j : Nat} {b : Option B} : getE (ρ.set i b) j = if i = j ∧ i < ρ.length then b else getE ρ j := by
  unfold getE
  rw [List.getD_eq_getElem?_getD, List.getD_eq_getElem?_getD, List.getElem?_set]
  by_cases h : i = j
  · subst h
    by_cases hi : i < ρ.length
    · simp [hi]
    · simp [hi, List.getElem?_eq_none (Nat.le_of_not_lt hi)]
  · simp [h]
theorem getE_lt {ρ : Env} {i : Nat} {b : B} (h : getE ρ i = some b) : i < ρ.length := by
  unfold getE at h
  rw [List.getD_eq_getElem?_getD] at h
  by_cases hi : i < ρ.length
  · exact hi
  · rw [List.getElem?_eq_none (Nat.le_of_not_lt hi)] at h; cases h

section
variable {T : Fr} {ρ : Env} {σ : St} {F H : Hp}
theorem Sim.own (s : Sim T ρ σ F H) {i : Nat} {xs : List D} (h : getE ρ i = some (.own xs)) : ∃ a us, σ[i]? = some (some (.ref a)) ∧ Own ρ σ i a ∧ F a = none ∧ H a = some (.lst us) ∧ RepL F xs us := by
  obtain ⟨v, e, a, us, rfl, h1, h2, h3⟩ := s.slot _ _ h
  exact ⟨a, us, e, ⟨⟨xs, h⟩, e⟩, h1, h2, h3⟩
theorem Sim.own_at (s : Sim T ρ σ F H) {i : Nat} {a : Addr} (h : Own ρ σ i a) : ∃ xs us, getE ρ i = some (.own xs) ∧ F a = none ∧ H a = some (.lst us) ∧ RepL F xs us := by
  obtain ⟨⟨xs, e⟩, e'⟩ := h
  obtain ⟨a', us, e2, o, h1, h2, h3⟩ := s.own e
  rw [e'] at e2; cases e2
  exact ⟨xs, us, e, h1, h2, h3⟩
/-- the frozen part and the heap grow, no owned list is touched -/
theorem Sim.grown (s : Sim T ρ σ F H) {F' H' : Hp} (hF : Same F F') (hFH : Same F' H') (hg : ∀ b, F b = none → H b ≠ none → F' b = none) (hk : Same H H') : Sim T ρ σ F' H' where
  ff := s.ff.trans hF
  fh := hFH
  grow := fun b h0 h1 => by
    have h2 := s.grow b h0 h1
    refine hg b h2 ?_
    cases e : T.H0 b with
    | none => exact absurd e h1
    | some o =>
      by_cases hb : b ∈ T.P.map (·.2)
      · obtain ⟨p, hp, rfl⟩ := List.mem_map.mp hb
        obtain ⟨o, _, _⟩ := s.par p hp
        obtain ⟨_, _, _, _, h3, _⟩ := s.own_at o
        rw [h3]; simp
      · rw [s.keep b o e hb]; simp
  keep := fun b o e hb => hk b o (s.keep b o e hb)
  len := s.len
  slot := fun i b e => by
    obtain ⟨v, h1, h2⟩ := s.slot i b e
    refine ⟨v, h1, ?_⟩
    cases b with
    | val d => exact RepD.mono hF d v h2
    | own xs =>
      obtain ⟨a, us, rfl, h3, h4, h5⟩ := h2
      exact ⟨a, us, rfl, hg a h3 (by rw [h4]; simp), hk _ _ h4, RepL.mono hF _ _ h5⟩
  dist := s.dist
  fresh := s.fresh
  par := s.par
  pins := fun p hp => by
    obtain ⟨h1, h2, h3⟩ := s.pins p hp
    exact ⟨hk _ _ h1, hg _ h2 (by rw [h1]; simp), h3⟩
theorem same_new {H : Hp} {a : Addr} {o : HO} (h : H a = none) : Same H (upd H a o) := fun b u e => by
  rw [upd_ne (ne_of_none e h)]; exact e
theorem same_both {F H : Hp} {a : Addr} {o : HO} (s : Same F H) : Same (upd F a o) (upd H a o) := fun b u e => by
  by_cases hb : b = a
  · subst hb; rw [upd_same] at e ⊢; exact e
  · rw [upd_ne hb] at e ⊢; exact s b u e
/-- a new object, frozen at once -/
theorem Sim.newF (s : Sim T ρ σ F H) {a : Addr} {o : HO} (h : H a = none) : Sim T ρ σ (upd F a o) (upd H a o) :=
  s.grown (same_new (s.fh.free h)) (same_both s.fh) (fun b h1 h2 => by
    have hb : b ≠ a := fun e => h2 (e ▸ h)
    rw [upd_ne hb]; exact h1) (same_new h)
/-- a new object, not frozen -/
theorem Sim.newH (s : Sim T ρ σ F H) {a : Addr} {o : HO} (h : H a = none) : Sim T ρ σ F (upd H a o) :=
  s.grown (fun _ _ e => e) (s.fh.trans (same_new h)) (fun b h1 _ => h1) (same_new h)
end

/-- what an expression's value is, beside the state -/
def Res (T : Fr) (ρ : Env) (σ : St) (F H : Hp) (v : V) : B → Prop
  | .val d => RepD F d v
  | .own xs => ∃ a us, v = .ref a ∧ F a = none ∧ H a = some (.lst us) ∧ RepL F xs us ∧ T.H0 a = none ∧ (∀ i, ¬ Own ρ σ i a) ∧ ∀ p ∈ T.X, p.1 ≠ a
/-- what an operation gives -/
inductive Gives (F H : Hp) : V → Hp → B → Prop
  | same {d : D} {v : V} : RepD F d v → Gives F H v H (.val d)
  | lst {a : Addr} {us : List V} {xs : List D} : H a = none → RepL F xs us → Gives F H (.ref a) (upd H a (.lst us)) (.own xs)
  | tup {a : Addr} {us : List V} {xs : List D} : H a = none → RepL F xs us → Gives F H (.ref a) (upd H a (.tup us)) (.val (.tup xs))
section
variable {T : Fr} {ρ : Env} {σ : St} {F H H' : Hp} {v : V} {b : B}
theorem Sim.none_own (s : Sim T ρ σ F H) {a : Addr} (h : H a = none) (i : Nat) : ¬ Own ρ σ i a := fun o => by
  obtain ⟨_, _, _, _, h3, _⟩ := s.own_at o
  rw [h] at h3; cases h3
theorem Sim.none_pin (s : Sim T ρ σ F H) {a : Addr} (h : H a = none) : ∀ p ∈ T.X, p.1 ≠ a := fun p hp e => by
  obtain ⟨h1, _, _⟩ := s.pins p hp
  rw [e, h] at h1; cases h1
theorem Sim.none_entry (s : Sim T ρ σ F H) {a : Addr} (h : H a = none) : T.H0 a = none := by
  cases e : T.H0 a with
  | none => rfl
  | some o =>
    by_cases hb : a ∈ T.P.map (·.2)
    · obtain ⟨p, hp, e2⟩ := List.mem_map.mp hb
      obtain ⟨o, _, _⟩ := s.par p hp
      rw [e2] at o
      exact absurd o (s.none_own h _)
    · rw [s.keep a o e hb] at h; cases h
theorem Gives.post (g : Gives F H v H' b) (s : Sim T ρ σ F H) : ∃ F', Same F F' ∧ Sim T ρ σ F' H' ∧ Res T ρ σ F' H' v b := by
  cases g with
  | same h => exact ⟨F, fun _ _ e => e, s, h⟩
  | lst h r =>
    exact ⟨F, fun _ _ e => e, s.newH h, _, _, rfl, s.fh.free h, upd_same, r, s.none_entry h, s.none_own h, s.none_pin h⟩
  | @tup a us xs h r =>
    have sm : Same F (upd F a (.tup us)) := same_new (s.fh.free h)
    exact ⟨_, sm, s.newF h, _, _, rfl, upd_same, RepL.mono sm _ _ r⟩
/-- a fresh list is frozen -/
theorem Res.freeze (r : Res T ρ σ F H v b) (s : Sim T ρ σ F H) : ∃ F', Same F F' ∧ Sim T ρ σ F' H ∧ RepD F' b.d v := by
  cases b with
  | val d => exact ⟨F, fun _ _ e => e, s, r⟩
  | own xs =>
    obtain ⟨a, us, rfl, h1, h2, h3, h4, h5, h6⟩ := r
    have sm : Same F (upd F a (.lst us)) := same_new h1
    refine ⟨upd F a (.lst us), sm, ?_, a, us, rfl, upd_same, RepL.mono sm _ _ h3⟩
    have fh : Same (upd F a (.lst us)) H := fun b o e => by
      by_cases hb : b = a
      · subst hb; rw [upd_same] at e; cases e; exact h2
      · rw [upd_ne hb] at e; exact s.fh _ _ e
    exact {
      ff := s.ff.trans sm
      fh := fh
      grow := fun b k0 k1 => by
        have hb : b ≠ a := fun e => k1 (e ▸ h4)
        rw [upd_ne hb]; exact s.grow b k0 k1
      keep := s.keep
      len := s.len
      slot := fun i b e => by
        obtain ⟨w, k1, k2⟩ := s.slot i b e
        refine ⟨w, k1, ?_⟩
        cases b with
        | val d => exact RepD.mono sm d w k2
        | own ys =>
          obtain ⟨a', us', rfl, k3, k4, k5⟩ := k2
          have hne : a' ≠ a := fun e2 => h5 i ⟨⟨ys, e⟩, e2 ▸ k1⟩
          exact ⟨a', us', rfl, by rw [upd_ne hne]; exact k3, k4, RepL.mono sm _ _ k5⟩
      dist := s.dist
      fresh := s.fresh
      par := s.par
      pins := fun p hp => by
        obtain ⟨k1, k2, k3⟩ := s.pins p hp
        exact ⟨k1, by rw [upd_ne (h6 p hp)]; exact k2, k3⟩ }
/-- an owned list is frozen -/
theorem Sim.freeze (s : Sim T ρ σ F H) {i : Nat} {xs : List D} (h : getE ρ i = some (.own xs)) (hp : (T.P.map (·.1)).contains i = false) :
    ∃ F' a, Same F F' ∧ Sim T (ρ.set i (some (.val (.lst xs)))) σ F' H ∧ σ[i]? = some (some (.ref a)) ∧ RepD F' (.lst xs) (.ref a) := by
  obtain ⟨a, us, e, o, h1, h2, h3⟩ := s.own h
  have sm : Same F (upd F a (.lst us)) := same_new h1
  have rep : RepD (upd F a (.lst us)) (.lst xs) (.ref a) := ⟨a, us, rfl, upd_same, RepL.mono sm _ _ h3⟩
  have hi := getE_lt h
  have npm : ∀ p ∈ T.P, p.1 ≠ i := fun p hp' e2 => by
    have : (T.P.map (·.1)).contains i = true := by
      rw [List.contains_iff_mem]
      exact List.mem_map.mpr ⟨p, hp', e2⟩
    rw [hp] at this; cases this
  have ow : ∀ j b, Own (ρ.set i (some (.val (.lst xs)))) σ j b → j ≠ i ∧ Own ρ σ j b := fun j b ⟨⟨ys, q1⟩, q2⟩ => by
    rw [getE_set] at q1
    by_cases hj : i = j
    · rw [if_pos ⟨hj, hi⟩] at q1; cases q1
    · rw [if_neg (fun z => hj z.1)] at q1
      exact ⟨fun z => hj z.symm, ⟨ys, q1⟩, q2⟩
  refine ⟨upd F a (.lst us), a, sm, ?_, e, rep⟩
  exact {
    ff := s.ff.trans sm
    fh := fun b o' e' => by
      by_cases hb : b = a
      · subst hb; rw [upd_same] at e'; cases e'; exact h2
      · rw [upd_ne hb] at e'; exact s.fh _ _ e'
    grow := fun b k0 k1 => by
      have hb : b ≠ a := fun e' => by
        rcases s.fresh i a o with z | z
        · exact k1 (e' ▸ z)
        · exact npm _ z rfl
      rw [upd_ne hb]; exact s.grow b k0 k1
    keep := s.keep
    len := by rw [List.length_set]; exact s.len
    slot := fun j b q => by
      rw [getE_set] at q
      by_cases hj : i = j
      · rw [if_pos ⟨hj, hi⟩] at q
        cases q
        subst hj
        exact ⟨_, e, rep⟩
      · rw [if_neg (fun z => hj z.1)] at q
        obtain ⟨w, k1, k2⟩ := s.slot j b q
        refine ⟨w, k1, ?_⟩
        cases b with
        | val d => exact RepD.mono sm d w k2
        | own ys =>
          obtain ⟨a', us', rfl, k3, k4, k5⟩ := k2
          have hne : a' ≠ a := fun e2 => hj (s.dist i j a o ⟨⟨ys, q⟩, e2 ▸ k1⟩)
          exact ⟨a', us', rfl, by rw [upd_ne hne]; exact k3, k4, RepL.mono sm _ _ k5⟩
    dist := fun j k b oj ok => s.dist j k b (ow j b oj).2 (ow k b ok).2
    fresh := fun j b oj => s.fresh j b (ow j b oj).2
    par := fun p hp' => by
      obtain ⟨⟨⟨ys, q1⟩, q2⟩, q3⟩ := s.par p hp'
      exact ⟨⟨⟨ys, by rw [getE_set, if_neg (fun z => npm p hp' z.1.symm)]; exact q1⟩, q2⟩, q3⟩
    pins := fun p hp' => by
      obtain ⟨k1, k2, k3⟩ := s.pins p hp'
      have hne : p.1 ≠ a := fun e2 => k3 i (e2 ▸ o)
      exact ⟨k1, by rw [upd_ne hne]; exact k2, fun j oj => k3 j (ow j _ oj).2⟩ }
/-- a slot is stored -/
theorem Sim.store (s : Sim T ρ σ F H) {i : Nat} (r : Res T ρ σ F H v b) (hi : i < ρ.length) (hp : (T.P.map (·.1)).contains i = false) : Sim T (ρ.set i (some b)) (σ.set i (some v)) F H := by
  have npm : ∀ p ∈ T.P, p.1 ≠ i := fun p hp' e2 => by
    have : (T.P.map (·.1)).contains i = true := by
      rw [List.contains_iff_mem]
      exact List.mem_map.mpr ⟨p, hp', e2⟩
    rw [hp] at this; cases this
  have hs : i < σ.length := s.len ▸ hi
  have get_ne : ∀ j, j ≠ i → (σ.set i (some v))[j]? = σ[j]? := fun j hj => List.getElem?_set_ne (Ne.symm hj)
  have ow : ∀ j a, Own (ρ.set i (some b)) (σ.set i (some v)) j a → (j ≠ i ∧ Own ρ σ j a) ∨ (j = i ∧ (∃ xs, b = .own xs) ∧ v = .ref a) := fun j a ⟨⟨ys, q1⟩, q2⟩ => by
    rw [getE_set] at q1
    by_cases hj : i = j
    · rw [if_pos ⟨hj, hi⟩] at q1
      rw [← hj, List.getElem?_set_self hs] at q2
      cases q1; cases q2
      exact .inr ⟨hj.symm, ⟨ys, rfl⟩, rfl⟩
    · rw [if_neg (fun z => hj z.1)] at q1
      rw [get_ne j (Ne.symm hj)] at q2
      exact .inl ⟨Ne.symm hj, ⟨ys, q1⟩, q2⟩
  have up : ∀ j a, j ≠ i → Own ρ σ j a → Own (ρ.set i (some b)) (σ.set i (some v)) j a := fun j a hj ⟨⟨ys, q1⟩, q2⟩ =>
    ⟨⟨ys, by rw [getE_set, if_neg (fun z => hj z.1.symm)]; exact q1⟩, by rw [get_ne j hj]; exact q2⟩
  exact {
    ff := s.ff, fh := s.fh, grow := s.grow, keep := s.keep
    len := by rw [List.length_set, List.length_set]; exact s.len
    slot := fun j c q => by
      rw [getE_set] at q
      by_cases hj : i = j
      · rw [if_pos ⟨hj, hi⟩] at q
        cases q
        subst hj
        refine ⟨v, List.getElem?_set_self hs, ?_⟩
        cases b with
        | val d => exact r
        | own xs => obtain ⟨a, us, e, h1, h2, h3, _⟩ := r; exact ⟨a, us, e, h1, h2, h3⟩
      · rw [if_neg (fun z => hj z.1)] at q
        rw [get_ne j (Ne.symm hj)]
        exact s.slot j c q
    dist := fun j k a oj ok => by
      rcases ow j a oj with ⟨_, q1⟩ | ⟨rfl, ⟨xs, rfl⟩, rfl⟩
      · rcases ow k a ok with ⟨_, q2⟩ | ⟨rfl, ⟨ys, rfl⟩, rfl⟩
        · exact s.dist j k a q1 q2
        · obtain ⟨a', us, e, _, _, _, _, h5, _⟩ := r
          cases e
          exact absurd q1 (h5 j)
      · rcases ow k a ok with ⟨_, q2⟩ | ⟨rfl, _, _⟩
        · obtain ⟨a', us, e, _, _, _, _, h5, _⟩ := r
          cases e
          exact absurd q2 (h5 k)
        · rfl
    fresh := fun j a oj => by
      rcases ow j a oj with ⟨_, q1⟩ | ⟨rfl, ⟨xs, rfl⟩, rfl⟩
      · exact s.fresh j a q1
      · obtain ⟨a', us, e, _, _, _, h4, _⟩ := r
        cases e
        exact .inl h4
    par := fun p hp' => by
      obtain ⟨q1, q3⟩ := s.par p hp'
      exact ⟨up _ _ (npm p hp') q1, q3⟩
    pins := fun p hp' => by
      obtain ⟨k1, k2, k3⟩ := s.pins p hp'
      refine ⟨k1, k2, fun j oj => ?_⟩
      rcases ow j _ oj with ⟨_, q1⟩ | ⟨rfl, ⟨xs, rfl⟩, e2⟩
      · exact k3 j q1
      · obtain ⟨a', us, e, _, _, _, _, _, h6⟩ := r
        rw [e] at e2; cases e2
        exact h6 p hp' rfl }
/-- an owned list is changed -/
theorem Sim.write (s : Sim T ρ σ F H) {i : Nat} {a : Addr} {ys : List D} {ws : List V} (o : Own ρ σ i a) (r : RepL F ys ws) : Sim T (ρ.set i (some (.own ys))) σ F (upd H a (.lst ws)) := by
  obtain ⟨xs, us, h, h1, h2, h3⟩ := s.own_at o
  have hi := getE_lt h
  have ow : ∀ j b, Own (ρ.set i (some (.own ys))) σ j b ↔ Own ρ σ j b := fun j b => by
    unfold Own
    rw [getE_set]
    by_cases hj : i = j
    · rw [if_pos ⟨hj, hi⟩]
      constructor
      · rintro ⟨_, q2⟩; exact ⟨⟨xs, hj ▸ h⟩, q2⟩
      · rintro ⟨_, q2⟩; exact ⟨⟨ys, rfl⟩, q2⟩
    · rw [if_neg (fun z => hj z.1)]
  exact {
    ff := s.ff
    fh := fun b o' e => by
      have hb : b ≠ a := fun z => by rw [z, h1] at e; cases e
      rw [upd_ne hb]; exact s.fh _ _ e
    grow := s.grow
    keep := fun b o' e hb => by
      have hne : b ≠ a := fun z => by
        rcases s.fresh i a o with q | q
        · rw [z, q] at e; cases e
        · exact hb (List.mem_map.mpr ⟨_, q, z.symm⟩)
      rw [upd_ne hne]; exact s.keep b o' e hb
    len := by rw [List.length_set]; exact s.len
    slot := fun j c q => by
      rw [getE_set] at q
      by_cases hj : i = j
      · rw [if_pos ⟨hj, hi⟩] at q
        cases q
        subst hj
        exact ⟨_, o.2, a, ws, rfl, h1, upd_same, r⟩
      · rw [if_neg (fun z => hj z.1)] at q
        obtain ⟨w, k1, k2⟩ := s.slot j c q
        refine ⟨w, k1, ?_⟩
        cases c with
        | val d => exact k2
        | own zs =>
          obtain ⟨a', us', rfl, k3, k4, k5⟩ := k2
          have hne : a' ≠ a := fun e2 => hj (s.dist i j a o ⟨⟨zs, q⟩, e2 ▸ k1⟩)
          exact ⟨a', us', rfl, k3, by rw [upd_ne hne]; exact k4, k5⟩
    dist := fun j k b oj ok => s.dist j k b ((ow j b).mp oj) ((ow k b).mp ok)
    fresh := fun j b oj => s.fresh j b ((ow j b).mp oj)
    par := fun p hp => by
      obtain ⟨q1, q3⟩ := s.par p hp
      exact ⟨(ow _ _).mpr q1, q3⟩
    pins := fun p hp => by
      obtain ⟨k1, k2, k3⟩ := s.pins p hp
      have hne : p.1 ≠ a := fun e2 => k3 i (e2 ▸ o)
      exact ⟨by rw [upd_ne hne]; exact k1, k2, fun j oj => k3 j ((ow j _).mp oj)⟩ }
end
end DV
end
section
set_option Elab.async false
set_option maxRecDepth 100000
set_option linter.all false
/-! DV2: closures of the judgements, promises over data, calls. -/
namespace DV
open PySem PySem.Spec PyProof.Rows L2

/-! ### closures -/
section
variable {X : Cx}
def sE (X : Cx) (e : Expr) : TE := fun σ H Q => ∀ (pins : List (Addr × Obj)) (s : Shared), Inv X pins σ H s → wpAny (model X.prog X.w) X.A (eval e X.env) (EP X pins σ Q) X.xe s
theorem pe_s {e : Expr} : PE X e (sE X e) := ⟨fun pins s σ H Q I h => h pins s I⟩
theorem sE_of {e : Expr} {t : TE} {σ : St} {H : Hp} {Q : VK} (h : PE X e t) (q : t σ H Q) : sE X e σ H Q := fun pins s I => h.run pins s σ H Q I q
theorem sE_mono {e : Expr} {σ : St} {H : Hp} {Q Q' : VK} (h : sE X e σ H Q) (k : ∀ v H', Q v H' → Q' v H') : sE X e σ H Q' := fun pins s I =>
  thn (h pins s I) fun u s' ⟨v, H', I', r, q⟩ => ⟨v, H', I', r, k v H' q⟩
def sT (X : Cx) (e : Expr) : TT := fun σ H Q => ∀ (whole : Sem Value) (pins : List (Addr × Obj)) (s : Shared), (whole = eval e X.env) → Inv X pins σ H s → wpAny (model X.prog X.w) X.A (isTrue e X.env whole) (TP X pins σ Q) X.xe s
theorem pt_s {e : Expr} : PT X e (sT X e) := ⟨fun pins s σ H Q I h => h _ pins s rfl I⟩
theorem sT_of {e : Expr} {t : TT} {σ : St} {H : Hp} {Q : Bool → Hp → Prop} (h : PT X e t) (q : t σ H Q) : sT X e σ H Q := fun wh pins s e I => by subst e; exact h.run pins s σ H Q I q
theorem sT_mono {e : Expr} {σ : St} {H : Hp} {Q Q' : Bool → Hp → Prop} (h : sT X e σ H Q) (k : ∀ v H', Q v H' → Q' v H') : sT X e σ H Q' := fun wh pins s e I =>
  thn (h wh pins s e I) fun u s' ⟨H', I', q⟩ => ⟨H', I', k u H' q⟩
def sW (X : Cx) (e : Expr) : TT := fun σ H Q => ∀ (whole : Sem Value) (pins : List (Addr × Obj)) (s : Shared), Inv X pins σ H s → wpAny (model X.prog X.w) X.A (isTrue e X.env whole) (TP X pins σ Q) X.xe s
theorem pw_s {e : Expr} : PW X e (sW X e) := ⟨fun wh pins s σ H Q I h => h wh pins s I⟩
theorem sW_of {e : Expr} {t : TT} {σ : St} {H : Hp} {Q : Bool → Hp → Prop} (h : PW X e t) (q : t σ H Q) : sW X e σ H Q := fun wh pins s I => h.run wh pins s σ H Q I q
theorem sT_W {e : Expr} {σ : St} {H : Hp} {Q : Bool → Hp → Prop} (h : sW X e σ H Q) : sT X e σ H Q := fun wh pins s _ I => h wh pins s I
def sA (X : Cx) (es : List Expr) : TA := fun σ H Q => ∀ (pos : Pos) (pins : List (Addr × Obj)) (s : Shared), Inv X pins σ H s → wpAny (model X.prog X.w) X.A (spliced (backTo pos (starEach es X.env))) (AP X pins σ Q) X.xe s
theorem pa_s {es : List Expr} : PA X es (sA X es) := ⟨fun pos pins s σ H Q I h => h pos pins s I⟩
theorem sA_of {es : List Expr} {t : TA} {σ : St} {H : Hp} {Q : List V → Hp → Prop} (h : PA X es t) (q : t σ H Q) : sA X es σ H Q := fun pos pins s I => h.run pos pins s σ H Q I q
theorem sA_mono {es : List Expr} {σ : St} {H : Hp} {Q Q' : List V → Hp → Prop} (h : sA X es σ H Q) (k : ∀ v H', Q v H' → Q' v H') : sA X es σ H Q' := fun pos pins s I =>
  thn (h pos pins s I) fun u s' ⟨vs, H', I', r, q⟩ => ⟨vs, H', I', r, k vs H' q⟩
def sS (X : Cx) (st : Stmt) : TS := fun D σ H => ∀ (pins : List (Addr × Obj)) (s : Shared), Inv X pins σ H s → wpAny (model X.prog X.w) X.A (exec st X.env) (SP X pins D) X.xe s
theorem ps_s {st : Stmt} : PS X st (sS X st) := ⟨fun pins s σ H D I h => h pins s I⟩
theorem sS_of {st : Stmt} {t : TS} {σ : St} {H : Hp} {D : Ends} (h : PS X st t) (q : t D σ H) : sS X st D σ H := fun pins s I => h.run pins s σ H D I q
def sSs (X : Cx) (st : List Stmt) : TS := fun D σ H => ∀ (pins : List (Addr × Obj)) (s : Shared), Inv X pins σ H s → wpAny (model X.prog X.w) X.A (execs st X.env) (SP X pins D) X.xe s
theorem pss_s {st : List Stmt} : PSs X st (sSs X st) := ⟨fun pins s σ H D I h => h pins s I⟩
theorem sSs_of {st : List Stmt} {t : TS} {σ : St} {H : Hp} {D : Ends} (h : PSs X st t) (q : t D σ H) : sSs X st D σ H := fun pins s I => h.run pins s σ H D I q
def sG (X : Cx) (tg : Expr) : TG := fun v σ H Q => ∀ (pins : List (Addr × Obj)) (s : Shared) (u : Value), Inv X pins σ H s → RelV v u → wpAny (model X.prog X.w) X.A (assign tg X.env u) (fun _ s' => ∃ σ' H', Inv X pins σ' H' s' ∧ Q σ' H') X.xe s
theorem pg_s {tg : Expr} : PG X tg (sG X tg) := ⟨fun pins s σ H v u Q I r h => h pins s u I r⟩
theorem sG_of {tg : Expr} {t : TG} {v : V} {σ : St} {H : Hp} {Q : St → Hp → Prop} (h : PG X tg t) (q : t v σ H Q) : sG X tg v σ H Q := fun pins s u I r => h.run pins s σ H v u Q I r q
theorem sG_mono {tg : Expr} {v : V} {σ : St} {H : Hp} {Q Q' : St → Hp → Prop} (h : sG X tg v σ H Q) (k : ∀ σ' H', Q σ' H' → Q' σ' H') : sG X tg v σ H Q' := fun pins s u I r =>
  thn (h pins s u I r) fun _ s' ⟨σ', H', I', q⟩ => ⟨σ', H', I', k σ' H' q⟩
def sGs (X : Cx) (ts : List Expr) : TGs := fun vs σ H Q => ∀ (pins : List (Addr × Obj)) (s : Shared) (us : List Value), Inv X pins σ H s → Vals vs us → wpAny (model X.prog X.w) X.A (assignInOrder ((assignEach ts X.env).map (·.2)) us) (fun _ s' => ∃ σ' H', Inv X pins σ' H' s' ∧ Q σ' H') X.xe s
theorem pgs_s {ts : List Expr} : PGs X ts (sGs X ts) := ⟨fun pins s σ H vs us Q I r h => h pins s us I r⟩
theorem sGs_of {ts : List Expr} {t : TGs} {vs : List V} {σ : St} {H : Hp} {Q : St → Hp → Prop} (h : PGs X ts t) (q : t vs σ H Q) : sGs X ts vs σ H Q := fun pins s us I r => h.run pins s σ H vs us Q I r q
def sI (X : Cx) (tg iter : Expr) : TI := fun σ H R => ∀ (pins : List (Addr × Obj)) (s : Shared), Inv X pins σ H s → wpAny (model X.prog X.w) X.A (eval iter X.env) (fun v s1 => wpAny (model X.prog X.w) X.A (pyIter v) (PIE X pins σ tg R) X.xe s1) X.xe s
theorem pi_s {tg iter : Expr} : PI X tg iter (sI X tg iter) := ⟨fun pins s σ H R I h => h pins s I⟩
theorem sI_of {tg iter : Expr} {t : TI} {σ : St} {H : Hp} {R : L2.It → Hp → Prop} (h : PI X tg iter t) (q : t σ H R) : sI X tg iter σ H R := fun pins s I => h.run pins s σ H R I q
def sO (X : Cx) (f : Value → Value → Sem Value) : R2 := fun x y H Q => ∀ (pins : List (Addr × Obj)) (s : Shared) (σ : St) (v u : Value), Inv X pins σ H s → RelV x v → RelV y u → wpAny (model X.prog X.w) X.A (f v u) (EP X pins σ Q) X.xe s
theorem op_s {f : Value → Value → Sem Value} : OpR X f (sO X f) := fun pins s σ H x y v u Q I rx ry h => h pins s σ v u I rx ry
theorem sO_of {f : Value → Value → Sem Value} {r : R2} {x y : V} {H : Hp} {Q : VK} (h : OpR X f r) (q : r x y H Q) : sO X f x y H Q := fun pins s σ v u I rx ry => h pins s σ H x y v u Q I rx ry q
def sCall (X : Cx) (f : Value) : List V → Hp → VK → Prop := fun xs H Q => ∀ (pins : List (Addr × Obj)) (s : Shared) (σ : St) (us : List Value), Inv X pins σ H s → Vals xs us → wpAny (model X.prog X.w) X.A (call f us) (EP X pins σ Q) X.xe s
theorem call_s {f : Value} : CallR X f (sCall X f) := fun pins s σ H xs us Q I r h => h pins s σ us I r
theorem sCall_of {f : Value} {r : List V → Hp → VK → Prop} {xs : List V} {H : Hp} {Q : VK} (h : CallR X f r) (q : r xs H Q) : sCall X f xs H Q := fun pins s σ us I rv => h pins s σ H xs us Q I rv q
end

/-! ### promises over data -/
def ArgsR (F H : Hp) : List V → List B → Prop
  | vs, [] => vs = []
  | vs, b :: bs => ∃ v r, vs = v :: r ∧ ArgR F H v b ∧ ArgsR F H r bs
def ownA : List V → List B → List Addr
  | .ref a :: vs, .own _ :: bs => a :: ownA vs bs
  | _ :: vs, _ :: bs => ownA vs bs
  | _, _ => []
structure Ext (F F' H H' : Hp) (M : List Addr) : Prop where
  sf : Same F F'
  fh : Same F' H'
  grow : ∀ b, F b = none → H b ≠ none → F' b = none
  keep : ∀ b o, H b = some o → b ∉ M → H' b = some o
def Back (F' H' : Hp) : List Addr → List (List D) → Prop
  | [], os => os = []
  | a :: M, os => ∃ xs r us, os = xs :: r ∧ F' a = none ∧ H' a = some (.lst us) ∧ RepL F' xs us ∧ Back F' H' M r
def PostV (cls : Nat → Addr) (F H : Hp) (M : List Addr) (Q : VK) (E : XK) (o : Out) (os : List (List D)) : Prop :=
  ∀ F' H', Ext F F' H H' M → match o with
    | .ok (.val d) => Back F' H' M os → ∀ v, RepD F' d v → Q v H'
    | .ok (.own xs) => Back F' H' M os → ∀ a us, F' a = none → H a = none → H' a = some (.lst us) → RepL F' xs us → Q (.ref a) H'
    | .err c => E (.ref (cls c)) none H'
def spV (cls : Nat → Addr) (n : Nat) (sp : DSp) : Sp := fun vs H Q E => vs.length = n ∧ ∃ F bs K0, Same F H ∧ ArgsR F H vs bs ∧ (ownA vs bs).Nodup ∧ sp bs K0 ∧
  ∀ o os, K0 o os → PostV cls F H (ownA vs bs) Q E o os

/-! ### the state behind a call -/
theorem putBack_len : ∀ {ρ : Env} {is : List Nat} {os : List (List D)}, (putBack ρ is os).length = ρ.length
  | ρ, [], _ => rfl
  | ρ, _ :: _, [] => rfl
  | ρ, i :: is, xs :: os => by
    show (putBack (ρ.set i _) is os).length = _
    rw [putBack_len, List.length_set]
theorem nodupB_iff : ∀ {l : List Nat}, nodupB l = true → l.Nodup
  | [], _ => List.nodup_nil
  | x :: r, h => by
    unfold nodupB at h
    simp only [Bool.and_eq_true, Bool.not_eq_true', List.contains_eq_mem, decide_eq_false_iff_not] at h
    exact List.nodup_cons.mpr ⟨h.1, nodupB_iff h.2⟩
/-- the slots is own the lists at M -/
def OwnsAt (ρ : Env) (σ : St) : List Nat → List Addr → Prop
  | [], M => M = []
  | i :: is, M => ∃ a r, M = a :: r ∧ Own ρ σ i a ∧ OwnsAt ρ σ is r
theorem OwnsAt.mem {ρ : Env} {σ : St} : ∀ {is : List Nat} {M : List Addr} {a : Addr}, OwnsAt ρ σ is M → a ∈ M → ∃ i ∈ is, Own ρ σ i a
  | [], M, a, h, ha => by cases h; cases ha
  | i :: is, M, a, ⟨b, r, e, o, q⟩, ha => by
    subst e
    rcases List.mem_cons.mp ha with z | z
    · exact ⟨i, List.mem_cons_self, z ▸ o⟩
    · obtain ⟨j, hj, oj⟩ := OwnsAt.mem q z
      exact ⟨j, List.mem_cons_of_mem _ hj, oj⟩
theorem putBack_out : ∀ {is : List Nat} {ρ : Env} {os : List (List D)} {j : Nat}, j ∉ is → getE (putBack ρ is os) j = getE ρ j
  | [], ρ, _, _, _ => rfl
  | _ :: _, ρ, [], _, _ => rfl
  | i :: is, ρ, xs :: os, j, h => by
    show getE (putBack (ρ.set i _) is os) j = _
    rw [putBack_out (fun z => h (List.mem_cons_of_mem _ z)), getE_set, if_neg (fun z => h (by rw [z.1]; exact List.mem_cons_self))]
theorem putBack_in {σ : St} {F' H' : Hp} : ∀ {is : List Nat} {ρ : Env} {os : List (List D)} {M : List Addr} {j : Nat}, is.Nodup → OwnsAt ρ σ is M → Back F' H' M os → j ∈ is →
    ∃ xs a us, getE (putBack ρ is os) j = some (.own xs) ∧ Own ρ σ j a ∧ a ∈ M ∧ F' a = none ∧ H' a = some (.lst us) ∧ RepL F' xs us
  | [], _, _, _, _, _, _, _, hj => by cases hj
  | i :: is, ρ, os, M, j, nd, ⟨a, r, e, o, q⟩, hb, hj => by
    subst e
    obtain ⟨xs, r', us, e, h1, h2, h3, h4⟩ := hb
    subst e
    have hi : i ∉ is := (List.nodup_cons.mp nd).1
    by_cases hji : j = i
    · subst hji
      refine ⟨xs, a, us, ?_, o, List.mem_cons_self, h1, h2, h3⟩
      show getE (putBack (ρ.set j _) is r') j = _
      obtain ⟨⟨ys, e⟩, _⟩ := o
      rw [putBack_out hi, getE_set, if_pos ⟨rfl, getE_lt e⟩]
    · have hj' : j ∈ is := by
        rcases List.mem_cons.mp hj with z | z
        · exact absurd z hji
        · exact z
      have own' : ∀ {k b}, k ≠ i → (Own (ρ.set i (some (.own xs))) σ k b ↔ Own ρ σ k b) := fun {k b} hk => by
        unfold Own
        rw [getE_set, if_neg (fun z => hk z.1.symm)]
      have oa : ∀ {js : List Nat} {N : List Addr}, i ∉ js → OwnsAt ρ σ js N → OwnsAt (ρ.set i (some (.own xs))) σ js N := fun {js} => by
        induction js with
        | nil => exact fun _ h => h
        | cons k ks ih =>
          rintro N hn ⟨b, t, e, ob, qb⟩
          exact ⟨b, t, e, (own' (fun z => hn (z ▸ List.mem_cons_self))).mpr ob, ih (fun z => hn (List.mem_cons_of_mem _ z)) qb⟩
      obtain ⟨ys, b, ws, k1, k2, k3, k4⟩ := putBack_in (ρ := ρ.set i (some (.own xs))) (List.nodup_cons.mp nd).2 (oa hi q) h4 hj'
      exact ⟨ys, b, ws, k1, (own' hji).mp k2, List.mem_cons_of_mem _ k3, k4⟩
theorem Sim.called {T : Fr} {ρ : Env} {σ : St} {F H F' H' : Hp} {is : List Nat} {M : List Addr} {os : List (List D)} (s : Sim T ρ σ F H) (nd : is.Nodup) (hM : OwnsAt ρ σ is M) (x : Ext F F' H H' M) (hb : Back F' H' M os) : Sim T (putBack ρ is os) σ F' H' := by
  have sl : ∀ j b, getE (putBack ρ is os) j = some b → (j ∈ is ∧ ∃ xs a us, b = .own xs ∧ Own ρ σ j a ∧ a ∈ M ∧ F' a = none ∧ H' a = some (.lst us) ∧ RepL F' xs us) ∨ (j ∉ is ∧ getE ρ j = some b) := fun j b e => by
    by_cases hj : j ∈ is
    · obtain ⟨xs, a, us, k1, k2⟩ := putBack_in nd hM hb hj
      rw [k1] at e; cases e
      exact .inl ⟨hj, xs, a, us, rfl, k2⟩
    · rw [putBack_out hj] at e; exact .inr ⟨hj, e⟩
  have ow : ∀ j a, Own (putBack ρ is os) σ j a ↔ Own ρ σ j a := fun j a => by
    by_cases hj : j ∈ is
    · obtain ⟨xs, b, us, k1, k2, _⟩ := putBack_in nd hM hb hj
      constructor
      · rintro ⟨_, q⟩; exact ⟨k2.1, q⟩
      · rintro ⟨_, q⟩; exact ⟨⟨xs, k1⟩, q⟩
    · unfold Own; rw [putBack_out hj]
  have notM : ∀ j a, j ∉ is → Own ρ σ j a → a ∉ M := fun j a hj oj ha => by
    obtain ⟨i, hi, oi⟩ := hM.mem ha
    exact hj (s.dist j i a oj oi ▸ hi)
  have Hne : ∀ a, a ∈ M → H a ≠ none := fun a ha => by
    obtain ⟨i, _, oi⟩ := hM.mem ha
    obtain ⟨_, _, _, _, h3, _⟩ := s.own_at oi
    rw [h3]; simp
  exact {
    ff := s.ff.trans x.sf
    fh := x.fh
    grow := fun b h0 h1 => by
      refine x.grow b (s.grow b h0 h1) ?_
      cases e : T.H0 b with
      | none => exact absurd e h1
      | some o =>
        by_cases hb' : b ∈ T.P.map (·.2)
        · obtain ⟨p, hp, rfl⟩ := List.mem_map.mp hb'
          obtain ⟨op, _, _⟩ := s.par p hp
          obtain ⟨_, _, _, _, h3, _⟩ := s.own_at op
          rw [h3]; simp
        · rw [s.keep b o e hb']; simp
    keep := fun b o e hb' => by
      refine x.keep b o (s.keep b o e hb') fun hm => ?_
      obtain ⟨i, _, oi⟩ := hM.mem hm
      rcases s.fresh i b oi with z | z
      · rw [z] at e; cases e
      · exact hb' (List.mem_map.mpr ⟨_, z, rfl⟩)
    len := by rw [putBack_len]; exact s.len
    slot := fun j b e => by
      rcases sl j b e with ⟨_, xs, a, us, rfl, k2, _, k3, k4, k5⟩ | ⟨hj, e'⟩
      · exact ⟨_, k2.2, a, us, rfl, k3, k4, k5⟩
      · obtain ⟨v, h1, h2⟩ := s.slot j b e'
        refine ⟨v, h1, ?_⟩
        cases b with
        | val d => exact RepD.mono x.sf d v h2
        | own ys =>
          obtain ⟨a, us, rfl, h3, h4, h5⟩ := h2
          have na := notM j a hj ⟨⟨ys, e'⟩, h1⟩
          exact ⟨a, us, rfl, x.grow a h3 (by rw [h4]; simp), x.keep _ _ h4 na, RepL.mono x.sf _ _ h5⟩
    dist := fun i j a oi oj => s.dist i j a ((ow i a).mp oi) ((ow j a).mp oj)
    fresh := fun i a oi => s.fresh i a ((ow i a).mp oi)
    par := fun p hp => by
      obtain ⟨q1, q2⟩ := s.par p hp
      exact ⟨(ow _ _).mpr q1, q2⟩
    pins := fun p hp => by
      obtain ⟨k1, k2, k3⟩ := s.pins p hp
      refine ⟨x.keep _ _ k1 fun hm => ?_, x.grow _ k2 (by rw [k1]; simp), fun i oi => k3 i ((ow i _).mp oi)⟩
      obtain ⟨i, _, oi⟩ := hM.mem hm
      exact k3 i oi }

/-! ### the arguments as they were evaluated -/
def ArsR (F : Hp) (σ : St) : List V → List Ar → Prop
  | vs, [] => vs = []
  | vs, .v d :: r => ∃ v vr, vs = v :: vr ∧ RepD F d v ∧ ArsR F σ vr r
  | vs, .o s :: r => ∃ a vr, vs = .ref a :: vr ∧ σ[s]? = some (some (.ref a)) ∧ ArsR F σ vr r
  | vs, .w s :: r => ∃ a vr, vs = .ref a :: vr ∧ σ[s]? = some (some (.ref a)) ∧ ArsR F σ vr r
theorem ArsR.mono {F F' : Hp} {σ : St} (s : Same F F') : ∀ {vs : List V} {ars : List Ar}, ArsR F σ vs ars → ArsR F' σ vs ars
  | _, [], h => h
  | _, .v d :: r, ⟨v, vr, e, h, q⟩ => ⟨v, vr, e, RepD.mono s d v h, ArsR.mono s q⟩
  | _, .o _ :: r, ⟨a, vr, e, h, q⟩ => ⟨a, vr, e, h, ArsR.mono s q⟩
  | _, .w _ :: r, ⟨a, vr, e, h, q⟩ => ⟨a, vr, e, h, ArsR.mono s q⟩
theorem ArsR.vals {F : Hp} {σ : St} : ∀ {vs : List V} {ars : List Ar} {ds : List D}, ArsR F σ vs ars → valsA ars = some ds → RepL F ds vs
  | _, [], ds, h, e => by cases e; exact h
  | _, .v d :: r, ds, ⟨v, vr, e, h, q⟩, e2 => by
    unfold valsA at e2
    cases e3 : valsA r with
    | none => rw [e3] at e2; cases e2
    | some ds' =>
      rw [e3] at e2; cases e2
      exact ⟨v, vr, e, h, ArsR.vals q e3⟩
  | _, .o _ :: r, ds, _, e => by cases e
  | _, .w _ :: r, ds, _, e => by cases e
theorem ArsR.len {F : Hp} {σ : St} : ∀ {vs : List V} {ars : List Ar}, ArsR F σ vs ars → vs.length = ars.length
  | _, [], h => by cases h; rfl
  | _, .v d :: r, ⟨v, vr, e, h, q⟩ => by subst e; simp [ArsR.len q]
  | _, .o _ :: r, ⟨a, vr, e, h, q⟩ => by subst e; simp [ArsR.len q]
  | _, .w _ :: r, ⟨a, vr, e, h, q⟩ => by subst e; simp [ArsR.len q]
theorem resolve_own {ρ : Env} {i : Nat} {r : List Ar} {bs : List B} (h : resolve ρ (.o i :: r) = some bs) : ∃ xs bs', getE ρ i = some (.own xs) ∧ resolve ρ r = some bs' ∧ bs = .own xs :: bs' := by
  unfold resolve at h
  split at h
  · rename_i xs bs' h1 h2
    cases h
    exact ⟨xs, bs', h1, h2, rfl⟩
  · cases h
theorem resolve_bor {ρ : Env} {i : Nat} {r : List Ar} {bs : List B} (h : resolve ρ (.w i :: r) = some bs) : ∃ xs bs', getE ρ i = some (.own xs) ∧ resolve ρ r = some bs' ∧ bs = .val (.lst xs) :: bs' := by
  unfold resolve at h
  split at h
  · rename_i xs bs' h1 h2
    cases h
    exact ⟨xs, bs', h1, h2, rfl⟩
  · cases h
theorem resolve_val {ρ : Env} {d : D} {r : List Ar} {bs : List B} (h : resolve ρ (.v d :: r) = some bs) : ∃ bs', resolve ρ r = some bs' ∧ bs = .val d :: bs' := by
  unfold resolve at h
  cases e : resolve ρ r with
  | none => rw [e] at h; cases h
  | some bs' => rw [e] at h; cases h; exact ⟨bs', rfl, rfl⟩
section
variable {T : Fr} {ρ : Env} {σ : St} {F H : Hp}
/-- no borrowed ones: the callee sees the state as it is -/
theorem Sim.args0 (s : Sim T ρ σ F H) : ∀ {ars : List Ar} {vs : List V} {bs : List B}, ArsR F σ vs ars → resolve ρ ars = some bs → borrows ars = false → ArgsR F H vs bs ∧ OwnsAt ρ σ (slotsO ars) (ownA vs bs)
  | [], vs, bs, h, e, _ => by cases e; cases h; exact ⟨rfl, rfl⟩
  | .v d :: r, vs, bs, ⟨v, vr, e, h, q⟩, e2, hb => by
    obtain ⟨bs', e3, rfl⟩ := resolve_val e2
    obtain ⟨h1, h2⟩ := Sim.args0 s q e3 hb
    subst e
    refine ⟨⟨v, vr, rfl, h, h1⟩, ?_⟩
    cases v <;> exact h2
  | .o i :: r, vs, bs, ⟨a, vr, e, h, q⟩, e2, hb => by
    obtain ⟨xs, bs', e3, e4, rfl⟩ := resolve_own e2
    obtain ⟨h1, h2⟩ := Sim.args0 s q e4 hb
    subst e
    obtain ⟨a', us, k1, k2, k3, k4, k5⟩ := s.own e3
    rw [h] at k1; cases k1
    exact ⟨⟨_, vr, rfl, ⟨a, us, rfl, k3, k4, k5⟩, h1⟩, a, _, rfl, k2, h2⟩
  | .w i :: r, _, _, _, _, hb => by cases hb
theorem OwnsAt.nodup {T : Fr} {ρ : Env} {σ : St} {F H : Hp} (s : Sim T ρ σ F H) : ∀ {is : List Nat} {M : List Addr}, is.Nodup → OwnsAt ρ σ is M → M.Nodup
  | [], M, _, h => by cases h; exact List.nodup_nil
  | i :: is, M, nd, ⟨a, r, e, o, q⟩ => by
    subst e
    refine List.nodup_cons.mpr ⟨fun ha => ?_, OwnsAt.nodup s (List.nodup_cons.mp nd).2 q⟩
    obtain ⟨j, hj, oj⟩ := q.mem ha
    exact (List.nodup_cons.mp nd).1 (s.dist i j a o oj ▸ hj)
/-- the borrowed lists frozen -/
def lent (F H : Hp) (W : List Addr) : Hp := fun b => if b ∈ W then H b else F b
theorem lent_same (s : Same F H) (W : List Addr) : Same F (lent F H W) := fun b o e => by
  unfold lent
  split
  · exact s b o e
  · exact e
theorem lent_in (s : Same F H) (W : List Addr) : Same (lent F H W) H := fun b o e => by
  unfold lent at e
  split at e
  · exact e
  · exact s b o e
theorem Sim.args1 (s : Sim T ρ σ F H) : ∀ {ars : List Ar} {vs : List V} {bs : List B}, ArsR F σ vs ars → resolve ρ ars = some bs → slotsO ars = [] →
    ∃ W : List Addr, (∀ W' : List Addr, (∀ a ∈ W, a ∈ W') → ArgsR (lent F H W') H vs bs) ∧ ownA vs bs = []
  | [], vs, bs, h, e, _ => by cases e; cases h; exact ⟨[], fun _ _ => rfl, rfl⟩
  | .v d :: r, vs, bs, ⟨v, vr, e, h, q⟩, e2, hb => by
    obtain ⟨bs', e3, rfl⟩ := resolve_val e2
    obtain ⟨W, h1, h2⟩ := Sim.args1 s q e3 hb
    subst e
    refine ⟨W, fun W' hW => ⟨v, vr, rfl, RepD.mono (lent_same s.fh W') d v h, h1 W' hW⟩, ?_⟩
    cases v <;> exact h2
  | .o i :: r, _, _, _, _, hb => by cases hb
  | .w i :: r, vs, bs, ⟨a, vr, e, h, q⟩, e2, hb => by
    obtain ⟨xs, bs', e3, e4, rfl⟩ := resolve_bor e2
    obtain ⟨W, h1, h2⟩ := Sim.args1 s q e4 hb
    subst e
    obtain ⟨a', us, k1, k2, k3, k4, k5⟩ := s.own e3
    rw [h] at k1; cases k1
    refine ⟨a :: W, fun W' hW => ⟨_, vr, rfl, ⟨a, us, rfl, ?_, RepL.mono (lent_same s.fh W') _ _ k5⟩, h1 W' fun b hb => hW b (List.mem_cons_of_mem _ hb)⟩, h2⟩
    unfold lent
    rw [if_pos (hW a List.mem_cons_self)]
    exact k4
end
end DV
end
section
set_option Elab.async false
set_option maxRecDepth 100000
set_option linter.all false
/-! DV3: the checker: the small syntax against the program's own. -/
namespace DV
open PySem PySem.Spec PyProof.Rows L2

def opOf : Op → Operator
  | .add => .Add | .sub => .Sub | .mul => .Mult | .fdiv => .FloorDiv | .mod => .Mod | .pow => .Pow | .shl => .LShift
def cmOf : Cm → CmpOp
  | .lt => .Lt | .le => .LtE | .gt => .Gt | .ge => .GtE | .eq => .Eq | .ne => .NotEq | .is => .Is | .isNot => .IsNot
def tyName : Ty → String
  | .int => "int" | .bool => "bool" | .str => "str" | .list => "list" | .tuple => "tuple"
def biName : Bi → String
  | .abs => "abs" | .int => "int" | .sum => "sum" | .all => "all" | .any => "any" | .min1 => "min" | .max1 => "max" | .list => "list" | .tuple => "tuple" | .repr => "repr" | .sorted => "sorted" | .listRange => "list"
def bjName : Bj → String
  | .min2 => "min" | .max2 => "max"

structure Cc where
  N : List Str
  sc : Scope
  fn : Str → Bool
  G : List (Str × Nat × Nat)
  exc : List Str
  cons : List (Str × Int)
  lvl : Nat
  pm : List Nat
  cm : Bool
  ev : Option Nat

def nod (x : Str) : Bool := !(x == ("__debug__" : Str)) && !(x == ("__classdict__" : Str)) && !(x == ("__name__" : Str))
def glB (sc : Scope) (x : Str) : Bool := decide (sc.names.lookup x = some .globalImplicit) && nod x
def visB (sc : Scope) (x : Str) : Bool := match sc.names.lookup x with
  | some .local => true
  | some .cell => true
  | some .free => true
  | _ => false
def locB (c : Cc) (x : Str) : Bool := match c.sc.names.lookup x with
  | some .local => true
  | some .cell => c.fn x
  | _ => false
def chkV (c : Cc) (i : Nat) (x : Str) : Bool := decide (c.N[i]? = some x) && visB c.sc x && nod x
def notStar : Expr → Bool
  | .Starred _ _ => false
  | _ => true
def plainT : Expr → Bool
  | .UnaryOp .Not _ _ => false
  | .BoolOp _ _ _ => false
  | .IfExp _ _ _ _ => false
  | .Compare _ _ _ _ => false
  | _ => true
def notSlice : Expr → Bool
  | .Slice _ _ _ _ => false
  | _ => true
def notComp : Expr → Bool
  | .ListComp _ _ _ _ => false
  | .SetComp _ _ _ _ => false
  | .DictComp _ _ _ _ _ => false
  | _ => true
def isLc : Expr → Bool
  | .ListComp _ _ _ _ => true
  | _ => false
def notSet : Expr → Bool
  | .Set _ _ _ => false
  | _ => true
def isTupE : Expr → Bool
  | .Tuple _ _ _ => true
  | _ => false
def bltB (c : Cc) (nm : String) (x : Str) : Bool := decide (x = (nm : Str)) && glB c.sc x
def chkTy (c : Cc) (t : Ty) : Expr → Bool
  | .Name x _ => bltB c (tyName t) x
  | _ => false
def chkTys (c : Cc) : List Ty → List Expr → Bool
  | [], [] => true
  | t :: ts, e :: es => chkTy c t e && chkTys c ts es
  | _, _ => false
/-- an exception's class: one of the table, or the built-in ValueError behind them -/
def chkX (c : Cc) (i : Nat) : Expr → Bool
  | .Name x _ => (decide (c.exc[i]? = some x) && glB c.sc x) || (decide (i = c.exc.length) && bltB c "ValueError" x)
  | _ => false
def chkXs (c : Cc) : List Nat → List Expr → Bool
  | [], [] => true
  | t :: ts, e :: es => chkX c t e && chkXs c ts es
  | _, _ => false

def inVs (vs : Option (List Nat)) (i : Nat) : Bool := match vs with
  | some l => l.contains i
  | none => true
mutual
def chkP (c : Cc) (vs : Option (List Nat)) : Pat → Expr → Bool
  | .name i, .Name x _ => decide (c.N[i]? = some x) && locB c x && inVs vs i
  | .tup ps, .Tuple es _ _ => c.cm && chkPs c vs ps es
  | _, _ => false
def chkPs (c : Cc) (vs : Option (List Nat)) : Pats → List Expr → Bool
  | .nil, [] => true
  | .cons p r, e :: es => notStar e && chkP c vs p e && chkPs c vs r es
  | _, _ => false
end
mutual
def chkE (c : Cc) : E → Expr → Bool
  | .var i, .Name x _ => chkV c i x
  | .int i, .Constant (.int j) _ _ => decide (i = j)
  | .str x, .Constant (.str y) _ _ => decide (x = y)
  | .bl b, .Constant (.bool k) _ _ => decide (b = k)
  | .non, .Constant .none _ _ => true
  | .con x i, .Name y _ => decide (x = y) && glB c.sc y && decide (c.cons.lookup y = some i)
  | .bin o a b, .BinOp l op r _ => decide (opOf o = op) && chkE c a l && chkE c b r
  | .neg a, .UnaryOp .USub x _ => chkE c a x
  | .cmp o a b, .Compare l [op] [r] _ => decide (cmOf o = op) && chkE c a l && chkE c b r
  | .chain o p a b d, .Compare l [op, op'] [m, r] _ => decide (cmOf o = op) && decide (cmOf p = op') && chkE c a l && chkE c b m && chkE c d r
  | .and a b, .BoolOp .And (x :: y :: r) pos => chkE c a x && (match r with
    | [] => chkE c b y
    | _ :: _ => chkE c b (.BoolOp .And (y :: r) pos))
  | .or a b, .BoolOp .Or (x :: y :: r) pos => chkE c a x && (match r with
    | [] => chkE c b y
    | _ :: _ => chkE c b (.BoolOp .Or (y :: r) pos))
  | .not a, .UnaryOp .Not x _ => chkE c a x
  | .ite t a b, .IfExp u x y _ => chkT c t u && chkE c a x && chkE c b y
  | .call f as, .Call (.Name x _) args [] _ => c.cm && glB c.sc x && (match c.G[f]? with
    | some (nm, ar, lv) => decide (nm = x) && decide (args.length = ar) && decide (lv ≤ c.lvl)
    | none => false) && chkEs c as args
  | .tup as, .Tuple es _ _ => decide (es.length ≤ 1000) && chkEs c as es
  | .lst as, .List es _ => decide (es.length ≤ 1000) && chkEs c as es
  | .ix a i, .Subscript l r _ => notSlice r && chkE c a l && chkE c i r
  | .ixo s i, .Subscript (.Name x _) r _ => notSlice r && chkV c s x && chkE c i r
  | .len a, .Call (.Name x _) [y] [] _ => bltB c "len" x && notStar y && chkE c a y
  | .leno s, .Call (.Name x _) [.Name y _] [] _ => bltB c "len" x && chkV c s y
  | .slice a lo hi, .Subscript l (.Slice (some p) (some q) none _) _ => chkE c a l && chkE c lo p && chkE c hi q
  | .slFrom a lo, .Subscript l (.Slice (some p) none none _) _ => chkE c a l && chkE c lo p
  | .slTo a hi, .Subscript l (.Slice none (some q) none _) _ => chkE c a l && chkE c hi q
  | .bif b a, .Call (.Name x _) [y] [] _ => c.cm && bltB c (biName b) x && notStar y && chkE c a y
  | .bjf b a d, .Call (.Name x _) [y, z] [] _ => c.cm && bltB c (bjName b) x && notStar y && notStar z && chkE c a y && chkE c d z
  | .isi a tys, .Call (.Name x _) [y, t] [] _ => bltB c "isinstance" x && notStar y && chkE c a y && (match tys, t with
    | [ty], .Name z p => chkTy c ty (.Name z p)
    | tys, .Tuple es _ _ => decide (es.length ≤ 1000) && chkTys c tys es
    | _, _ => false)
  | .excIs cs many, .Call (.Name x _) [.Name e _, t] [] _ => bltB c "isinstance" x && (match c.ev with
    | some s => chkV c s e
    | none => false) && (match many, cs, t with
    | false, [k], .Name z p => chkX c k (.Name z p)
    | true, ks, .Tuple es _ _ => decide (es.length ≤ 1000) && chkXs c ks es
    | _, _, _ => false)
  | .lc it p t e vs, .ListComp elt [⟨tg, iter, ifs, asy⟩] scope _ => c.cm && decide (asy = 0) && vs.all (fun v => !c.pm.contains v) && blkC c.N c.sc scope (vs.map fun v => (c.N.getD v "", v)) && notSet iter && chkI c it iter tg &&
      chkP { c with sc := relS scope c.sc, fn := fun x => scope.names.lookup x == some .cell } (some vs) p tg &&
      (match ifs with
        | [] => (match t with | .yes => true | _ => false)
        | [x] => chkT { c with sc := relS scope c.sc, fn := fun x => scope.names.lookup x == some .cell } t x
        | _ => false) &&
      chkE { c with sc := relS scope c.sc, fn := fun x => scope.names.lookup x == some .cell } e elt
  | .pop s, .Call (.Attribute (.Name x _) nm apos) [] [] cpos => decide (nm = ("pop" : Str)) && chkV c s x && (apos.endLine == cpos.line)
  | .lrg a, .Call (.Name x _) [.Call (.Name y _) [z] [] _] [] _ => c.cm && bltB c "list" x && bltB c "range" y && notStar z && chkE c a z
  | .idx s e, .Call (.Attribute (.Name x _) nm apos) [v] [] cpos => decide (nm = ("index" : Str)) && chkV c s x && notStar v && (apos.endLine == cpos.line) && chkE c e v
  | _, _ => false
def chkT (c : Cc) : T → Expr → Bool
  | .cmp o a b, .Compare l [op] [r] _ => decide (cmOf o = op) && chkE c a l && chkE c b r
  | .chain o p a b d, .Compare l [op, op'] [m, r] _ => decide (cmOf o = op) && decide (cmOf p = op') && chkE c a l && chkE c b m && chkE c d r
  | .and a b, .BoolOp .And (x :: y :: r) pos => chkT c a x && (match r with
    | [] => chkT c b y
    | _ :: _ => chkT c b (.BoolOp .And (y :: r) pos))
  | .or a b, .BoolOp .Or (x :: y :: r) pos => chkT c a x && (match r with
    | [] => chkT c b y
    | _ :: _ => chkT c b (.BoolOp .Or (y :: r) pos))
  | .not a, .UnaryOp .Not x _ => chkT c a x
  | .val e, x => plainT x && chkE c e x
  | .tro s, .Name x _ => chkV c s x
  | _, _ => false
def chkEs (c : Cc) : Es → List Expr → Bool
  | .nil, [] => true
  | .cons e r, x :: xs => notStar x && chkE c e x && chkEs c r xs
  | .own s r, .Name x _ :: xs => chkV c s x && chkEs c r xs
  | .bor s r, .Name x _ :: xs => chkV c s x && chkEs c r xs
  | _, _ => false
def chkI (c : Cc) : Iu → Expr → Expr → Bool
  | .seq e, x, _ => chkE c e x
  | .rng1 a, .Call (.Name x _) [y] [] _, _ => bltB c "range" x && notStar y && chkE c a y
  | .rng2 a b, .Call (.Name x _) [y, z] [] _, _ => bltB c "range" x && notStar y && notStar z && chkE c a y && chkE c b z
  | .rng3 a b d, .Call (.Name x _) [y, z, u] [] _, _ => bltB c "range" x && notStar y && notStar z && notStar u && chkE c a y && chkE c b z && chkE c d u
  | .zip a b, .Call (.Name x _) [y, z] [] _, tg => bltB c "zip" x && isTupE tg && notStar y && notStar z && chkE c a y && chkE c b z
  | .enum a, .Call (.Name x _) [y] [] _, tg => bltB c "enumerate" x && isTupE tg && notStar y && chkE c a y
  | _, _, _ => false
end
/-- swapsWith, as a Bool -/
def swB (c : Cc) (x : Str) (px : Pos) : Expr → Bool
  | .ListComp _ _ scope pos => decide (c.sc.names.lookup x = some .local) && (px.line == pos.line) && !(scope.names.any fun (n, k) => n == x && (k == .local || k == .cell))
  | _ => false
/-- a, b = x, y with plain names of one line, not all of constants -/
def parB (c : Cc) (x y : Str) (px py : Pos) (a b : Expr) : Bool :=
  decide (c.sc.names.lookup x = some .local) && decide (c.sc.names.lookup y = some .local) && (py.line == px.line) && !(x == y) &&
    !([a, b].all (foldedForSure 8)) && !([a, b].all (constantsAlone 8)) && notStar a && notStar b
mutual
def chkS (c : Cc) : S → Stmt → Bool
  | .set i e, .Assign [.Name x px] v _ => decide (c.N[i]? = some x) && locB c x && !(c.ev == some i) && chkE c e v && (notComp v || isLc v)
  | .unp p e, .Assign [.Tuple ts k pt] v _ => c.cm && notComp v && !(isTupE v) && chkP c none p (.Tuple ts k pt) && chkE c e v
  | .par i j a b, .Assign [.Tuple [.Name x px, .Name y py] _ _] (.Tuple [v, w] _ _) _ => c.cm && decide (c.N[i]? = some x) && decide (c.N[j]? = some y) && !(i == j) && parB c x y px py v w && chkE c a v && chkE c b w
  | .six s i e, .Assign [.Subscript (.Name x _) r _] v _ => notSlice r && chkV c s x && chkE c i r && chkE c e v
  | .swp s i j k l, .Assign [.Tuple [t1, t2] _ _] (.Tuple [t3, t4] _ _) _ =>
    c.cm && chkE c (.ixo s i) t1 && chkE c (.ixo s j) t2 && chkE c (.ixo s k) t3 && chkE c (.ixo s l) t4
  | .aug i o e, .AugAssign (.Name x _) op v _ => c.cm && decide (opOf o = op) && chkV c i x && locB c x && chkE c e v
  | .aix s i o e, .AugAssign (.Subscript (.Name x _) r _) op v _ => notSlice r && decide (opOf o = op) && chkV c s x && chkE c i r && chkE c e v
  | .app s e, .Expr (.Call (.Attribute (.Name x _) nm apos) [v] [] cpos) _ => decide (nm = ("append" : Str)) && chkV c s x && notStar v && (apos.endLine == cpos.line) && chkE c e v
  | .ext s e, .Expr (.Call (.Attribute (.Name x _) nm apos) [v] [] cpos) _ => decide (nm = ("extend" : Str)) && chkV c s x && notStar v && (apos.endLine == cpos.line) && chkE c e v
  | .ife t a b, .If u x y _ => chkT c t u && chkSs c a x && chkSs c b y
  | .for p it b, .For tg iter body [] _ => c.cm && notSet iter && chkI c it iter tg && chkP c none p tg && chkSs c b body
  | .whi t b, .While u body [] _ => chkT c t u && chkSs c b body
  | .ret e, .Return (some v) _ => chkE c e v
  | .reto s, .Return (some (.Name x _)) _ => chkV c s x
  | .retn, .Return none _ => true
  | .rai k, .Raise (some (.Call (.Name x _) [] [] _)) none _ => c.cm && decide (c.exc[k]? = some x) && glB c.sc x
  | .exp e, .Expr v _ => notComp v && chkE c e v
  | .brk, .Break _ => true
  | .con, .Continue _ => true
  | .pas, .Pass _ => true
  | .tri b k s h, .Try body [.ExceptHandler (some (.Name x _)) (some n) (h0 :: hs) _] [] [] _ => c.cm && decide (c.exc[k]? = some x) && glB c.sc x && decide (c.N[s]? = some n) && decide (c.sc.names.lookup n = some .local) && c.ev.isNone &&
      chkSs c b body && chkSs { c with cm := false, ev := some s } h (h0 :: hs)
  | _, _ => false
def chkSs (c : Cc) : Ss → List Stmt → Bool
  | .nil, [] => true
  | .cons s r, x :: xs => chkS c s x && chkSs c r xs
  | _, _ => false
end
end DV
end
section
set_option Elab.async false
set_option maxRecDepth 100000
set_option linter.all false
/-! DV4: operations by their data. -/
namespace DV
open PySem PySem.Spec PyProof.Rows L2

theorem sameR {F : Hp} : Same F F := fun _ _ e => e
theorem lineEq : (LINE : Nat) = sizeLine := by show 16777216 = 2 ^ 24; decide
theorem leLine {n : Nat} (h : n ≤ LINE) : n ≤ sizeLine := by rw [← lineEq]; exact h
section
variable {X : Cx} {F H : Hp}
theorem noPy {i j : Int} (h : DivOk j) : Builtin.divisionGoesByPylong i j = false := by
  obtain ⟨_, h⟩ := h
  exact PyProof.noPylong_of_log2 h
theorem op_pow' : OpR X (binaryOp .Pow) (rI PowOk fun i j => .int (i ^ j.toNat)) := opI fun i j t u s Q E h q => pow_int h.1 h.2 q
theorem op_div' : OpR X (binaryOp .FloorDiv) (rI (fun _ j => DivOk j) fun i j => .int (i.fdiv j)) := opI fun i j t u s Q E h q => floordiv_int h.1 q (.inl (noPy h))
theorem op_mul' : OpR X (binaryOp .Mult) (rI MulOk fun i j => .int (i * j)) := op_mulW
theorem g_int {i : Int} : Gives F H (.int i) H (.val (.int i)) := .same (d := .int i) rfl
theorem g_bl {i : Bool} : Gives F H (.bl i) H (.val (.bl i)) := .same (d := .bl i) rfl
theorem g_str {i : Str} : Gives F H (.str i) H (.val (.str i)) := .same (d := .str i) rfl
theorem opD_ok {o : Op} {x y : D} {K : B → Prop} {v u : V} (h : opD o x y K) (s : Same F H) (rx : RepD F x v) (ry : RepD F y u) : sO X (binaryOp (opOf o)) v u H (fun z H' => ∃ b, Gives F H z H' b ∧ K b) := by
  unfold opD at h
  split at h
  · cases rx; cases ry
    exact sO_of op_add ⟨_, _, rfl, rfl, _, g_int, h⟩
  · obtain ⟨a, vs, rfl, h1, h2⟩ := rx
    obtain ⟨b, us, rfl, h3, h4⟩ := ry
    refine sO_of op_cat ⟨a, b, vs, us, rfl, rfl, s _ _ h1, s _ _ h3, ?_, fun p hp => ⟨_, .lst hp (h2.append h4), h.2⟩⟩
    rw [← h2.len, ← h4.len]; exact leLine h.1
  · obtain ⟨a, vs, rfl, h1, h2⟩ := rx
    obtain ⟨b, us, rfl, h3, h4⟩ := ry
    obtain ⟨hne, hl, h⟩ := h
    rename_i xs ys
    refine sO_of op_catT ⟨a, b, vs, us, rfl, rfl, SqT.of (s _ _ h1), SqT.of (s _ _ h3), ?_, ?_, fun e => ?_, fun _ p hp => ⟨_, .tup hp (h2.append h4), h⟩⟩
    · intro e
      have := h2.len
      rw [e] at this
      exact hne (List.eq_nil_of_length_eq_zero this)
    · rw [← h2.len, ← h4.len]; exact leLine hl
    · have q := h4.len
      rw [e] at q
      have : ys = [] := List.eq_nil_of_length_eq_zero q
      subst this
      exact ⟨.val (.tup _), .same (d := .tup _) ⟨a, vs, rfl, h1, h2⟩, by rw [List.append_nil] at h; exact h⟩
  · cases rx; cases ry
    exact sO_of op_sub ⟨_, _, rfl, rfl, _, g_int, h⟩
  · cases rx; cases ry
    exact sO_of op_mul' ⟨_, _, rfl, rfl, h.1, _, g_int, h.2⟩
  · obtain ⟨a, vs, rfl, h1, h2⟩ := rx
    cases ry
    obtain ⟨k1, k2, k3, h⟩ := h
    exact sO_of op_rep ⟨a, _, vs, rfl, rfl, s _ _ h1, k2, k3, by rw [← h2.len]; exact leLine k1, fun p hp => ⟨_, .lst hp (h2.rep _), h⟩⟩
  · cases rx; cases ry
    exact sO_of op_div' ⟨_, _, rfl, rfl, h.1, _, g_int, h.2⟩
  · cases rx; cases ry
    exact sO_of op_modN ⟨_, _, rfl, rfl, h.1, _, g_int, h.2⟩
  · cases rx; cases ry
    exact sO_of op_pow' ⟨_, _, rfl, rfl, h.1, _, g_int, h.2⟩
  · cases rx; cases ry
    exact sO_of op_shl ⟨_, _, rfl, rfl, h.1, _, g_int, h.2⟩
  · exact h.elim
theorem isNon_iff {x : D} {v : V} (r : RepD F x v) : decide (v = .non) = x.isNon := by
  cases x with
  | non => cases r; rfl
  | bl => cases r; rfl
  | int => cases r; rfl
  | str => cases r; rfl
  | lst => obtain ⟨_, _, rfl, _⟩ := r; rfl
  | tup => obtain ⟨_, _, rfl, _⟩ := r; rfl
theorem cmD_ok {o : Cm} {x y : D} {K : Bool → Prop} {v u : V} (hu : X.A.units + 64 < cLine) (h : cmD o x y K) (s : Same F H) (rx : RepD F x v) (ry : RepD F y u) : sO X (compareOp (cmOf o)) v u H (fun z H' => H' = H ∧ ∃ k, z = .bl k ∧ K k) := by
  unfold cmD at h
  split at h
  · cases rx; cases ry
    exact sO_of op_lt ⟨_, _, rfl, rfl, rfl, _, rfl, h⟩
  · cases rx; cases ry
    exact sO_of op_le ⟨_, _, rfl, rfl, rfl, _, rfl, h⟩
  · cases rx; cases ry
    exact sO_of op_gt ⟨_, _, rfl, rfl, rfl, _, rfl, h⟩
  · cases rx; cases ry
    exact sO_of op_ge ⟨_, _, rfl, rfl, rfl, _, rfl, h⟩
  · cases rx; cases ry
    refine sO_of op_eq ⟨rfl, rfl, _, rfl, ?_⟩
    rw [dec_int, Bool.beq_eq_decide_eq]; exact h
  · cases rx; cases ry
    refine sO_of op_ne ⟨rfl, rfl, _, rfl, ?_⟩
    rw [dec_int, Bool.beq_eq_decide_eq]; exact h
  · obtain ⟨e1, e2, h⟩ := h
    exact sO_of (op_eqD hu) ⟨_, _, RepD.dp s _ _ rx, RepD.dp s _ _ ry, e1, e2, rfl, _, rfl, by rw [pyEq_py]; exact h⟩
  · obtain ⟨e1, e2, h⟩ := h
    exact sO_of (op_neD hu) ⟨_, _, RepD.dp s _ _ rx, RepD.dp s _ _ ry, e1, e2, rfl, _, rfl, by rw [pyEq_py]; exact h⟩
  · cases ry
    exact sO_of op_isN ⟨rfl, rfl, _, rfl, by rw [isNon_iff rx]; exact h⟩
  · cases ry
    exact sO_of op_notN ⟨rfl, rfl, _, rfl, by rw [isNon_iff rx]; exact h⟩
  · exact h.elim
theorem lenD_ok {x : D} {K : Int → Prop} {v : V} (h : lenD x K) (s : Same F H) (rx : RepD F x v) : sCall X (.builtin "len") [v] H (fun z H' => H' = H ∧ ∃ n, z = .int n ∧ K n) := by
  unfold lenD at h
  split at h
  · obtain ⟨a, vs, rfl, h1, h2⟩ := rx
    exact sCall_of call_len_seq ⟨a, vs, rfl, .inl (SqL.of (s _ _ h1)), rfl, _, rfl, by rw [← h2.len]; exact h⟩
  · obtain ⟨a, vs, rfl, h1, h2⟩ := rx
    exact sCall_of call_len_seq ⟨a, vs, rfl, .inr (SqT.of (s _ _ h1)), rfl, _, rfl, by rw [← h2.len]; exact h⟩
  · cases rx
    exact sCall_of call_len_str ⟨_, rfl, leLine h.1, rfl, _, rfl, h.2⟩
  · exact h.elim
theorem atI_rep {xs : List D} {vs : List V} {k : Int} {d : D} (r : RepL F xs vs) (h : atI xs k = some d) : ∃ v, atI vs k = some v ∧ RepD F d v := by
  unfold atI at h ⊢
  rw [← r.len]
  cases e : ixN xs.length k with
  | none => rw [e] at h; cases h
  | some j =>
    rw [e] at h
    exact r.get h
/-- a subscript, by values -/
def sIx (X : Cx) : V → V → Hp → VK → Prop := fun x y H Q => ∀ (value slice : Expr) (pins : List (Addr × Obj)) (s : Shared) (σ : St) (v u : Value), Inv X pins σ H s → RelV x v → RelV y u →
    subscripted slice false v u = operate [v, u] (getItem v u) → wpAny (model X.prog X.w) X.A (subscriptTail value slice v u) (EP X pins σ Q) X.xe s
theorem ix_s : IxR X (sIx X) := fun value slice pins s σ H x y v u Q I rx ry h hs => h value slice pins s σ v u I rx ry hs
theorem sIx_of {r : R2} {x y : V} {H : Hp} {Q : VK} (h : IxR X r) (q : r x y H Q) : sIx X x y H Q := fun value slice pins s σ v u I rx ry hs => h value slice pins s σ H x y v u Q I rx ry q hs
theorem ixD_ok {x y : D} {K : D → Prop} {v u : V} (h : ixD x y K) (s : Same F H) (rx : RepD F x v) (ry : RepD F y u) : sIx X v u H (fun z H' => H' = H ∧ ∃ d, RepD F d z ∧ K d) := by
  unfold ixD at h
  split at h
  · obtain ⟨a, vs, rfl, h1, h2⟩ := rx
    cases ry
    obtain ⟨d, e, k⟩ := h
    obtain ⟨w, e2, rd⟩ := atI_rep h2 e
    exact sIx_of ix_list ⟨a, vs, _, w, rfl, rfl, SqL.of (s _ _ h1), e2, rfl, d, rd, k⟩
  · obtain ⟨a, vs, rfl, h1, h2⟩ := rx
    cases ry
    obtain ⟨d, e, k⟩ := h
    obtain ⟨w, e2, rd⟩ := atI_rep h2 e
    exact sIx_of ix_tup ⟨a, vs, _, w, rfl, rfl, SqT.of (s _ _ h1), e2, rfl, d, rd, k⟩
  · exact h.elim
def sSl (X : Cx) : V → Option Int → Option Int → Hp → VK → Prop := fun x lo hi H Q => ∀ (pins : List (Addr × Obj)) (s : Shared) (σ : St) (v vl vu : Value) (sl : Addr), Inv X pins σ H s → RelV x v → s.heap.IsSliceOf sl vl vu .none → IsPart vl lo → IsPart vu hi →
    ∃ T id, typeLookup (.type T) "__getitem__" = pure (some (.builtin id)) ∧ s.TypeIs v T ∧ wpAny (model X.prog X.w) X.A (getItem v (.ref sl)) (EP X pins σ Q) X.xe s
theorem sl_s : SlR X (sSl X) := fun pins s σ H x v vl vu lo hi sl Q I rx hs pl pu h => h pins s σ v vl vu sl I rx hs pl pu
theorem sSl_of {r : V → Option Int → Option Int → Hp → VK → Prop} {x : V} {lo hi : Option Int} {H : Hp} {Q : VK} (h : SlR X r) (q : r x lo hi H Q) : sSl X x lo hi H Q := fun pins s σ v vl vu sl I rx hs pl pu => h pins s σ H x v vl vu lo hi sl Q I rx hs pl pu q
theorem slD_ok {x : D} {lo hi : Option Int} {K : B → Prop} {v : V} (h : slD x lo hi K) (s : Same F H) (rx : RepD F x v) : sSl X v lo hi H (fun z H' => ∃ b, Gives F H z H' b ∧ K b) := by
  unfold slD at h
  split at h
  · obtain ⟨a, vs, rfl, h1, h2⟩ := rx
    exact sSl_of sl_list ⟨a, vs, rfl, SqL.of (s _ _ h1), fun p hp => ⟨_, .lst hp (h2.cut _ _), h⟩⟩
  · obtain ⟨a, vs, rfl, h1, h2⟩ := rx
    exact sSl_of sl_tup ⟨a, vs, rfl, SqT.of (s _ _ h1), by rw [← h2.len]; exact h.1, fun p hp => ⟨_, .tup hp (h2.cut _ _), h.2⟩⟩
  · exact h.elim
/-- isinstance with built-in classes -/
theorem kb_non : ∀ t : Ty, kitB "NoneType" (tyName t) = some (tyIs t .non) := by intro t; cases t <;> decide +kernel
theorem kb_bl (b : Bool) : ∀ t : Ty, kitB "bool" (tyName t) = some (tyIs t (.bl b)) := by
  have h : ∀ t : Ty, kitB "bool" (tyName t) = some (tyIs t (.bl true)) := by intro t; cases t <;> decide +kernel
  intro t; rw [h t]; cases t <;> rfl
theorem kb_int (b : Int) : ∀ t : Ty, kitB "int" (tyName t) = some (tyIs t (.int b)) := by
  have h : ∀ t : Ty, kitB "int" (tyName t) = some (tyIs t (.int 0)) := by intro t; cases t <;> decide +kernel
  intro t; rw [h t]; cases t <;> rfl
theorem kb_str (b : Str) : ∀ t : Ty, kitB "str" (tyName t) = some (tyIs t (.str b)) := by
  have h : ∀ t : Ty, kitB "str" (tyName t) = some (tyIs t (.str ⟨#[]⟩)) := by intro t; cases t <;> decide +kernel
  intro t; rw [h t]; cases t <;> rfl
theorem kb_lst (b : List D) : ∀ t : Ty, kitB "list" (tyName t) = some (tyIs t (.lst b)) := by
  have h : ∀ t : Ty, kitB "list" (tyName t) = some (tyIs t (.lst [])) := by intro t; cases t <;> decide +kernel
  intro t; rw [h t]; cases t <;> rfl
theorem kb_tup (b : List D) : ∀ t : Ty, kitB "tuple" (tyName t) = some (tyIs t (.tup b)) := by
  have h : ∀ t : Ty, kitB "tuple" (tyName t) = some (tyIs t (.tup [])) := by intro t; cases t <;> decide +kernel
  intro t; rw [h t]; cases t <;> rfl
theorem tyOf_ok {d : D} {v : V} (s : Same F H) (r : RepD F d v) : ∃ n : String, TyX X.K H v (.type n) ∧ ∀ t : Ty, PySem.W.kitOne X.K (.type n) (.type (tyName t)) = some (tyIs t d) := by
  cases d with
  | non => cases r; exact ⟨_, .base .non, fun t => kit_ty (kb_non t)⟩
  | bl b => cases r; exact ⟨_, .base (.bl b), fun t => kit_ty (kb_bl b t)⟩
  | int i => cases r; exact ⟨_, .base (.int i), fun t => kit_ty (kb_int i t)⟩
  | str x => cases r; exact ⟨_, .base (.str x), fun t => kit_ty (kb_str x t)⟩
  | lst xs => obtain ⟨a, vs, rfl, h1, _⟩ := r; exact ⟨_, .base (.lst (s _ _ h1)), fun t => kit_ty (kb_lst xs t)⟩
  | tup xs => obtain ⟨a, vs, rfl, h1, _⟩ := r; exact ⟨_, .base (.tup (s _ _ h1)), fun t => kit_ty (kb_tup xs t)⟩
theorem isi1_ok {d : D} {v : V} {t : Ty} {K : Bool → Prop} (s : Same F H) (r : RepD F d v) (k : K (tyIs t d)) : sCall X (.builtin "isinstance") [v, .ty (tyName t)] H (fun z H' => H' = H ∧ ∃ b, z = .bl b ∧ K b) := by
  obtain ⟨n, h1, h2⟩ := tyOf_ok (X := X) s r
  exact sCall_of call_isi ⟨v, _, _, _, _, rfl, .ty _, h1, h2 t, rfl, _, rfl, k⟩
theorem kitAnyTys {n : String} {d : D} (h : ∀ t : Ty, PySem.W.kitOne X.K (.type n) (.type (tyName t)) = some (tyIs t d)) : ∀ ts : List Ty, PySem.W.kitAny X.K (.type n) (ts.map fun t => .type (tyName t)) = some (ts.any fun t => tyIs t d)
  | [] => kitAny_nil
  | t :: ts => by
    rw [List.map_cons, List.any_cons]
    refine kitAny_cons (h t) (fun e => ?_) (fun e => ?_)
    · rw [e, Bool.false_or]; exact kitAnyTys h ts
    · rw [e, Bool.true_or]
theorem clsTys : ∀ ts : List Ty, Paired ClsV (ts.map fun t => V.ty (tyName t)) (ts.map fun t => Value.type (tyName t))
  | [] => .nil
  | t :: ts => .cons (.ty _) (clsTys ts)
theorem isiT_ok {d : D} {v : V} {ts : List Ty} {tp : Addr} {K : Bool → Prop} (s : Same F H) (r : RepD F d v) (ht : H tp = some (.tup (ts.map fun t => V.ty (tyName t)))) (k : K (ts.any fun t => tyIs t d)) :
    sCall X (.builtin "isinstance") [v, .ref tp] H (fun z H' => H' = H ∧ ∃ b, z = .bl b ∧ K b) := by
  obtain ⟨n, h1, h2⟩ := tyOf_ok (X := X) s r
  exact sCall_of call_isiT ⟨v, tp, _, _, _, _, rfl, ht, clsTys ts, h1, kitAnyTys h2 ts, rfl, _, rfl, k⟩
/-- truth -/
theorem truD_ok {d : D} {v : V} (s : Same F H) (r : RepD F d v) (h : truOk d) : TruV X.K v H (truD d) := by
  cases d with
  | non => cases r; exact rfl
  | bl b => cases r; exact rfl
  | int i => cases r; exact rfl
  | str x => cases r; exact ⟨leLine h, rfl⟩
  | lst xs =>
    obtain ⟨a, vs, rfl, h1, h2⟩ := r
    refine .inl ⟨vs, SqL.of (s _ _ h1), ?_⟩
    have := h2.len
    cases xs <;> cases vs <;> first | rfl | simp at this
  | tup xs =>
    obtain ⟨a, vs, rfl, h1, h2⟩ := r
    refine .inr (.inl ⟨vs, SqT.of (s _ _ h1), ?_⟩)
    have := h2.len
    cases xs <;> cases vs <;> first | rfl | simp at this
end
end DV
end
section
set_option Elab.async false
set_option maxRecDepth 100000
set_option linter.all false
/-! DV5: built-ins; what is known of the context. -/
namespace DV
open PySem PySem.Spec PyProof.Rows L2

section
variable {X : Cx} {F H : Hp}
def biF : Bi → Value
  | .abs => .builtin "abs" | .int => .type "int" | .sum => .builtin "sum" | .all => .builtin "all" | .any => .builtin "any" | .min1 => .builtin "min" | .max1 => .builtin "max"
  | .list => .type "list" | .tuple => .type "tuple" | .repr => .builtin "repr" | .sorted => .builtin "sorted" | .listRange => .type "list"
def bjF : Bj → Value
  | .min2 => .builtin "min" | .max2 => .builtin "max"
theorem call_repr_flat : CallR X (.builtin "repr") (fun xs H Q => ∃ d : D, ∃ v, xs = [v] ∧ RepD F d v ∧ reprOk d ∧ Q (.str (reprD d)) H) := by
  intro pins s σ H xs us Q I r h
  obtain ⟨d, v, rfl, rd, ok, q⟩ := h
  obtain ⟨u, rfl, ru⟩ := vals1 r
  cases d with
  | non =>
    cases rd; cases ru
    exact PySem.P.repr_of_none ⟨.str _, H, I.tok _, ⟨_, rfl⟩, q⟩
  | bl b =>
    cases rd; cases ru
    refine PySem.P.repr_of_bool ⟨.str _, H, I.tok _, ⟨_, rfl⟩, ?_⟩
    cases b <;> exact q
  | int i =>
    cases rd
    obtain ⟨t, rfl⟩ := ru
    exact PySem.P.repr_of_int ok ⟨.str _, H, I.tok _, ⟨_, rfl⟩, q⟩
  | str x =>
    cases rd
    obtain ⟨t, rfl⟩ := ru
    exact PySem.P.repr_of_str ⟨.str _, H, I.tok _, ⟨_, rfl⟩, q⟩ (leLine ok)
  | lst xs => exact ok.elim
  | tup xs => exact ok.elim
theorem biD_ok {b : Bi} {x : D} {K : B → Prop} {v : V} (hc : X.calm = true) (h : biD b x K) (s : Same F H) (rx : RepD F x v) : sCall X (biF b) [v] H (fun z H' => ∃ y, Gives F H z H' y ∧ K y) := by
  unfold biD at h
  split at h
  · cases rx
    exact sCall_of call_abs ⟨_, rfl, _, g_int, h⟩
  · cases rx
    exact sCall_of call_int1 (.inl ⟨_, rfl, _, g_int, h⟩)
  · cases rx
    exact sCall_of call_int1 (.inr ⟨_, rfl, _, g_int, h⟩)
  · obtain ⟨ns, rfl, h⟩ := h
    obtain ⟨a, vs, rfl, h1, h2⟩ := rx
    cases RepL.ints h2
    exact sCall_of (cr_sum hc) ⟨a, ns, rfl, SqL.of (s _ _ h1), _, g_int, h⟩
  · obtain ⟨ns, rfl, h⟩ := h
    obtain ⟨a, vs, rfl, h1, h2⟩ := rx
    cases RepL.bls h2
    exact sCall_of (cr_all hc) ⟨a, ns, rfl, SqL.of (s _ _ h1), _, g_bl, h⟩
  · obtain ⟨ns, rfl, h⟩ := h
    obtain ⟨a, vs, rfl, h1, h2⟩ := rx
    cases RepL.bls h2
    exact sCall_of (cr_any hc) ⟨a, ns, rfl, SqL.of (s _ _ h1), _, g_bl, h⟩
  · obtain ⟨ns, rfl, hl, h⟩ := h
    obtain ⟨a, vs, rfl, h1, h2⟩ := rx
    cases RepL.ints h2
    exact sCall_of (cr_min hc) ⟨a, ns, rfl, SqL.of (s _ _ h1), hl, fun m k1 k2 => ⟨_, g_int, h m k1 k2⟩⟩
  · obtain ⟨ns, rfl, hl, h⟩ := h
    obtain ⟨a, vs, rfl, h1, h2⟩ := rx
    cases RepL.ints h2
    exact sCall_of (cr_max hc) ⟨a, ns, rfl, SqL.of (s _ _ h1), hl, fun m k1 k2 => ⟨_, g_int, h m k1 k2⟩⟩
  · obtain ⟨a, vs, rfl, h1, h2⟩ := rx
    exact sCall_of call_list_of ⟨a, vs, rfl, .inl (SqL.of (s _ _ h1)), fun l hl => ⟨_, .lst hl h2, h⟩⟩
  · obtain ⟨a, vs, rfl, h1, h2⟩ := rx
    exact sCall_of call_list_of ⟨a, vs, rfl, .inr (SqT.of (s _ _ h1)), fun l hl => ⟨_, .lst hl h2, h⟩⟩
  · obtain ⟨a, vs, rfl, h1, h2⟩ := rx
    exact sCall_of call_tuple_of ⟨a, vs, rfl, .inl ⟨SqL.of (s _ _ h1), fun l hl => ⟨_, .tup hl h2, h⟩⟩⟩
  · obtain ⟨a, vs, rfl, h1, h2⟩ := rx
    exact sCall_of call_tuple_of ⟨a, vs, rfl, .inr ⟨SqT.of (s _ _ h1), _, .same (d := .tup _) ⟨a, vs, rfl, h1, h2⟩, h⟩⟩
  · exact sCall_of call_repr_flat ⟨_, _, rfl, rx, h.1, _, g_str, h.2⟩
  · exact h.elim
theorem bjD_ok {b : Bj} {x y : D} {K : B → Prop} {v u : V} (hc : X.calm = true) (h : bjD b x y K) (s : Same F H) (rx : RepD F x v) (ry : RepD F y u) : sCall X (bjF b) [v, u] H (fun z H' => ∃ y, Gives F H z H' y ∧ K y) := by
  unfold bjD at h
  split at h
  · cases rx; cases ry
    exact sCall_of (call_min2 hc) ⟨_, _, rfl, _, g_int, h⟩
  · cases rx; cases ry
    exact sCall_of (call_max2 hc) ⟨_, _, rfl, _, g_int, h⟩
  · exact h.elim
end

/-! ### names, stars -/
theorem starEach_ns {e : Expr} {es : List Expr} {env : PySem.Env} (h : notStar e = true) : starEach (e :: es) env = (false, eval e env) :: starEach es env := by
  cases e <;> first | rfl | (unfold notStar at h; cases h)
theorem back_any {pos : Pos} {l : List (Bool × Sem Value)} : (backTo pos l).any (·.1) = l.any (·.1) := by
  unfold backTo
  induction l with
  | nil => rfl
  | cons x l ih => rw [List.map_cons, List.any_cons, List.any_cons, ih]
theorem nod_of {x : Str} (h : nod x = true) : (x == ("__debug__" : Str)) = false ∧ (x == ("__classdict__" : Str)) = false ∧ x ≠ "__name__" := by
  unfold nod at h
  simp only [Bool.and_eq_true, Bool.not_eq_true'] at h
  refine ⟨h.1.1, h.1.2, fun e => ?_⟩
  have := h.2
  rw [e, beq_self_eq_true] at this
  cases this
theorem glB_of {sc : Scope} {x : Str} (h : glB sc x = true) : sc.names.lookup x = some .globalImplicit ∧ nod x = true := by
  unfold glB at h
  simp only [Bool.and_eq_true, decide_eq_true_eq] at h
  exact h
theorem visB_of {sc : Scope} {x : Str} (h : visB sc x = true) : Vis sc x := by
  unfold visB at h
  split at h
  · exact .inl (by assumption)
  · exact .inr (.inl (by assumption))
  · exact .inr (.inr (by assumption))
  · cases h
theorem chkV_of {c : Cc} {i : Nat} {x : Str} (h : chkV c i x = true) : c.N[i]? = some x ∧ Vis c.sc x ∧ nod x = true := by
  unfold chkV at h
  simp only [Bool.and_eq_true, decide_eq_true_eq] at h
  exact ⟨h.1.1, visB_of h.1.2, h.2⟩
theorem bltB_of {c : Cc} {nm : String} {x : Str} (h : bltB c nm x = true) : x = (nm : Str) ∧ c.sc.names.lookup x = some .globalImplicit ∧ nod x = true := by
  unfold bltB at h
  simp only [Bool.and_eq_true, decide_eq_true_eq] at h
  exact ⟨h.1, glB_of h.2⟩

/-! ### what is known -/
/-- an exception's class of the program -/
structure XOk (K : PySem.W.Frag) (mg : Str → Option Value) (C : Addr) (nm : Str) : Prop where
  g : mg nm = some (.ref C)
  k : PySem.W.keepIn K (.ref C) = true
  x : PySem.W.excIn K C [.type "ValueError", .type "Exception", .type "BaseException", .type "object"] "ValueError.__new__" = true
  b : PySem.W.subIn K (.ref C) (.type "BaseException") = some true
  t : PySem.W.typeIn K (.ref C) = some (.type "type")
  c : ExcC K C
structure Stat (P : Program) (w : World) (K : PySem.W.Frag) (mg : Str → Option Value) (base : Heap) (cls : Nat → Addr) (c : Cc) (G : Nat → DSp) (sub : Nat → Nat → Option Bool) : Prop where
  funs : ∀ f nm ar lv, c.G[f]? = some (nm, ar, lv) → lv ≤ c.lvl → ∃ (a : Addr) (fd : FuncData) (ps : List Str) (dv : List Int) (ds : List Value) (spF : DSp), mg nm = some (.ref a) ∧
    FnOk P w K mg base (L2.CX P w) lv a fd ps (spV cls ps.length spF) ∧ PySem.W.keepIn K (.ref a) = true ∧ Binds K fd ps ds ∧ Vals (dv.map V.int) ds ∧ ps.length = ar + dv.length ∧
    ∀ bs K0, bs.length = ar → G f bs K0 → spF (bs ++ dv.map fun i => B.val (.int i)) K0
  excs : ∀ i nm, c.exc[i]? = some nm → XOk K mg (cls i) nm
  exm : ∀ i j b, sub i j = some b → PySem.W.exmOne K (.ref (cls i)) (clsV cls c.exc.length j) = some b
  kit : ∀ i j b, sub i j = some b → PySem.W.kitOne K (.ref (cls i)) (clsV cls c.exc.length j) = some b ∧ ExcC K (cls i)
  cons : ∀ x i, c.cons.lookup x = some i → ∃ u, mg x = some u ∧ RelV (.int i) u
  blt : ∀ x ∈ bltNames, mg (x : Str) = none
structure Good (X : Cx) (c : Cc) (W : WX) (cls : Nat → Addr) (G : Nat → DSp) (sub : Nat → Nat → Option Bool) : Prop where
  st : Stat X.prog X.w X.K X.mg X.base cls c G sub
  hN : X.N = c.N
  nd : c.N.Nodup
  sc : X.env.scope = c.sc
  kd : c.sc.kind = .function
  fn : ∀ x, X.fn x = c.fn x
  room : c.cm = true → Room c.lvl X.A
  hu : X.A.units + 64 < cLine
  calm : c.cm = true → X.calm = true
  ev : c.cm = true → c.ev = none
  tk : Takes X W
  own : PassesOwn (model X.prog X.w) X.A X.env X.xe
/-- the exception that is being handled -/
def EvOk (X : Cx) (c : Cc) (cls : Nat → Addr) (sub : Nat → Nat → Option Bool) (cur : Option Nat) (σ : St) : Prop := ∀ s k, c.ev = some s → cur = some k → ∃ a, σ[s]? = some (some (.ref a)) ∧
  (∀ (j : Nat) (b : Bool) (v : V) (H : Hp) (Q : VK), sub k j = some b → (∀ u, RelV v u → u = clsV cls c.exc.length j) → Q (.bl b) H → sCall X (.builtin "isinstance") [.ref a, v] H Q) ∧
  ∀ (js : List Nat) (b : Bool) (tp : Addr) (vs : List V) (H : Hp) (Q : VK), anySub (sub k) js = some b → H tp = some (.tup vs) → (∀ us, Vals vs us → us = js.map (clsV cls c.exc.length)) → Q (.bl b) H → sCall X (.builtin "isinstance") [.ref a, .ref tp] H Q
def ErOk (T : Fr) (W : WX) (cls : Nat → Addr) (er : Er) : Prop := ∀ σ c ρ F H, Sim T ρ σ F H → er c ρ → W (.ref (cls c)) none σ H
section
variable {X : Cx} {c : Cc} {W : WX} {cls : Nat → Addr} {G : Nat → DSp} {sub : Nat → Nat → Option Bool}
theorem Good.gl (g : Good X c W cls G sub) {x : Str} (h : c.sc.names.lookup x = some .globalImplicit) : Gl X x := by
  show X.env.scope.names.lookup x = _
  rw [g.sc]; exact h
theorem Good.vis (g : Good X c W cls G sub) {x : Str} (h : Vis c.sc x) : Vis X.env.scope x := by rw [g.sc]; exact h
theorem Good.slot (g : Good X c W cls G sub) {i : Nat} {x : Str} (h : c.N[i]? = some x) : X.N[i]? = some x := by rw [g.hN]; exact h
theorem Good.var (g : Good X c W cls G sub) {i : Nat} {x : Str} {p : Pos} (h : chkV c i x = true) : PE X (.Name x p) (tVar i) := by
  obtain ⟨h1, h2, h3⟩ := chkV_of h
  obtain ⟨n1, n2, n3⟩ := nod_of h3
  exact pe_var (g.slot h1) (g.vis h2) n1 n2
/-- a call of a built-in function -/
theorem Good.callB (g : Good X c W cls G sub) {nm id : String} {x : Str} {p pos : Pos} {e : Expr} {es : List Expr} (h : bltB c nm x = true) (hm : nm ∈ bltNames) (hv : bootBuiltins (nm : Str) = some (.builtin id)) (he : notStar e = true) (hes : (starEach es X.env).any (·.1) = false)
    {σ : St} {H : Hp} {Q : VK} (q : sA X (e :: es) σ H fun vs H1 => sCall X (.builtin id) vs H1 Q) : sE X (.Call (.Name x p) (e :: es) [] pos) σ H Q := by
  obtain ⟨rfl, h2, h3⟩ := bltB_of h
  obtain ⟨n1, n2, n3⟩ := nod_of h3
  exact sE_of (pe_callB call_s (g.gl h2) (g.st.blt nm hm) hv pa_s n3 n1 (starEach_ns he) (by rw [back_any]; exact hes)) q
theorem Good.callTy (g : Good X c W cls G sub) {nm id : String} {x : Str} {p pos : Pos} {e : Expr} {es : List Expr} (h : bltB c nm x = true) (hm : nm ∈ bltNames) (hv : bootBuiltins (nm : Str) = some (.type id)) (he : notStar e = true) (hes : (starEach es X.env).any (·.1) = false)
    {σ : St} {H : Hp} {Q : VK} (q : sA X (e :: es) σ H fun vs H1 => sCall X (.type id) vs H1 Q) : sE X (.Call (.Name x p) (e :: es) [] pos) σ H Q := by
  obtain ⟨rfl, h2, h3⟩ := bltB_of h
  obtain ⟨n1, n2, n3⟩ := nod_of h3
  exact sE_of (pe_callTy call_s (g.gl h2) (g.st.blt nm hm) hv pa_s n3 n1 (starEach_ns he) (by rw [back_any]; exact hes)) q
theorem sA_nil {σ : St} {H : Hp} {Q : List V → Hp → Prop} (q : Q [] H) : sA X [] σ H Q := sA_of pa_nil q
theorem sA_cons {e : Expr} {es : List Expr} {σ : St} {H : Hp} {Q : List V → Hp → Prop} (he : notStar e = true) (q : sE X e σ H fun v H1 => sA X es σ H1 fun vs H2 => Q (v :: vs) H2) : sA X (e :: es) σ H Q :=
  sA_of (pa_cons pe_s pa_s (starEach_ns he)) q
/-- a class as a value -/
theorem Good.ty (g : Good X c W cls G sub) {nm : String} {x : Str} {p : Pos} (h : bltB c nm x = true) (hm : nm ∈ bltNames) (hv : bootBuiltins (nm : Str) = some (.type nm)) {σ : St} {H : Hp} {Q : VK} (q : Q (.ty nm) H) : sE X (.Name x p) σ H Q := by
  obtain ⟨rfl, h2, h3⟩ := bltB_of h
  obtain ⟨n1, n2, n3⟩ := nod_of h3
  exact sE_of (pe_bltn (v := .ty nm) (g.gl h2) (g.st.blt nm hm) hv rfl n3 n1) q
end
theorem boot_bi : ∀ b : Bi, bootBuiltins (biName b : Str) = some (biF b) := by intro b; cases b <;> decide +kernel
theorem boot_bj : ∀ b : Bj, bootBuiltins (bjName b : Str) = some (bjF b) := by intro b; cases b <;> decide +kernel
theorem boot_ty : ∀ t : Ty, bootBuiltins (tyName t : Str) = some (.type (tyName t)) := by intro b; cases b <;> decide +kernel
theorem boot_isi : bootBuiltins ("isinstance" : Str) = some (.builtin "isinstance") := by decide +kernel
theorem boot_enum : bootBuiltins ("enumerate" : Str) = some (.type "enumerate") := by decide +kernel
theorem boot_ve : bootBuiltins ("ValueError" : Str) = some (.type "ValueError") := by decide +kernel
theorem mem_bi : ∀ b : Bi, biName b ∈ bltNames := by intro b; cases b <;> decide
theorem mem_bj : ∀ b : Bj, bjName b ∈ bltNames := by intro b; cases b <;> decide
theorem mem_ty : ∀ t : Ty, tyName t ∈ bltNames := by intro b; cases b <;> decide
end DV
end
section
set_option Elab.async false
set_option maxRecDepth 100000
set_option linter.all false
/-! DV6: what is walked; patterns; the frames of loops and comprehensions. -/
namespace DV
open PySem PySem.Spec PyProof.Rows L2

/-! ### pins, roots -/
section
variable {T : Fr} {ρ : Env} {σ : St} {F H : Hp}
theorem Sim.pin (s : Sim T ρ σ F H) {p : Addr × HO} (h1 : H p.1 = some p.2) (h2 : F p.1 = none) (h3 : ∀ i, ¬ Own ρ σ i p.1) : Sim { T with X := p :: T.X } ρ σ F H :=
  { ff := s.ff, fh := s.fh, grow := s.grow, keep := s.keep, len := s.len, slot := s.slot, dist := s.dist, fresh := s.fresh, par := s.par,
    pins := fun q hq => by
      rcases List.mem_cons.mp hq with z | z
      · subst z; exact ⟨h1, h2, h3⟩
      · exact s.pins q z }
theorem Sim.unpin {p : Addr × HO} (s : Sim { T with X := p :: T.X } ρ σ F H) : Sim T ρ σ F H :=
  { ff := s.ff, fh := s.fh, grow := s.grow, keep := s.keep, len := s.len, slot := s.slot, dist := s.dist, fresh := s.fresh, par := s.par,
    pins := fun q hq => s.pins q (List.mem_cons_of_mem _ hq) }
/-- a pinned object is changed -/
theorem Sim.repin {a : Addr} {o o' : HO} (s : Sim { T with X := (a, o) :: T.X } ρ σ F H) (h0 : T.H0 a = none) (hx : ∀ p ∈ T.X, p.1 ≠ a) : Sim { T with X := (a, o') :: T.X } ρ σ F (upd H a o') := by
  obtain ⟨k1, k2, k3⟩ := s.pins (a, o) List.mem_cons_self
  have k2 : F a = none := k2
  have k3 : ∀ i, ¬ Own ρ σ i a := k3
  have ne : ∀ {b u}, F b = some u → b ≠ a := fun {b u} e z => by rw [z, k2] at e; cases e
  exact {
    ff := s.ff
    fh := fun b u e => by rw [upd_ne (ne e)]; exact s.fh b u e
    grow := s.grow
    keep := fun b u e hb => by
      have hne : b ≠ a := fun z => by
        have e' : T.H0 b = some u := e
        rw [z, h0] at e'; cases e'
      rw [upd_ne hne]; exact s.keep b u e hb
    len := s.len
    slot := fun i b e => by
      obtain ⟨v, h1, h2⟩ := s.slot i b e
      refine ⟨v, h1, ?_⟩
      cases b with
      | val d => exact h2
      | own xs =>
        obtain ⟨c, us, rfl, h3, h4, h5⟩ := h2
        have hne : c ≠ a := fun z => k3 i ⟨⟨xs, e⟩, z ▸ h1⟩
        exact ⟨c, us, rfl, h3, by rw [upd_ne hne]; exact h4, h5⟩
    dist := s.dist, fresh := s.fresh, par := s.par
    pins := fun q hq => by
      rcases List.mem_cons.mp hq with z | z
      · subst z; exact ⟨upd_same, k2, k3⟩
      · obtain ⟨q1, q2, q3⟩ := s.pins q (List.mem_cons_of_mem _ z)
        exact ⟨by rw [upd_ne (hx q z)]; exact q1, q2, q3⟩ }
/-- the frozen part may be taken as the root -/
theorem Sim.root {F1 : Hp} (s1 : Sim T ρ σ F1 H) : Sim { T with F0 := F1 } ρ σ F1 H :=
  { ff := fun _ _ e => e, fh := s1.fh, grow := fun b h _ => h, keep := s1.keep, len := s1.len, slot := s1.slot, dist := s1.dist, fresh := s1.fresh,
    par := fun p hp => by
      obtain ⟨o, _, h3⟩ := s1.par p hp
      obtain ⟨_, _, _, h4, _⟩ := s1.own_at o
      exact ⟨o, h4, h3⟩
    pins := s1.pins }
theorem Sim.unroot {ρ1 : Env} {σ1 : St} {F1 H1 : Hp} (s1 : Sim T ρ1 σ1 F1 H1) (s : Sim { T with F0 := F1 } ρ σ F H) : Sim T ρ σ F H :=
  { ff := s1.ff.trans s.ff, fh := s.fh, grow := fun b h0 h1 => s.grow b (s1.grow b h0 h1) h1, keep := s.keep, len := s.len, slot := s.slot, dist := s.dist, fresh := s.fresh,
    par := fun p hp => by
      obtain ⟨o, _, h3⟩ := s.par p hp
      obtain ⟨_, h4, _⟩ := s1.par p hp
      exact ⟨o, h4, h3⟩
    pins := s.pins }
end

/-! ### wiping -/
theorem wipeE_len : ∀ {vs : List Nat} {ρ : Env}, (wipeE ρ vs).length = ρ.length
  | [], _ => rfl
  | v :: vs, ρ => by unfold wipeE; rw [List.length_set, wipeE_len]
theorem wipeE_get : ∀ {vs : List Nat} {ρ : Env} {j : Nat}, getE (wipeE ρ vs) j = if j ∈ vs then none else getE ρ j
  | [], ρ, j => by simp [wipeE]
  | v :: vs, ρ, j => by
    unfold wipeE
    rw [getE_set, wipeE_get, wipeE_len]
    by_cases h : v = j
    · subst h
      by_cases hl : v < ρ.length
      · rw [if_pos ⟨rfl, hl⟩, if_pos List.mem_cons_self]
      · rw [if_neg (fun z => hl z.2), if_pos List.mem_cons_self]
        split
        · rfl
        · unfold getE
          rw [List.getD_eq_getElem?_getD, List.getElem?_eq_none (Nat.le_of_not_lt hl)]; rfl
    · rw [if_neg (fun z => h z.1)]
      by_cases hm : j ∈ vs
      · rw [if_pos hm, if_pos (List.mem_cons_of_mem _ hm)]
      · rw [if_neg hm, if_neg (fun z => (List.mem_cons.mp z).elim (fun z => h z.symm) hm)]
theorem unwipe_len : ∀ {vs : List Nat} {ρ2 ρ : Env}, (unwipe ρ2 ρ vs).length = ρ2.length
  | [], _, _ => rfl
  | v :: vs, ρ2, ρ => by unfold unwipe; rw [List.length_set, unwipe_len]
theorem getE_out {ρ : Env} {j : Nat} (h : ¬ j < ρ.length) : getE ρ j = none := by
  unfold getE
  rw [List.getD_eq_getElem?_getD, List.getElem?_eq_none (Nat.le_of_not_lt h)]; rfl
theorem unwipe_get : ∀ {vs : List Nat} {ρ2 ρ : Env} {j : Nat}, ρ2.length = ρ.length → getE (unwipe ρ2 ρ vs) j = if j ∈ vs then getE ρ j else getE ρ2 j
  | [], ρ2, ρ, j, _ => by simp [unwipe]
  | v :: vs, ρ2, ρ, j, hl => by
    unfold unwipe
    rw [getE_set, unwipe_get hl, unwipe_len]
    by_cases h : v = j
    · subst h
      rw [if_pos List.mem_cons_self]
      by_cases hv : v < ρ2.length
      · rw [if_pos ⟨rfl, hv⟩]
      · rw [if_neg (fun z => hv z.2), getE_out (ρ := ρ) (hl ▸ hv), getE_out hv]
        split <;> rfl
    · rw [if_neg (fun z => h z.1)]
      by_cases hm : j ∈ vs
      · rw [if_pos hm, if_pos (List.mem_cons_of_mem _ hm)]
      · rw [if_neg hm, if_neg (fun z => (List.mem_cons.mp z).elim (fun z => h z.symm) hm)]
theorem wipe_get : ∀ {vs : List Nat} {σ : St} {j : Nat}, j ∉ vs → (wipe σ vs)[j]? = σ[j]?
  | [], _, _, _ => rfl
  | v :: vs, σ, j, h => by
    unfold wipe
    have hv : v ≠ j := fun z => h (by rw [z]; exact List.mem_cons_self)
    rw [List.getElem?_set_ne hv, wipe_get (fun z => h (List.mem_cons_of_mem _ z))]
/-- nothing but the slots vs is changed -/
def Only (vs : List Nat) (σ σ2 : St) : Prop := σ2.length = σ.length ∧ ∀ j, j ∉ vs → σ2[j]? = σ[j]?
theorem Only.refl {vs : List Nat} {σ : St} : Only vs σ σ := ⟨rfl, fun _ _ => rfl⟩
theorem Only.trans {vs : List Nat} {σ σ2 σ3 : St} (a : Only vs σ σ2) (b : Only vs σ2 σ3) : Only vs σ σ3 := ⟨b.1.trans a.1, fun j h => (b.2 j h).trans (a.2 j h)⟩
theorem Only.set {vs : List Nat} {σ : St} {i : Nat} {v : Option V} (h : i ∈ vs) : Only vs σ (σ.set i v) := ⟨List.length_set, fun j hj => List.getElem?_set_ne (fun z => hj (by rw [← z]; exact h))⟩
theorem Only.wiped {vs : List Nat} {σ : St} : Only vs σ (wipe σ vs) := ⟨wipe_length σ vs, fun j h => wipe_get h⟩
theorem wipe_in : ∀ {vs : List Nat} {σ : St} {j : Nat}, j ∈ vs → j < σ.length → (wipe σ vs)[j]? = some none
  | v :: vs, σ, j, h, hl => by
    unfold wipe
    by_cases e : v = j
    · subst e
      rw [List.getElem?_set_self (by rw [wipe_length]; exact hl)]
    · rw [List.getElem?_set_ne e]
      exact wipe_in ((List.mem_cons.mp h).resolve_left (fun z => e z.symm)) hl
theorem Only.wipe {vs : List Nat} {σ σ2 : St} (o : Only vs σ σ2) : wipe σ2 vs = wipe σ vs := by
  apply List.ext_getElem?
  intro j
  by_cases h : j ∈ vs
  · by_cases hl : j < σ.length
    · rw [wipe_in h hl, wipe_in h (by rw [o.1]; exact hl)]
    · rw [List.getElem?_eq_none (by rw [wipe_length, o.1]; omega), List.getElem?_eq_none (by rw [wipe_length]; omega)]
  · rw [wipe_get h, wipe_get h, o.2 j h]
section
variable {T : Fr} {ρ : Env} {σ : St} {F H : Hp}
theorem notOwn_of {vs : List Nat} (h : vs.all (fun v => notOwn (getE ρ v)) = true) {v : Nat} (hv : v ∈ vs) {xs : List D} : getE ρ v ≠ some (.own xs) := fun e => by
  have := List.all_eq_true.mp h v hv
  rw [e] at this; cases this
theorem Sim.wiped (s : Sim T ρ σ F H) {vs : List Nat} (h : vs.all (fun v => notOwn (getE ρ v)) = true) : Sim T (wipeE ρ vs) (wipe σ vs) F H := by
  have gt : ∀ {j b}, getE (wipeE ρ vs) j = some b → j ∉ vs ∧ getE ρ j = some b := fun {j b} e => by
    rw [wipeE_get] at e
    split at e
    · cases e
    · exact ⟨by assumption, e⟩
  have ow : ∀ {j a}, Own (wipeE ρ vs) (wipe σ vs) j a → Own ρ σ j a := fun {j a} ⟨⟨xs, e1⟩, e2⟩ => by
    obtain ⟨h1, h2⟩ := gt e1
    exact ⟨⟨xs, h2⟩, (wipe_get h1) ▸ e2⟩
  have up : ∀ {j a}, Own ρ σ j a → Own (wipeE ρ vs) (wipe σ vs) j a := fun {j a} ⟨⟨xs, e1⟩, e2⟩ => by
    have hj : j ∉ vs := fun z => notOwn_of h z e1
    exact ⟨⟨xs, by rw [wipeE_get, if_neg hj]; exact e1⟩, by rw [wipe_get hj]; exact e2⟩
  exact {
    ff := s.ff
    fh := s.fh
    grow := s.grow
    keep := s.keep
    len := (by rw [wipeE_len, wipe_length]; exact s.len)
    slot := fun j b e => by
      obtain ⟨h1, h2⟩ := gt e
      obtain ⟨v, k1, k2⟩ := s.slot j b h2
      exact ⟨v, by rw [wipe_get h1]; exact k1, k2⟩
    dist := fun i j a oi oj => s.dist i j a (ow oi) (ow oj)
    fresh := fun i a oi => s.fresh i a (ow oi)
    par := fun p hp => by
      obtain ⟨o, k⟩ := s.par p hp
      exact ⟨up o, k⟩
    pins := fun p hp => by
      obtain ⟨k1, k2, k3⟩ := s.pins p hp
      exact ⟨k1, k2, fun i oi => k3 i (ow oi)⟩ }
/-- behind an element of a comprehension -/
theorem Sim.unwiped {ρ4 : Env} {σ4 : St} {F4 H4 : Hp} {vs : List Nat} (s : Sim T ρ σ F H) (h : vs.all (fun v => notOwn (getE ρ v)) = true) (s4 : Sim T ρ4 σ4 F4 H4) (o : Only vs σ σ4) (sm : Same F F4) (nv : ∀ p ∈ T.P, p.1 ∉ vs) : Sim T (unwipe ρ4 ρ vs) σ F4 H4 := by
  have hl : ρ4.length = ρ.length := by rw [s4.len, s.len, o.1]
  have gt : ∀ {j b}, getE (unwipe ρ4 ρ vs) j = some b → (j ∈ vs ∧ getE ρ j = some b) ∨ (j ∉ vs ∧ getE ρ4 j = some b) := fun {j b} e => by
    rw [unwipe_get hl] at e
    split at e
    · exact .inl ⟨by assumption, e⟩
    · exact .inr ⟨by assumption, e⟩
  have ow : ∀ {j a}, Own (unwipe ρ4 ρ vs) σ j a → j ∉ vs ∧ Own ρ4 σ4 j a := fun {j a} ⟨⟨xs, e1⟩, e2⟩ => by
    rcases gt e1 with ⟨h1, h2⟩ | ⟨h1, h2⟩
    · exact absurd h2 (notOwn_of h h1)
    · exact ⟨h1, ⟨xs, h2⟩, by rw [o.2 j h1]; exact e2⟩
  exact {
    ff := s4.ff
    fh := s4.fh
    grow := s4.grow
    keep := s4.keep
    len := (by rw [unwipe_len, hl]; exact s.len)
    slot := fun j b e => by
      rcases gt e with ⟨h1, h2⟩ | ⟨h1, h2⟩
      · obtain ⟨v, k1, k2⟩ := s.slot j b h2
        refine ⟨v, k1, ?_⟩
        cases b with
        | val d => exact RepD.mono sm d v k2
        | own xs => exact absurd h2 (notOwn_of h h1)
      · obtain ⟨v, k1, k2⟩ := s4.slot j b h2
        exact ⟨v, by rw [← o.2 j h1]; exact k1, k2⟩
    dist := fun i j a oi oj => s4.dist i j a (ow oi).2 (ow oj).2
    fresh := fun i a oi => s4.fresh i a (ow oi).2
    par := fun p hp => by
      obtain ⟨⟨⟨xs, e1⟩, e2⟩, k⟩ := s4.par p hp
      have hj := nv p hp
      exact ⟨⟨⟨xs, by rw [unwipe_get hl, if_neg hj]; exact e1⟩, by rw [← o.2 _ hj]; exact e2⟩, k⟩
    pins := fun p hp => by
      obtain ⟨k1, k2, k3⟩ := s4.pins p hp
      exact ⟨k1, k2, fun i oi => k3 i (ow oi).2⟩ }
end

/-! ### what is walked -/
def Walks (J : L2.It) (F : Hp) (items : List D) : Prop := ∀ (i : Nat) (F' H' : Hp), Same F F' → Same F' H' →
  (i < items.length → J.go i H' ∧ ∀ x H'', J.yld i H' x H'' → ∃ d, items[i]? = some d ∧ Gives F' H' x H'' (.val d)) ∧ (items.length ≤ i → J.stop i H')
theorem walks_lst {K : PySem.W.Frag} {F : Hp} {a : Addr} {us : List V} {ds : List D} (h : F a = some (.lst us)) (r : RepL F ds us) : Walks (Itl K a) F ds := fun i F' H' s s' => by
  have q : SqL K H' a us := SqL.of (s' _ _ (s _ _ h))
  refine ⟨fun hi => ?_, fun hi => ⟨us, q, by rw [← r.len]; exact hi⟩⟩
  obtain ⟨v, e1, e2⟩ := r.get (List.getElem?_eq_getElem hi)
  refine ⟨⟨us, v, q, e1⟩, fun x H'' ⟨e, y⟩ => ?_⟩
  subst e
  have := y us q
  rw [e1] at this; cases this
  exact ⟨_, List.getElem?_eq_getElem hi, .same (RepD.mono s _ _ e2)⟩
theorem walks_tup {K : PySem.W.Frag} {F : Hp} {a : Addr} {us : List V} {ds : List D} (h : F a = some (.tup us)) (r : RepL F ds us) : Walks (Itt K a) F ds := fun i F' H' s s' => by
  have q : SqT K H' a us := SqT.of (s' _ _ (s _ _ h))
  refine ⟨fun hi => ?_, fun hi => ⟨us, q, by rw [← r.len]; exact hi⟩⟩
  obtain ⟨v, e1, e2⟩ := r.get (List.getElem?_eq_getElem hi)
  refine ⟨⟨us, v, q, e1⟩, fun x H'' ⟨e, y⟩ => ?_⟩
  subst e
  have := y us q
  rw [e1] at this; cases this
  exact ⟨_, List.getElem?_eq_getElem hi, .same (RepD.mono s _ _ e2)⟩
theorem rngL_len {lo c : Int} {n : Nat} : (rngL lo n c).length = n := by unfold rngL; simp
theorem rngL_get {lo c : Int} {n i : Nat} (h : i < n) : (rngL lo n c)[i]? = some (.int (lo + (i : Int) * c)) := by
  unfold rngL
  rw [List.getElem?_map, List.getElem?_range h]; rfl
theorem walks_rng {F : Hp} {lo : Int} {n : Nat} : Walks (L2.Itr lo n) F (rngL lo n 1) := fun i F' H' s s' => by
  rw [rngL_len]
  refine ⟨fun hi => ⟨hi, fun x H'' ⟨e, y⟩ => ?_⟩, fun hi => hi⟩
  subst e y
  exact ⟨_, rngL_get hi, by rw [Int.mul_one]; exact g_int⟩
theorem walks_rngC {F : Hp} {lo c : Int} {n : Nat} : Walks (L2.Itc lo c n) F (rngL lo n c) := fun i F' H' s s' => by
  rw [rngL_len]
  refine ⟨fun hi => ⟨hi, fun x H'' ⟨e, y⟩ => ?_⟩, fun hi => hi⟩
  subst e y
  exact ⟨_, rngL_get hi, g_int⟩
theorem zipW_get {xs ys : List D} {i : Nat} {x y : D} (h1 : xs[i]? = some x) (h2 : ys[i]? = some y) : (zipL xs ys)[i]? = some (.tup [x, y]) := by
  unfold zipL
  rw [List.getElem?_zipWith, h1, h2]
theorem rep2 {F : Hp} {d e : D} {v u : V} (h1 : RepD F d v) (h2 : RepD F e u) : RepL F [d, e] [v, u] := ⟨v, [u], rfl, h1, RepL.one h2⟩
theorem walks_zipL {K : PySem.W.Frag} {F : Hp} {a b : Addr} {us ws : List V} {xs ys : List D} (h : F a = some (.lst us)) (r : RepL F xs us) (h' : F b = some (.lst ws)) (r' : RepL F ys ws) :
    Walks (Itz K a b) F (zipL xs ys) := fun i F' H' s s' => by
  have q : SqL K H' a us := SqL.of (s' _ _ (s _ _ h))
  have q' : SqL K H' b ws := SqL.of (s' _ _ (s _ _ h'))
  have l1 := r.len
  have l2 := r'.len
  unfold zipL
  rw [List.length_zipWith]
  refine ⟨fun hi => ?_, fun hi => ⟨us, ws, q, q', by omega⟩⟩
  obtain ⟨v, e1, e2⟩ := r.get (List.getElem?_eq_getElem (by omega : i < xs.length))
  obtain ⟨u, e3, e4⟩ := r'.get (List.getElem?_eq_getElem (by omega : i < ys.length))
  refine ⟨⟨us, ws, v, u, q, q', e1, e3⟩, fun x H'' ⟨p, y1, y2, ex, hp, eH, k1, k2⟩ => ?_⟩
  subst ex eH
  have k1 := k1 us q
  have k2 := k2 ws q'
  rw [e1] at k1; cases k1
  rw [e3] at k2; cases k2
  exact ⟨_, zipW_get (List.getElem?_eq_getElem (by omega)) (List.getElem?_eq_getElem (by omega)), .tup hp (rep2 (RepD.mono s _ _ e2) (RepD.mono s _ _ e4))⟩
theorem walks_zipT {K : PySem.W.Frag} {F : Hp} {a b : Addr} {us ws : List V} {xs ys : List D} (h : F a = some (.tup us)) (r : RepL F xs us) (h' : F b = some (.tup ws)) (r' : RepL F ys ws) :
    Walks (RZ.ItzT K a b) F (zipL xs ys) := fun i F' H' s s' => by
  have q : SqT K H' a us := SqT.of (s' _ _ (s _ _ h))
  have q' : SqT K H' b ws := SqT.of (s' _ _ (s _ _ h'))
  have l1 := r.len
  have l2 := r'.len
  unfold zipL
  rw [List.length_zipWith]
  refine ⟨fun hi => ?_, fun hi => ⟨us, ws, q, q', by omega⟩⟩
  obtain ⟨v, e1, e2⟩ := r.get (List.getElem?_eq_getElem (by omega : i < xs.length))
  obtain ⟨u, e3, e4⟩ := r'.get (List.getElem?_eq_getElem (by omega : i < ys.length))
  refine ⟨⟨us, ws, v, u, q, q', e1, e3⟩, fun x H'' ⟨p, y1, y2, ex, hp, eH, k1, k2⟩ => ?_⟩
  subst ex eH
  have k1 := k1 us q
  have k2 := k2 ws q'
  rw [e1] at k1; cases k1
  rw [e3] at k2; cases k2
  exact ⟨_, zipW_get (List.getElem?_eq_getElem (by omega)) (List.getElem?_eq_getElem (by omega)), .tup hp (rep2 (RepD.mono s _ _ e2) (RepD.mono s _ _ e4))⟩
theorem enum_get {xs : List D} {i : Nat} {x : D} (h : xs[i]? = some x) : (enumL xs)[i]? = some (.tup [.int (i : Nat), x]) := by
  unfold enumL
  rw [List.getElem?_map, List.getElem?_zipIdx, h]
  simp
theorem walks_enum {K : PySem.W.Frag} {F : Hp} {a : Addr} {us : List V} {ds : List D} (h : F a = some (.lst us)) (r : RepL F ds us) : Walks (Ite K a) F (enumL ds) := fun i F' H' s s' => by
  have q : SqL K H' a us := SqL.of (s' _ _ (s _ _ h))
  have l1 := r.len
  unfold enumL
  rw [List.length_map, List.length_zipIdx]
  refine ⟨fun hi => ?_, fun hi => ⟨us, q, by omega⟩⟩
  obtain ⟨v, e1, e2⟩ := r.get (List.getElem?_eq_getElem hi)
  refine ⟨⟨us, v, q, e1⟩, fun x H'' ⟨p, y, ex, hp, eH, k⟩ => ?_⟩
  subst ex eH
  have k := k us q
  rw [e1] at k; cases k
  exact ⟨_, enum_get (List.getElem?_eq_getElem hi), .tup hp (rep2 (d := .int _) rfl (RepD.mono s _ _ e2))⟩

/-! ### patterns -/
section
variable {X : Cx} {c : Cc} {W : WX} {cls : Nat → Addr} {G : Nat → DSp} {sub : Nat → Nat → Option Bool} {cur : Option Nat}
theorem Good.loc (g : Good X c W cls G sub) {x : Str} (h : locB c x = true) : Loc X.env.scope x ∧ (X.fn x = true ∨ X.env.scope.names.lookup x = some .local) := by
  rw [g.sc, g.fn]
  unfold locB at h
  split at h
  · rename_i e; exact ⟨.inl e, .inr e⟩
  · rename_i e; exact ⟨.inr e, .inl h⟩
  · cases h
theorem assignEach_ns {e : Expr} {es : List Expr} {env : PySem.Env} (h : notStar e = true) : assignEach (e :: es) env = (false, assign e env) :: assignEach es env := by
  cases e <;> first | rfl | (unfold notStar at h; cases h)
theorem chkPs_len : ∀ {vs : Option (List Nat)} {ps : Pats} {es : List Expr} {env : PySem.Env}, chkPs c vs ps es = true → (assignEach es env).length = es.length ∧ (assignEach es env).findIdx? (·.1) = none
  | vs, .nil, es, env, h => by
    cases es with
    | nil => exact ⟨rfl, rfl⟩
    | cons => exact absurd h Bool.false_ne_true
  | vs, .cons p r, es, env, h => by
    cases es with
    | nil => exact absurd h Bool.false_ne_true
    | cons e es =>
      have h : (notStar e && chkP c vs p e && chkPs c vs r es) = true := h
      simp only [Bool.and_eq_true] at h
      obtain ⟨i1, i2⟩ := chkPs_len (env := env) h.2
      rw [assignEach_ns h.1.1]
      refine ⟨by rw [List.length_cons, i1, List.length_cons], ?_⟩
      rw [List.findIdx?_cons]
      simp only [Bool.false_eq_true, if_false]
      rw [i2]; rfl
mutual
theorem rdP_ex {cx : Rx} : ∀ (p : Pat) (d : D) (ρ : Env) (Q : Env → Prop), rdP cx p d ρ Q → ∃ ρ', Q ρ'
  | .name i, d, ρ, Q, q => ⟨_, q.2⟩
  | .tup ps, d, ρ, Q, q => by
    cases d with
    | lst ds => exact rdPs_ex ps ds ρ Q q
    | tup ds => exact rdPs_ex ps ds ρ Q q
    | _ => exact q.elim
theorem rdPs_ex {cx : Rx} : ∀ (ps : Pats) (ds : List D) (ρ : Env) (Q : Env → Prop), rdPs cx ps ds ρ Q → ∃ ρ', Q ρ'
  | .nil, ds, ρ, Q, q => by
    cases ds with
    | nil => exact ⟨ρ, q⟩
    | cons => exact q.elim
  | .cons p r, ds, ρ, Q, q => by
    cases ds with
    | nil => exact q.elim
    | cons d ds =>
      obtain ⟨ρ1, q1⟩ := rdP_ex p d ρ _ q
      exact rdPs_ex r ds ρ1 Q q1
end
theorem rdPs_len {cx : Rx} : ∀ (ps : Pats) (es : List Expr) (ds : List D) (ρ : Env) (Q : Env → Prop) {vs : Option (List Nat)}, chkPs c vs ps es = true → rdPs cx ps ds ρ Q → ds.length = es.length
  | .nil, es, ds, ρ, Q, vs, h, q => by
    cases es with
    | cons => exact absurd h Bool.false_ne_true
    | nil =>
      cases ds with
      | cons => exact q.elim
      | nil => rfl
  | .cons p r, es, ds, ρ, Q, vs, h, q => by
    cases es with
    | nil => exact absurd h Bool.false_ne_true
    | cons e es =>
      have h : (notStar e && chkP c vs p e && chkPs c vs r es) = true := h
      simp only [Bool.and_eq_true] at h
      cases ds with
      | nil => exact q.elim
      | cons d ds =>
        obtain ⟨ρ1, q1⟩ := rdP_ex p d ρ _ q
        rw [List.length_cons, List.length_cons, rdPs_len r es ds ρ1 Q h.2 q1]
mutual
theorem snd_P (g : Good X c W cls G sub) (vs : Option (List Nat)) : ∀ (p : Pat) (tg : Expr), chkP c vs p tg = true → ∀ (T : Fr) (σ : St) (ρ : Env) (F H : Hp) (d : D) (v : V) (Q : Env → Prop), T.P.map (·.1) = c.pm → Sim T ρ σ F H → RepD F d v →
    rdP ⟨G, c.pm, cur, sub⟩ p d ρ Q → sG X tg v σ H fun σ' H' => ∃ ρ', Sim T ρ' σ' F H' ∧ Q ρ' ∧ ∀ l, vs = some l → Only l σ σ'
  | .name i, tg, h, T, σ, ρ, F, H, d, v, Q, hp, s, r, q => by
    cases tg
    case Name x pos =>
      have h : (decide (c.N[i]? = some x) && locB c x && inVs vs i) = true := h
      simp only [Bool.and_eq_true, decide_eq_true_eq] at h
      obtain ⟨⟨h1, h2⟩, h3⟩ := h
      obtain ⟨l1, l2⟩ := g.loc h2
      have hN : X.N.Nodup := by rw [g.hN]; exact g.nd
      obtain ⟨q1, q2⟩ := q
      refine sG_of (pg_name hN (g.slot h1) l1 l2) ?_
      by_cases hi : i < ρ.length
      · refine ⟨_, s.store (b := .val d) r hi (by rw [hp]; exact q1), q2, fun l e => ?_⟩
        subst e
        exact Only.set (List.contains_iff_mem.mp h3)
      · have e1 : ρ.set i (some (.val d)) = ρ := List.set_eq_of_length_le (Nat.le_of_not_lt hi)
        have e2 : σ.set i (some v) = σ := List.set_eq_of_length_le (by have := s.len; omega)
        rw [e1] at q2
        show ∃ ρ', Sim T ρ' (σ.set i (some v)) F H ∧ _
        rw [e2]
        exact ⟨ρ, s, q2, fun _ _ => Only.refl⟩
    all_goals exact absurd h Bool.false_ne_true
  | .tup ps, tg, h, T, σ, ρ, F, H, d, v, Q, hp, s, r, q => by
    cases tg
    case Tuple es k pos =>
      have h : (c.cm && chkPs c vs ps es) = true := h
      simp only [Bool.and_eq_true] at h
      obtain ⟨hcm, h⟩ := h
      obtain ⟨n1, n2⟩ := chkPs_len (env := X.env) h
      have len : ∀ {ds : List D}, rdPs ⟨G, c.pm, cur, sub⟩ ps ds ρ Q → ds.length = es.length := fun {ds} hh => rdPs_len ps es ds ρ Q h hh
      cases d with
      | lst ds =>
        obtain ⟨a, us, rfl, h1, h2⟩ := r
        exact sG_of (pg_lst (g.calm hcm) pgs_s n1 n2) ⟨a, us, rfl, SqL.of (s.fh _ _ h1), by rw [← h2.len]; exact len q, snd_Ps g vs ps es h T σ ρ F H ds us Q hp s h2 q⟩
      | tup ds =>
        obtain ⟨a, us, rfl, h1, h2⟩ := r
        exact sG_of (pg_tup (g.calm hcm) pgs_s n1 n2) ⟨a, us, rfl, SqT.of (s.fh _ _ h1), by rw [← h2.len]; exact len q, snd_Ps g vs ps es h T σ ρ F H ds us Q hp s h2 q⟩
      | _ => exact q.elim
    all_goals exact absurd h Bool.false_ne_true
theorem snd_Ps (g : Good X c W cls G sub) (vs : Option (List Nat)) : ∀ (ps : Pats) (es : List Expr), chkPs c vs ps es = true → ∀ (T : Fr) (σ : St) (ρ : Env) (F H : Hp) (ds : List D) (us : List V) (Q : Env → Prop), T.P.map (·.1) = c.pm → Sim T ρ σ F H → RepL F ds us →
    rdPs ⟨G, c.pm, cur, sub⟩ ps ds ρ Q → sGs X es us σ H fun σ' H' => ∃ ρ', Sim T ρ' σ' F H' ∧ Q ρ' ∧ ∀ l, vs = some l → Only l σ σ'
  | .nil, es, h, T, σ, ρ, F, H, ds, us, Q, hp, s, r, q => by
    cases es with
    | cons => exact absurd h Bool.false_ne_true
    | nil =>
      cases ds with
      | cons => exact q.elim
      | nil =>
        cases r
        exact sGs_of pgs_nil ⟨rfl, ρ, s, q, fun _ _ => Only.refl⟩
  | .cons p rr, es, h, T, σ, ρ, F, H, ds, us, Q, hp, s, r, q => by
    cases es with
    | nil => exact absurd h Bool.false_ne_true
    | cons e es =>
      have h : (notStar e && chkP c vs p e && chkPs c vs rr es) = true := h
      simp only [Bool.and_eq_true] at h
      cases ds with
      | nil => exact q.elim
      | cons d ds =>
        obtain ⟨v, vr, rfl, r1, r2⟩ := r
        refine sGs_of (pgs_cons pg_s pgs_s (by rw [assignEach_ns h.1.1]; rfl)) ⟨v, vr, rfl, ?_⟩
        refine sG_mono (snd_P g vs p e h.1.2 T σ ρ F H d v _ hp s r1 q) fun σ' H' ⟨ρ', s', q', o'⟩ => ?_
        intro pins st us2 I rv
        exact thn (snd_Ps g vs rr es h.2 T σ' ρ' F H' ds vr Q hp s' r2 q' pins st us2 I rv) fun _ st' ⟨σ2, H2, I2, ρ2, s2, q2, o2⟩ => ⟨σ2, H2, I2, ρ2, s2, q2, fun l e => (o' l e).trans (o2 l e)⟩
end
end
end DV
end
section
set_option Elab.async false
set_option maxRecDepth 100000
set_option linter.all false
/-! DV6b: enumerate over a tuple. -/
namespace DV
open PySem PySem.Spec PyProof.Rows L2
theorem meets_enumT (l : Addr) (items : Array Value) (n : Nat) (dct : Option Addr) (sl : Array (Option Value)) :
    Meets (Builtin.«enumerate.__new__» ⟨[.type "enumerate", .ref l], []⟩) (fun _ R s => s.heap.get? l = some { cls := .type "tuple", dict := dct, data := .seq items n, slots := sl } ∧
      R (.ok (.ret (.ref (s.heap.push { cls := .type "tuple_iterator", data := .fields #[.ref l, .int 0 0] }).objs.size)))
        { s with heap := (s.heap.push { cls := .type "tuple_iterator", data := .fields #[.ref l, .int 0 0] }).push { cls := .type "enumerate", data := .fields #[.none, .bool false, .ref s.heap.objs.size, rawInt 0, .none, .none] } }) :=
  .of_wp fun prog w A R s h => by
    obtain ⟨hp, g, d, tk, os⟩ := s
    obtain ⟨hl, h⟩ := h
    have hsub := PySem.sub_enumerate
    have hT : Heap.IsTuple (Shared.heap ⟨hp, g, d, tk, os⟩) l items := ⟨_, hl, rfl, n, rfl⟩
    wp_walk using PySem.AutoSeq1.wpAny_loadPart' hl
    refine wpAny_stack_any fun st => wpAny_pure ?_
    split
    · rename_i c _ _ _ _ _
      cases (c == Value.type "enumerate")
      · wp_walk using PySem.AutoSeq1.wpAny_loadPart' hl, wpAny_pyIter_tuple hT
        exact ⟨_, rfl, h⟩
      · wp_walk using PySem.AutoSeq1.wpAny_loadPart' hl, wpAny_pyIter_tuple hT
        exact ⟨_, rfl, h⟩
    · wp_walk using PySem.AutoSeq1.wpAny_loadPart' hl, wpAny_pyIter_tuple hT
      exact ⟨_, rfl, h⟩
theorem call_enumT {prog : Program} {w : World} {A : Around} {E : Value → Shared → Prop} {s : Shared} {l : Addr} {items : Array Value} {Q : Value → Shared → Prop} (hL : s.heap.IsTuple l items)
    (h : ∀ h', IsEnum h' (s.heap.objs.size + 1) s.heap.objs.size 0 .none → h'.IsTupleIter s.heap.objs.size l 0 → (∀ b o, s.heap.get? b = some o → h'.get? b = some o) → Q (.ref (s.heap.objs.size + 1)) { s with heap := h' }) :
    wpAny (model prog w) A (call (.type "enumerate") [.ref l]) Q E s := by
  obtain ⟨⟨c, dct, dt, sl⟩, hl, hc, n, hd⟩ := hL
  have hc' : c = .type "tuple" := hc
  have hd' : dt = .seq items n := hd
  subst hc' hd'
  refine callType_new F.called_enumerate (by decide) (F.typeCall_enumerate_1 _) (F.newCall_enumerate_1 _) (fun obj => F.args_object_init_2 obj _) F.entry_enumerate_new (meets_enumT l items n dct sl) ⟨hl, ?_⟩
  have hz : (s.heap.push { cls := .type "tuple_iterator", data := .fields #[.ref l, .int 0 0] }).objs.size = s.heap.objs.size + 1 := Heap.size_push ..
  show _ ∧ _
  rw [hz]
  have he : IsEnum ((s.heap.push { cls := .type "tuple_iterator", data := .fields #[.ref l, .int 0 0] }).push { cls := .type "enumerate", data := .fields #[.none, .bool false, .ref s.heap.objs.size, rawInt 0, .none, .none] }) (s.heap.objs.size + 1) s.heap.objs.size 0 .none := by
    have q := Heap.get?_push_size (s.heap.push { cls := .type "tuple_iterator", data := .fields #[.ref l, .int 0 0] }) (o := { cls := .type "enumerate", data := .fields #[.none, .bool false, .ref s.heap.objs.size, rawInt 0, .none, .none] }) rfl
    rw [hz] at q
    exact q
  exact ⟨⟨_, he, rfl⟩, h _ he ⟨_, Heap.get?_push_of_some _ (Heap.get?_push_size _ rfl), rfl, rfl⟩ fun b o x => Heap.get?_push_of_some _ (Heap.get?_push_of_some _ x)⟩
/-- the tuple at a, each item in a new pair with its place -/
def IteT (K : PySem.W.Frag) (a : Addr) : L2.It :=
  ⟨fun i H => ∃ (xs : List V) (x : V), SqT K H a xs ∧ xs[i]? = some x, fun i H v H' => ∃ T x, v = .ref T ∧ H T = none ∧ H' = upd H T (.tup [.int (i : Nat), x]) ∧ ∀ xs, SqT K H a xs → xs[i]? = some x, fun i H => ∃ xs : List V, SqT K H a xs ∧ xs.length ≤ i⟩
theorem turn_enumT {P : Program} {w : World} {K : PySem.W.Frag} {elts : List Expr} {kk : Nat} {tpos : Pos} (a e it : Addr) :
    Turn P w K (.Tuple elts kk tpos) (IteT K a) [e, it] e (fun i h => (∃ old, IsEnum h e it ((i : Nat) : Int) old) ∧ h.IsTupleIter it a i ∧ e ≠ it ∧ a ≠ it ∧ a ≠ e) where
  mem := by simp
  obj := fun i h st b hb => by
    obtain ⟨⟨old, he⟩, ⟨o, ho, _, hd⟩, _⟩ := st
    rcases (by simpa using hb : b = e ∨ b = it) with z | z
    · rw [z]
      exact ⟨_, he, fun v q => nomatch q⟩
    · rw [z]
      exact ⟨o, ho, fun v q => by rw [hd] at q; cases q⟩
  keep := fun i h h' st k => by
    obtain ⟨⟨old, he⟩, hi, hne⟩ := st
    exact ⟨⟨old, k e (by simp) _ he⟩, hi.at fun o q => k it (by simp) o q, hne⟩
  item := by
    intro X hP hw hK hc i pins s σ H E I hf st hg
    subst hP hw hK
    obtain ⟨⟨old, he⟩, hit, hne, hai, hae⟩ := st
    obtain ⟨xs, x, hq, hx⟩ := hg
    obtain ⟨its, rv, p, hz⟩ := I.tuple hq
    obtain ⟨u, hu, ru⟩ := rv.get hx
    have hel : e < s.heap.objs.size := Heap.lt_size he
    have hil : it < s.heap.objs.size := by
      obtain ⟨_, q, _⟩ := hit
      exact Heap.lt_size q
    have hhd : X.A.in1.handled = none := I.ok.hd hc
    have hu' : its.toArray[i]? = some u := by simpa using hu
    have hin : i < its.toArray.size := by
      obtain ⟨q, _⟩ := Array.getElem?_eq_some_iff.mp hu'
      exact q
    refine wpAny_pyNext_enum_itemD (Draws.tuple (prog := X.prog) (w := X.w) hhd it a hai its.toArray) he ⟨hit, show s.heap.IsTuple a its.toArray from p⟩ hin hne (by simp [hne, Ne.symm hae]) fun x' h' tk hP ho st' hT hsz hk => ?_
    have hP' : its.toArray[i]? = some x' := hP
    have ex : x' = u := by rw [hu'] at hP'; exact (Option.some.inj hP').symm
    subst ex
    refine ⟨_, rfl, wpAny_letOwnedTupleGo_enum (s := { s with heap := h', toks := tk + 1 }) ho fun h'' he' sb => ?_⟩
    have hT2 : h''.get? s.heap.objs.size = some { cls := .type "tuple", data := .seq #[.int i tk, x'] } := (sb.2 _ (Nat.ne_of_gt hel)).trans hT
    have newO : ObjOk X.prog X.w (upd H s.heap.objs.size (.tup [.int (i : Nat), x])) h'' s.heap.objs.size (.tup [.int (i : Nat), x]) := ⟨by show 2 ≤ sizeLine; decide, [.int i tk, x'], .cons ⟨_, rfl⟩ (.cons ru .nil), ⟨_, hT2, rfl, _, rfl⟩⟩
    have I1 : Inv X pins σ (upd H s.heap.objs.size (.tup [.int (i : Nat), x])) { s with heap := h'', toks := tk + 1 } :=
      I.turnedNew (ch := [e, it]) (fun b ob hb q => by
        have n1 : b ≠ e := fun z => hb (by simp [z])
        have n2 : b ≠ it := fun z => hb (by simp [z])
        exact (sb.2 b n1).trans (hk b ob n1 n2 q)) hf (Nat.le_refl _) newO
    refine ⟨.ref s.heap.objs.size, _, I1, rfl, ⟨_, x, rfl, I.hok.fresh (Nat.le_refl _), rfl, fun ys hy => ?_⟩, ⟨⟨x', ?_⟩, st'.1.at fun o q => (sb.2 it (Ne.symm hne)).trans q, hne, hai, hae⟩, fun b hb => ?_⟩
    · rw [I.tuple_inj hy hq]
      exact hx
    · rw [show ((i + 1 : Nat) : Int) = (i : Int) + 1 by omega]
      exact he'
    · have hb' : b < s.heap.objs.size := by
        rcases (by simpa using hb : b = e ∨ b = it) with z | z
        · rw [z]; exact hel
        · rw [z]; exact hil
      rw [upd_ne (Nat.ne_of_lt hb')]
      exact (hf b hb).1
  done := by
    intro X hP hw hK hc i pins s σ H E I hf st hg
    subst hP hw hK
    obtain ⟨⟨old, he⟩, hit, hne, hai, hae⟩ := st
    obtain ⟨xs, hq, hx⟩ := hg
    obtain ⟨its, rv, p, hz⟩ := I.tuple hq
    obtain ⟨f0, f1, f2, f3, f4, f5⟩ := hf it (by simp)
    have hl := rv.length
    have hn : its.toArray[i]? = none := by
      rw [Array.getElem?_eq_none_iff]
      simp only [List.size_toArray]
      omega
    have hT : s.TypeIs (.ref e) "enumerate" := ⟨_, he, rfl⟩
    unfold pyNext
    refine wpAny_bind (wpAny_attempt (wpAny_callSpecial?_slot (name := Str.ofString "__next__") hT F.slot_enumerate_next (wpAny_call_entry F.slot_enumerate_next hT F.entry_enumerate_next ?_ (F.args_enumerate_next_1 _))))
    show wpAny _ _ (field (.ref e) 2 >>= _) _ _ _
    refine wpAny_bind (wpAny_field he rfl (x := .ref it) rfl ?_)
    refine wpAny_bind (RZ.nextOf_tuple_end (show X.A.in1.handled = none from I.ok.hd hc) hit (show s.heap.IsTuple a its.toArray from p) hn fun h' x he' hx' => ?_)
    obtain ⟨o, ho, hco⟩ := hx'
    refine wpAny_bind (wpAny_isInstance (T := "StopIteration") (b := true) ⟨o, ho, hco⟩ isSubtype_stop ?_)
    exact wpAny_pure ⟨rfl, I.turned (t' := s.toks) (fun b o hb q => he' b o hb q) f0 f1 f3 f4 f5⟩
  self := fun A i s Q E st h => by
    obtain ⟨⟨_, he⟩, _⟩ := st
    exact wpAny_pyIter_enum he h
def iEnumA (K : PySem.W.Frag) (ta : TA) : TI := fun σ H R => ta σ H fun vs H1 => ∃ a xs, vs = [.ref a] ∧ ((SqL K H1 a xs ∧ R (Ite K a) H1) ∨ (SqT K H1 a xs ∧ R (IteT K a) H1))
theorem pi_enumA {X : Cx} {e : Expr} {ta : TA} {p pos tpos : Pos} {elts : List Expr} {kk : Nat} (hg : Gl X "enumerate") (hm : X.mg "enumerate" = none) (ha : PA X [e] ta) (hs : starEach [e] X.env = [(false, eval e X.env)]) :
    PI X (.Tuple elts kk tpos) (.Call (.Name "enumerate" p) [e] [] pos) (iEnumA X.K ta) := by
  refine ⟨fun pins s σ H R I h => ?_⟩
  refine Call_ (ld_blt I hg hm boot_enumerate (PyProof.Rows.callWith_type1 (thn (ha.run pos pins s σ H _ I h) fun us s1 ⟨vs, H1, I1, r1, q1⟩ => ?_) hs rfl))
  obtain ⟨a, xs, ex, q1⟩ := q1
  subst ex
  have eu := Vals.ref1 r1
  subst eu
  have fresh2 : ∀ b ∈ [s1.heap.objs.size + 1, s1.heap.objs.size], FpOk X pins H1 b := fun b hb => by
    have hle : s1.heap.objs.size ≤ b := by
      rcases (by simpa using hb : b = s1.heap.objs.size + 1 ∨ b = s1.heap.objs.size) with z | z
      · rw [z]; exact Nat.le_succ _
      · rw [z]; exact Nat.le_refl _
    exact I1.fpOk hle (I1.hok.fresh hle)
  rcases q1 with ⟨hq, q⟩ | ⟨hq, q⟩
  · obtain ⟨its, rv, p', hz⟩ := I1.list hq
    refine call_enumerate_list p'.isList fun h' he hit hsz hk => wpAny_pyIter_enum he ?_
    exact ⟨s1.heap.objs.size + 1, _, _, _, H1, rfl, I1.kept (h' := h') (t' := s1.toks) hk, turn_enum a (s1.heap.objs.size + 1) s1.heap.objs.size, ⟨⟨.none, he⟩, hit, Nat.succ_ne_self _⟩, fresh2, q⟩
  · obtain ⟨its, rv, p', hz⟩ := I1.tuple hq
    have hal : a < s1.heap.objs.size := by
      obtain ⟨o, ho, _⟩ := p'
      exact Heap.lt_size ho
    refine call_enumT (show s1.heap.IsTuple a its.toArray from p') fun h' he hit hk => wpAny_pyIter_enum he ?_
    exact ⟨s1.heap.objs.size + 1, _, _, _, H1, rfl, I1.kept (h' := h') (t' := s1.toks) hk, turn_enumT a (s1.heap.objs.size + 1) s1.heap.objs.size, ⟨⟨.none, he⟩, hit, Nat.succ_ne_self _, Nat.ne_of_lt hal, Nat.ne_of_lt (Nat.lt_succ_of_lt hal)⟩, fresh2, q⟩
theorem walks_enumT {K : PySem.W.Frag} {F : Hp} {a : Addr} {us : List V} {ds : List D} (h : F a = some (.tup us)) (r : RepL F ds us) : Walks (IteT K a) F (enumL ds) := fun i F' H' s s' => by
  have q : SqT K H' a us := SqT.of (s' _ _ (s _ _ h))
  have l1 := r.len
  unfold enumL
  rw [List.length_map, List.length_zipIdx]
  refine ⟨fun hi => ?_, fun hi => ⟨us, q, by omega⟩⟩
  obtain ⟨v, e1, e2⟩ := r.get (List.getElem?_eq_getElem hi)
  refine ⟨⟨us, v, q, e1⟩, fun x H'' ⟨p, y, ex, hp, eH, k⟩ => ?_⟩
  subst ex eH
  have k := k us q
  rw [e1] at k; cases k
  exact ⟨_, enum_get (List.getElem?_eq_getElem hi), .tup hp (rep2 (d := .int _) rfl (RepD.mono s _ _ e2))⟩
end DV
end
section
set_option Elab.async false
set_option maxRecDepth 100000
set_option linter.all false
/-! DV7: expressions: the reading is sound, construct by construct. -/
namespace DV
open PySem PySem.Spec PyProof.Rows L2

section
variable {cls : Nat → Addr} {G : Nat → DSp} {sub : Nat → Nat → Option Bool}
/-- behind an expression -/
def PO' (T : Fr) (σ : St) (F : Hp) (Q : B → Env → Prop) : VK := fun v H' => ∃ b ρ' F', Same F F' ∧ Sim T ρ' σ F' H' ∧ Res T ρ' σ F' H' v b ∧ Q b ρ'
def PV' (T : Fr) (σ : St) (F : Hp) (Q : D → Env → Prop) : VK := fun v H' => ∃ d ρ' F', Same F F' ∧ Sim T ρ' σ F' H' ∧ RepD F' d v ∧ Q d ρ'
def SE (cls : Nat → Addr) (sub : Nat → Nat → Option Bool) (cur : Option Nat) (X : Cx) (c : Cc) (W : WX) (x : Expr) (rd : Env → Er → (B → Env → Prop) → Prop) : Prop :=
  ∀ (T : Fr) (σ : St) (ρ : Env) (F H : Hp) (er : Er) (Q : B → Env → Prop), T.P.map (·.1) = c.pm → EvOk X c cls sub cur σ → Sim T ρ σ F H → ErOk T W cls er → rd ρ er Q → sE X x σ H (PO' T σ F Q)
def ST (cls : Nat → Addr) (sub : Nat → Nat → Option Bool) (cur : Option Nat) (X : Cx) (c : Cc) (W : WX) (x : Expr) (rd : Env → Er → (Bool → Env → Prop) → Prop) : Prop :=
  ∀ (T : Fr) (σ : St) (ρ : Env) (F H : Hp) (er : Er) (Q : Bool → Env → Prop), T.P.map (·.1) = c.pm → EvOk X c cls sub cur σ → Sim T ρ σ F H → ErOk T W cls er → rd ρ er Q →
    sT X x σ H fun k H' => ∃ ρ' F', Same F F' ∧ Sim T ρ' σ F' H' ∧ Q k ρ'
def SA (cls : Nat → Addr) (sub : Nat → Nat → Option Bool) (cur : Option Nat) (X : Cx) (c : Cc) (W : WX) (xs : List Expr) (rd : Env → Er → (List Ar → Env → Prop) → Prop) : Prop :=
  ∀ (T : Fr) (σ : St) (ρ : Env) (F H : Hp) (er : Er) (Q : List Ar → Env → Prop), T.P.map (·.1) = c.pm → EvOk X c cls sub cur σ → Sim T ρ σ F H → ErOk T W cls er → rd ρ er Q →
    sA X xs σ H fun vs H' => ∃ ars ρ' F', Same F F' ∧ Sim T ρ' σ F' H' ∧ ArsR F' σ vs ars ∧ ars.length = xs.length ∧ Q ars ρ'
def SI (cls : Nat → Addr) (sub : Nat → Nat → Option Bool) (cur : Option Nat) (X : Cx) (c : Cc) (W : WX) (tg x : Expr) (rd : Env → Er → (List D → Env → Prop) → Prop) : Prop :=
  ∀ (T : Fr) (σ : St) (ρ : Env) (F H : Hp) (er : Er) (Q : List D → Env → Prop) (R : L2.It → Hp → Prop), T.P.map (·.1) = c.pm → EvOk X c cls sub cur σ → Sim T ρ σ F H → ErOk T W cls er → rd ρ er Q →
    (∀ J H' items ρ' F', Same F F' → Sim T ρ' σ F' H' → Walks J F' items → Q items ρ' → R J H') → sI X tg x σ H R
theorem SE.v {cur : Option Nat} {X : Cx} {c : Cc} {W : WX} {x : Expr} {rd : Env → Er → (B → Env → Prop) → Prop} (s : SE cls sub cur X c W x rd) {T : Fr} {σ : St} {ρ : Env} {F H : Hp} {er : Er} {Q : B → Env → Prop} (hp : T.P.map (·.1) = c.pm) (ev : EvOk X c cls sub cur σ) (sm : Sim T ρ σ F H) (eo : ErOk T W cls er)
    (q : rd ρ er Q) {Q' : VK} (k : ∀ v H' b ρ' F', Same F F' → Sim T ρ' σ F' H' → RepD F' b.d v → Q b ρ' → Q' v H') : sE X x σ H Q' :=
  sE_mono (s T σ ρ F H er Q hp ev sm eo q) fun v H' ⟨b, ρ', F', s1, s2, r, q'⟩ => by
    obtain ⟨F2, s3, s4, r2⟩ := r.freeze s2
    exact k v H' b ρ' F2 (s1.trans s3) s4 r2 q'
theorem PO'.trans {T : Fr} {σ : St} {F F1 : Hp} {Q : B → Env → Prop} {v : V} {H : Hp} (s : Same F F1) (p : PO' T σ F1 Q v H) : PO' T σ F Q v H := let ⟨b, ρ', F', s1, r⟩ := p; ⟨b, ρ', F', s.trans s1, r⟩
theorem PO'.gives {T : Fr} {σ : St} {F H H' : Hp} {ρ : Env} {Q : B → Env → Prop} {v : V} {b : B} (s : Sim T ρ σ F H) (g : Gives F H v H' b) (q : Q b ρ) : PO' T σ F Q v H' := by
  obtain ⟨F', s1, s2, r⟩ := g.post s
  exact ⟨b, ρ, F', s1, s2, r, q⟩

section
variable {cur : Option Nat} {X : Cx} {c : Cc} {W : WX}
theorem se_bin {o : Op} {x y : Expr} {pos : Pos} {ra rb : Env → Er → (B → Env → Prop) → Prop} (ha : SE cls sub cur X c W x ra) (hb : SE cls sub cur X c W y rb) :
    SE cls sub cur X c W (.BinOp x (opOf o) y pos) (fun ρ er Q => ra ρ er fun a ρ1 => rb ρ1 er fun b ρ2 => opD o a.d b.d fun z => Q z ρ2) := fun T σ ρ F H er Q hp ev sm eo q =>
  sE_of (pe_op op_s pe_s pe_s) (ha.v hp ev sm eo q fun v H1 b1 ρ1 F1 s1 m1 r1 q1 => hb.v hp ev m1 eo q1 fun u H2 b2 ρ2 F2 s2 m2 r2 q2 => fun pins s σ' w z I rx ry => by
    have k := opD_ok (X := X) q2 m2.fh (RepD.mono s2 _ _ r1) r2
    refine thn (k pins s σ' w z I rx ry) fun u' s' ⟨v', H', I', rv, ⟨b, g, kb⟩⟩ => ⟨v', H', I', rv, ?_⟩
    exact PO'.trans (s1.trans s2) (PO'.gives m2 g kb))
theorem se_neg {x : Expr} {pos : Pos} {ra : Env → Er → (B → Env → Prop) → Prop} (ha : SE cls sub cur X c W x ra) :
    SE cls sub cur X c W (.UnaryOp .USub x pos) (fun ρ er Q => ra ρ er fun a ρ1 => match a.d with
      | .int i => Q (.val (.int (-i))) ρ1
      | _ => False) := fun T σ ρ F H er Q hp ev sm eo q =>
  sE_of (pe_un un_neg pe_s) (ha.v hp ev sm eo q fun v H1 b1 ρ1 F1 s1 m1 r1 q1 => by
    generalize b1.d = d at r1 q1
    cases d with
    | int i =>
      cases r1
      exact ⟨i, rfl, PO'.trans s1 (PO'.gives m1 g_int q1)⟩
    | _ => exact q1.elim)
theorem cm_post {o : Cm} {x y : D} {K : Bool → Prop} {v u : V} {F H : Hp} {Q : VK} (hu : X.A.units + 64 < cLine) (h : cmD o x y K) (s : Same F H) (rx : RepD F x v) (ry : RepD F y u) (k : ∀ b, K b → Q (.bl b) H) : sO X (compareOp (cmOf o)) v u H Q := fun pins st σ w z I r1 r2 =>
  thn (cmD_ok (X := X) hu h s rx ry pins st σ w z I r1 r2) fun u' s' ⟨v', H', I', rv, e, b, e2, kb⟩ => by
    subst e e2
    exact ⟨_, _, I', rv, k b kb⟩
theorem nomk {b : Expr} {o : Cm} : behindInMarks (cmOf o) b = false := nobehind b (by cases o <;> decide) (by cases o <;> decide)
theorem nomk2 {b d : Expr} {o p : Cm} : lastMarks [cmOf o, cmOf p] [b, d] = false := by
  show behindInMarks (cmOf p) d = false
  exact nomk
theorem se_cmp (hu : X.A.units + 64 < cLine) {o : Cm} {x y : Expr} {pos : Pos} {ra rb : Env → Er → (B → Env → Prop) → Prop} (ha : SE cls sub cur X c W x ra) (hb : SE cls sub cur X c W y rb) :
    SE cls sub cur X c W (.Compare x [cmOf o] [y] pos) (fun ρ er Q => ra ρ er fun a ρ1 => rb ρ1 er fun b ρ2 => cmD o a.d b.d fun k => Q (.val (.bl k)) ρ2) := fun T σ ρ F H er Q hp ev sm eo q =>
  sE_of (pe_cmpR op_s pe_s pe_s nomk) (ha.v hp ev sm eo q fun v H1 b1 ρ1 F1 s1 m1 r1 q1 => hb.v hp ev m1 eo q1 fun u H2 b2 ρ2 F2 s2 m2 r2 q2 =>
    cm_post hu q2 m2.fh (RepD.mono s2 _ _ r1) r2 fun b kb => PO'.trans (s1.trans s2) (PO'.gives m2 g_bl kb))
theorem st_cmp (hu : X.A.units + 64 < cLine) {o : Cm} {x y : Expr} {pos : Pos} {ra rb : Env → Er → (B → Env → Prop) → Prop} (ha : SE cls sub cur X c W x ra) (hb : SE cls sub cur X c W y rb) :
    ST cls sub cur X c W (.Compare x [cmOf o] [y] pos) (fun ρ er Q => ra ρ er fun a ρ1 => rb ρ1 er fun b ρ2 => cmD o a.d b.d fun k => Q k ρ2) := fun T σ ρ F H er Q hp ev sm eo q =>
  sT_of (pt_cmpR op_s pe_s pe_s nomk) (ha.v hp ev sm eo q fun v H1 b1 ρ1 F1 s1 m1 r1 q1 => hb.v hp ev m1 eo q1 fun u H2 b2 ρ2 F2 s2 m2 r2 q2 =>
    cm_post hu q2 m2.fh (RepD.mono s2 _ _ r1) r2 fun b kb => ⟨b, rfl, ρ2, F2, s1.trans s2, m2, kb⟩)
theorem se_chain (hu : X.A.units + 64 < cLine) {o p : Cm} {x y z : Expr} {pos : Pos} {ra rb rc : Env → Er → (B → Env → Prop) → Prop} (ha : SE cls sub cur X c W x ra) (hb : SE cls sub cur X c W y rb) (hc : SE cls sub cur X c W z rc) :
    SE cls sub cur X c W (.Compare x [cmOf o, cmOf p] [y, z] pos) (fun ρ er Q => ra ρ er fun a ρ1 => rb ρ1 er fun b ρ2 => cmD o a.d b.d fun k =>
      br k (rc ρ2 er fun e ρ3 => cmD p b.d e.d fun k' => Q (.val (.bl k')) ρ3) (Q (.val (.bl false)) ρ2)) := fun T σ ρ F H er Q hp ev sm eo q =>
  sE_of (pe_chain op_s op_s pe_s pe_s pe_s nomk2) (ha.v hp ev sm eo q fun v H1 b1 ρ1 F1 s1 m1 r1 q1 => hb.v hp ev m1 eo q1 fun u H2 b2 ρ2 F2 s2 m2 r2 q2 =>
    cm_post hu q2 m2.fh (RepD.mono s2 _ _ r1) r2 fun k kb => ⟨k, rfl, by
      cases k with
      | true =>
        rw [if_pos rfl]
        exact hc.v hp ev m2 eo kb fun w H3 b3 ρ3 F3 s3 m3 r3 q3 => cm_post hu q3 m3.fh (RepD.mono s3 _ _ r2) r3 fun b kb => PO'.trans ((s1.trans s2).trans s3) (PO'.gives m3 g_bl kb)
      | false =>
        rw [if_neg Bool.false_ne_true]
        exact PO'.trans (s1.trans s2) (PO'.gives m2 g_bl kb)⟩)
theorem st_chain (hu : X.A.units + 64 < cLine) {o p : Cm} {x y z : Expr} {pos : Pos} {ra rb rc : Env → Er → (B → Env → Prop) → Prop} (ha : SE cls sub cur X c W x ra) (hb : SE cls sub cur X c W y rb) (hc : SE cls sub cur X c W z rc) :
    ST cls sub cur X c W (.Compare x [cmOf o, cmOf p] [y, z] pos) (fun ρ er Q => ra ρ er fun a ρ1 => rb ρ1 er fun b ρ2 => cmD o a.d b.d fun k =>
      br k (rc ρ2 er fun e ρ3 => cmD p b.d e.d fun k' => Q k' ρ3) (Q false ρ2)) := fun T σ ρ F H er Q hp ev sm eo q =>
  sT_of (pt_chain op_s op_s pe_s pe_s pe_s nomk2) (ha.v hp ev sm eo q fun v H1 b1 ρ1 F1 s1 m1 r1 q1 => hb.v hp ev m1 eo q1 fun u H2 b2 ρ2 F2 s2 m2 r2 q2 =>
    cm_post hu q2 m2.fh (RepD.mono s2 _ _ r1) r2 fun k kb => ⟨k, rfl, by
      cases k with
      | true =>
        rw [if_pos rfl]
        exact hc.v hp ev m2 eo kb fun w H3 b3 ρ3 F3 s3 m3 r3 q3 => cm_post hu q3 m3.fh (RepD.mono s3 _ _ r2) r3 fun b kb => ⟨b, rfl, ρ3, F3, (s1.trans s2).trans s3, m3, kb⟩
      | false =>
        rw [if_neg Bool.false_ne_true]
        exact ⟨false, rfl, ρ2, F2, s1.trans s2, m2, kb⟩⟩)
theorem se_andL {x y : Expr} {r : List Expr} {pos : Pos} {ra rb : Env → Er → (B → Env → Prop) → Prop} (ha : SE cls sub cur X c W x ra) (hb : SE cls sub cur X c W (.BoolOp .And (y :: r) pos) rb) :
    SE cls sub cur X c W (.BoolOp .And (x :: y :: r) pos) (fun ρ er Q => ra ρ er fun a ρ1 => match a.d with
      | .bl k => br k (rb ρ1 er Q) (Q (.val (.bl false)) ρ1)
      | _ => False) := fun T σ ρ F H er Q hp ev sm eo q =>
  sE_of (pe_and pe_s pe_s) (ha.v hp ev sm eo q fun v H1 b1 ρ1 F1 s1 m1 r1 q1 => by
    generalize b1.d = d at r1 q1
    cases d with
    | bl k =>
      cases r1
      refine ⟨k, rfl, ?_⟩
      cases k with
      | true =>
        rw [if_pos rfl]
        exact sE_mono (hb T σ ρ1 F1 H1 er Q hp ev m1 eo q1) fun _ _ p => p.trans s1
      | false =>
        rw [if_neg Bool.false_ne_true]
        exact PO'.trans s1 (PO'.gives m1 g_bl q1)
    | _ => exact q1.elim)
theorem se_orL {x y : Expr} {r : List Expr} {pos : Pos} {ra rb : Env → Er → (B → Env → Prop) → Prop} (ha : SE cls sub cur X c W x ra) (hb : SE cls sub cur X c W (.BoolOp .Or (y :: r) pos) rb) :
    SE cls sub cur X c W (.BoolOp .Or (x :: y :: r) pos) (fun ρ er Q => ra ρ er fun a ρ1 => match a.d with
      | .bl k => br k (Q (.val (.bl true)) ρ1) (rb ρ1 er Q)
      | _ => False) := fun T σ ρ F H er Q hp ev sm eo q =>
  sE_of (pe_or pe_s pe_s) (ha.v hp ev sm eo q fun v H1 b1 ρ1 F1 s1 m1 r1 q1 => by
    generalize b1.d = d at r1 q1
    cases d with
    | bl k =>
      cases r1
      refine ⟨k, rfl, ?_⟩
      cases k with
      | true =>
        rw [if_pos rfl]
        exact PO'.trans s1 (PO'.gives m1 g_bl q1)
      | false =>
        rw [if_neg Bool.false_ne_true]
        exact sE_mono (hb T σ ρ1 F1 H1 er Q hp ev m1 eo q1) fun _ _ p => p.trans s1
    | _ => exact q1.elim)
theorem se_one {op : BoolOp} {x : Expr} {pos : Pos} {ra : Env → Er → (B → Env → Prop) → Prop} (ha : SE cls sub cur X c W x ra) : SE cls sub cur X c W (.BoolOp op [x] pos) ra := fun T σ ρ F H er Q hp ev sm eo q =>
  sE_of (pe_one pe_s) (ha T σ ρ F H er Q hp ev sm eo q)
theorem se_not {x : Expr} {pos : Pos} {ra : Env → Er → (B → Env → Prop) → Prop} (ha : SE cls sub cur X c W x ra) :
    SE cls sub cur X c W (.UnaryOp .Not x pos) (fun ρ er Q => ra ρ er fun a ρ1 => match a.d with
      | .bl k => Q (.val (.bl (!k))) ρ1
      | _ => False) := fun T σ ρ F H er Q hp ev sm eo q =>
  sE_of (pe_not pe_s) (ha.v hp ev sm eo q fun v H1 b1 ρ1 F1 s1 m1 r1 q1 => by
    generalize b1.d = d at r1 q1
    cases d with
    | bl k =>
      cases r1
      exact ⟨k, rfl, PO'.trans s1 (PO'.gives m1 g_bl q1)⟩
    | _ => exact q1.elim)
theorem se_ite {t x y : Expr} {pos : Pos} {rt : Env → Er → (Bool → Env → Prop) → Prop} {ra rb : Env → Er → (B → Env → Prop) → Prop} (ht : ST cls sub cur X c W t rt) (ha : SE cls sub cur X c W x ra) (hb : SE cls sub cur X c W y rb) :
    SE cls sub cur X c W (.IfExp t x y pos) (fun ρ er Q => rt ρ er fun k ρ1 => br k (ra ρ1 er Q) (rb ρ1 er Q)) := fun T σ ρ F H er Q hp ev sm eo q =>
  sE_of (pe_ifExp pt_s pe_s pe_s) (sT_mono (ht T σ ρ F H er _ hp ev sm eo q) fun k H1 ⟨ρ1, F1, s1, m1, q1⟩ => by
    cases k with
    | true =>
      rw [if_pos rfl]
      exact sE_mono (ha T σ ρ1 F1 H1 er Q hp ev m1 eo q1) fun _ _ p => p.trans s1
    | false =>
      rw [if_neg Bool.false_ne_true]
      exact sE_mono (hb T σ ρ1 F1 H1 er Q hp ev m1 eo q1) fun _ _ p => p.trans s1)
theorem st_andL {x y : Expr} {r : List Expr} {pos : Pos} {ra rb : Env → Er → (Bool → Env → Prop) → Prop} (ha : ST cls sub cur X c W x ra) (hb : ∀ (T : Fr) (σ : St) (ρ : Env) (F H : Hp) (er : Er) (Q : Bool → Env → Prop), T.P.map (·.1) = c.pm → EvOk X c cls sub cur σ → Sim T ρ σ F H → ErOk T W cls er → rb ρ er Q → sW X (.BoolOp .And (y :: r) pos) σ H fun k H' => ∃ ρ' F', Same F F' ∧ Sim T ρ' σ F' H' ∧ Q k ρ') :
    ∀ (T : Fr) (σ : St) (ρ : Env) (F H : Hp) (er : Er) (Q : Bool → Env → Prop), T.P.map (·.1) = c.pm → EvOk X c cls sub cur σ → Sim T ρ σ F H → ErOk T W cls er → (ra ρ er fun k ρ1 => br k (rb ρ1 er Q) (Q false ρ1)) → sW X (.BoolOp .And (x :: y :: r) pos) σ H fun k H' => ∃ ρ' F', Same F F' ∧ Sim T ρ' σ F' H' ∧ Q k ρ' := fun T σ ρ F H er Q hp ev sm eo q =>
  sW_of (pw_and pt_s pw_s) (sT_mono (ha T σ ρ F H er _ hp ev sm eo q) fun k H1 ⟨ρ1, F1, s1, m1, q1⟩ => by
    cases k with
    | true =>
      rw [if_pos rfl]
      intro wh pins s I
      exact thn (hb T σ ρ1 F1 H1 er Q hp ev m1 eo q1 wh pins s I) fun b s' ⟨H', I', ρ', F', s2, z⟩ => ⟨H', I', ρ', F', s1.trans s2, z⟩
    | false =>
      rw [if_neg Bool.false_ne_true]
      exact ⟨ρ1, F1, s1, m1, q1⟩)
theorem st_orL {x y : Expr} {r : List Expr} {pos : Pos} {ra rb : Env → Er → (Bool → Env → Prop) → Prop} (ha : ST cls sub cur X c W x ra) (hb : ∀ (T : Fr) (σ : St) (ρ : Env) (F H : Hp) (er : Er) (Q : Bool → Env → Prop), T.P.map (·.1) = c.pm → EvOk X c cls sub cur σ → Sim T ρ σ F H → ErOk T W cls er → rb ρ er Q → sW X (.BoolOp .Or (y :: r) pos) σ H fun k H' => ∃ ρ' F', Same F F' ∧ Sim T ρ' σ F' H' ∧ Q k ρ') :
    ∀ (T : Fr) (σ : St) (ρ : Env) (F H : Hp) (er : Er) (Q : Bool → Env → Prop), T.P.map (·.1) = c.pm → EvOk X c cls sub cur σ → Sim T ρ σ F H → ErOk T W cls er → (ra ρ er fun k ρ1 => br k (Q true ρ1) (rb ρ1 er Q)) → sW X (.BoolOp .Or (x :: y :: r) pos) σ H fun k H' => ∃ ρ' F', Same F F' ∧ Sim T ρ' σ F' H' ∧ Q k ρ' := fun T σ ρ F H er Q hp ev sm eo q =>
  sW_of (pw_or pt_s pw_s) (sT_mono (ha T σ ρ F H er _ hp ev sm eo q) fun k H1 ⟨ρ1, F1, s1, m1, q1⟩ => by
    cases k with
    | true =>
      rw [if_pos rfl]
      exact ⟨ρ1, F1, s1, m1, q1⟩
    | false =>
      rw [if_neg Bool.false_ne_true]
      intro wh pins s I
      exact thn (hb T σ ρ1 F1 H1 er Q hp ev m1 eo q1 wh pins s I) fun b s' ⟨H', I', ρ', F', s2, z⟩ => ⟨H', I', ρ', F', s1.trans s2, z⟩)
theorem st_not {x : Expr} {pos : Pos} {ra : Env → Er → (Bool → Env → Prop) → Prop} (ha : ST cls sub cur X c W x ra) :
    ST cls sub cur X c W (.UnaryOp .Not x pos) (fun ρ er Q => ra ρ er fun k ρ1 => Q (!k) ρ1) := fun T σ ρ F H er Q hp ev sm eo q =>
  sT_of (pt_not pt_s) (sT_mono (ha T σ ρ F H er _ hp ev sm eo q) fun k H1 z => z)
theorem isTrue_plain' {x : Expr} (h : plainT x = true) : ∀ whole, isTrue x X.env whole = (do let v ← whole; standAt x.pos; holding [v] (truthy v)) := by
  intro whole
  cases x with
  | UnaryOp op y p =>
    cases op with
    | Not => unfold plainT at h; cases h
    | _ => rfl
  | BoolOp => unfold plainT at h; cases h
  | IfExp => unfold plainT at h; cases h
  | Compare => unfold plainT at h; cases h
  | _ => rfl
theorem st_val {x : Expr} {ra : Env → Er → (B → Env → Prop) → Prop} (hx : plainT x = true) (ha : SE cls sub cur X c W x ra) : ST cls sub cur X c W x (fun ρ er Q => ra ρ er fun a ρ1 => truOk a.d ∧ Q (truD a.d) ρ1) := fun T σ ρ F H er Q hp ev sm eo q =>
  sT_of (pt_truth pe_s (isTrue_plain' hx)) (ha.v hp ev sm eo q fun v H1 b1 ρ1 F1 s1 m1 r1 q1 => ⟨_, truD_ok m1.fh r1 q1.1, ρ1, F1, s1, m1, q1.2⟩)
theorem se_ix {x y : Expr} {pos : Pos} {ra rb : Env → Er → (B → Env → Prop) → Prop} (hy : notSlice y = true) (ha : SE cls sub cur X c W x ra) (hb : SE cls sub cur X c W y rb) :
    SE cls sub cur X c W (.Subscript x y pos) (fun ρ er Q => ra ρ er fun a ρ1 => rb ρ1 er fun b ρ2 => ixD a.d b.d fun d => Q (.val d) ρ2) := fun T σ ρ F H er Q hp ev sm eo q => by
  have pl : PlainIx y := fun o i => by
    cases y <;> first | rfl | (unfold notSlice at hy; cases hy)
  refine sE_of (pe_ix ix_s pe_s pe_s pl) (ha.v hp ev sm eo q fun v H1 b1 ρ1 F1 s1 m1 r1 q1 => hb.v hp ev m1 eo q1 fun u H2 b2 ρ2 F2 s2 m2 r2 q2 => ?_)
  intro value slice pins s σ' w z I rx ry hs
  refine thn (ixD_ok (X := X) q2 m2.fh (RepD.mono s2 _ _ r1) r2 value slice pins s σ' w z I rx ry hs) fun u' s' ⟨v', H', I', rv, e, d, rd, kd⟩ => ?_
  subst e
  exact ⟨v', _, I', rv, PO'.trans (s1.trans s2) (PO'.gives m2 (.same rd) kd)⟩
theorem plainIx_of {y : Expr} (hy : notSlice y = true) : PlainIx y := fun o i => by
  cases y <;> first | rfl | (unfold notSlice at hy; cases hy)
/-- the list that a slot holds, as data; where it is owned it counts as frozen for a while -/
theorem Sim.look {T : Fr} {ρ : Env} {σ : St} {F H : Hp} (s : Sim T ρ σ F H) {i : Nat} {b : B} (h : getE ρ i = some b) : ∃ v F', σ[i]? = some (some v) ∧ Same F F' ∧ Same F' H ∧ RepD F' b.d v := by
  obtain ⟨v, e, r⟩ := s.slot i b h
  cases b with
  | val d => exact ⟨v, F, e, sameR, s.fh, r⟩
  | own xs =>
    obtain ⟨a, us, rfl, h1, h2, h3⟩ := r
    have sm : Same F (upd F a (.lst us)) := same_new h1
    refine ⟨_, _, e, sm, fun b o e' => ?_, a, us, rfl, upd_same, RepL.mono sm _ _ h3⟩
    by_cases hb : b = a
    · subst hb; rw [upd_same] at e'; cases e'; exact h2
    · rw [upd_ne hb] at e'; exact s.fh _ _ e'
theorem gg (g : Good X c W cls G sub) : True := trivial
end
end
end DV
end
section
set_option Elab.async false
set_option maxRecDepth 100000
set_option linter.all false
/-! DV8: expressions, further: slots, built-ins, calls, comprehensions. -/
namespace DV
open PySem PySem.Spec PyProof.Rows L2

section
variable {cls : Nat → Addr} {G : Nat → DSp} {sub : Nat → Nat → Option Bool} {cur : Option Nat} {X : Cx} {c : Cc} {W : WX}
theorem se_var (g : Good X c W cls G sub) {i : Nat} {x : Str} {pos : Pos} (h : chkV c i x = true) : SE cls sub cur X c W (.Name x pos) (rdE ⟨G, c.pm, cur, sub⟩ (.var i)) := fun T σ ρ F H er Q hp ev sm eo q => by
  refine sE_of (g.var h) ?_
  have q : (match getE ρ i with
    | some (.val d) => Q (.val d) ρ
    | some (.own xs) => c.pm.contains i = false ∧ Q (.val (.lst xs)) (ρ.set i (some (.val (.lst xs))))
    | none => False) := q
  cases e : getE ρ i with
  | none => rw [e] at q; exact q.elim
  | some b =>
    rw [e] at q
    cases b with
    | val d =>
      obtain ⟨v, e1, r⟩ := sm.slot i _ e
      exact ⟨v, e1, .val d, ρ, F, sameR, sm, r, q⟩
    | own xs =>
      obtain ⟨F', a, s1, s2, e1, r⟩ := sm.freeze e (by rw [hp]; exact q.1)
      exact ⟨_, e1, .val (.lst xs), _, F', s1, s2, r, q.2⟩
theorem se_con (g : Good X c W cls G sub) {x : Str} {i : Int} {pos : Pos} (h1 : c.sc.names.lookup x = some .globalImplicit) (h2 : nod x = true) (h3 : c.cons.lookup x = some i) : SE cls sub cur X c W (.Name x pos) (fun ρ er Q => Q (.val (.int i)) ρ) := fun T σ ρ F H er Q hp ev sm eo q => by
  obtain ⟨u, e1, e2⟩ := g.st.cons x i h3
  exact sE_of (pe_glob (v := .int i) (g.gl h1) e1 e2 (nod_of h2).1) (PO'.gives sm g_int q)
theorem se_int {i : Int} {j pos} : SE cls sub cur X c W (.Constant (.int i) j pos) (fun ρ er Q => Q (.val (.int i)) ρ) := fun T σ ρ F H er Q hp ev sm eo q => sE_of pe_int (PO'.gives sm g_int q)
theorem se_str {i : Str} {j pos} : SE cls sub cur X c W (.Constant (.str i) j pos) (fun ρ er Q => Q (.val (.str i)) ρ) := fun T σ ρ F H er Q hp ev sm eo q => sE_of pe_str (PO'.gives sm g_str q)
theorem se_bl {i : Bool} {j pos} : SE cls sub cur X c W (.Constant (.bool i) j pos) (fun ρ er Q => Q (.val (.bl i)) ρ) := fun T σ ρ F H er Q hp ev sm eo q => sE_of pe_bl (PO'.gives sm g_bl q)
theorem se_non {j pos} : SE cls sub cur X c W (.Constant .none j pos) (fun ρ er Q => Q (.val .non) ρ) := fun T σ ρ F H er Q hp ev sm eo q => sE_of pe_non (PO'.gives sm (.same (d := .non) rfl) q)
theorem se_ixo (g : Good X c W cls G sub) {s : Nat} {x : Str} {y : Expr} {px pos : Pos} {rb : Env → Er → (B → Env → Prop) → Prop} (h : chkV c s x = true) (hy : notSlice y = true) (hb : SE cls sub cur X c W y rb) :
    SE cls sub cur X c W (.Subscript (.Name x px) y pos) (fun ρ er Q => (isSet (getE ρ s) = true) ∧ rb ρ er fun b ρ1 => match getE ρ1 s with
      | some z => ixD z.d b.d fun d => Q (.val d) ρ1
      | none => False) := fun T σ ρ F H er Q hp ev sm eo q => by
  obtain ⟨q0, q⟩ := q
  obtain ⟨b0, e0⟩ : ∃ b0, getE ρ s = some b0 := by
    cases e : getE ρ s with
    | none => rw [e] at q0; cases q0
    | some b => exact ⟨b, rfl⟩
  obtain ⟨v, ev0, _⟩ := sm.slot s _ e0
  refine sE_of (pe_ix ix_s (g.var h) pe_s (plainIx_of hy)) ⟨v, ev0, hb.v hp ev sm eo q fun u H2 b2 ρ2 F2 s2 m2 r2 q2 => ?_⟩
  cases e : getE ρ2 s with
  | none => rw [e] at q2; exact q2.elim
  | some z =>
    rw [e] at q2
    obtain ⟨v', e1, r⟩ := m2.slot s z e
    rw [ev0] at e1; cases e1
    have q2 : ixD z.d b2.d fun d => Q (.val d) ρ2 := q2
    cases z with
    | val d =>
      intro value slice pins st σ' w z I rx ry hs
      refine thn (ixD_ok (X := X) q2 m2.fh r r2 value slice pins st σ' w z I rx ry hs) fun u' s' ⟨v', H', I', rv, e, d, rd, kd⟩ => ?_
      subst e
      exact ⟨v', _, I', rv, PO'.trans s2 (PO'.gives m2 (.same rd) kd)⟩
    | own xs =>
      obtain ⟨a, us, rfl, h1, h2, h3⟩ := r
      generalize b2.d = y2 at r2 q2
      cases y2 with
      | int k =>
        cases r2
        obtain ⟨d, e3, kd⟩ := q2
        obtain ⟨w, e4, rd⟩ := atI_rep h3 e3
        exact sIx_of ix_list ⟨a, us, _, w, rfl, rfl, SqL.of h2, e4, PO'.trans s2 (PO'.gives m2 (.same rd) kd)⟩
      | _ => exact q2.elim
theorem len_post {v : V} {d : D} {K : Int → Prop} {F H : Hp} {Q : VK} (h : lenD d K) (s : Same F H) (r : RepD F d v) (k : ∀ n, K n → Q (.int n) H) : sCall X (.builtin "len") [v] H Q := fun pins st σ us I rv =>
  thn (lenD_ok (X := X) h s r pins st σ us I rv) fun u' s' ⟨v', H', I', rv, e, n, e2, kn⟩ => by
    subst e e2
    exact ⟨_, _, I', rv, k n kn⟩
theorem se_len (g : Good X c W cls G sub) {x : Str} {y : Expr} {px pos : Pos} {ra : Env → Er → (B → Env → Prop) → Prop} (h : bltB c "len" x = true) (hy : notStar y = true) (ha : SE cls sub cur X c W y ra) :
    SE cls sub cur X c W (.Call (.Name x px) [y] [] pos) (fun ρ er Q => ra ρ er fun a ρ1 => lenD a.d fun n => Q (.val (.int n)) ρ1) := fun T σ ρ F H er Q hp ev sm eo q =>
  g.callB h (by decide) PySem.boot_len hy rfl (sA_cons hy (ha.v hp ev sm eo q fun v H1 b1 ρ1 F1 s1 m1 r1 q1 => sA_nil (len_post q1 m1.fh r1 fun n kn => PO'.trans s1 (PO'.gives m1 g_int kn))))
theorem se_leno (g : Good X c W cls G sub) {x : Str} {s : Nat} {y : Str} {px py pos : Pos} (h : bltB c "len" x = true) (hy : chkV c s y = true) :
    SE cls sub cur X c W (.Call (.Name x px) [.Name y py] [] pos) (rdE ⟨G, c.pm, cur, sub⟩ (.leno s)) := fun T σ ρ F H er Q hp ev sm eo q => by
  have q : (match getE ρ s with
    | some b => lenD b.d fun n => Q (.val (.int n)) ρ
    | none => False) := q
  cases e : getE ρ s with
  | none => rw [e] at q; exact q.elim
  | some b =>
    rw [e] at q
    obtain ⟨v, F', e1, s1, s2, r⟩ := sm.look e
    refine g.callB h (by decide) PySem.boot_len rfl rfl (sA_cons rfl (sE_of (g.var hy) ⟨v, e1, sA_nil (len_post q s2 r fun n kn => PO'.gives sm g_int kn)⟩))
theorem st_tro (g : Good X c W cls G sub) {s : Nat} {y : Str} {py : Pos} (hy : chkV c s y = true) : ST cls sub cur X c W (.Name y py) (rdT ⟨G, c.pm, cur, sub⟩ (.tro s)) := fun T σ ρ F H er Q hp ev sm eo q => by
  have q : (match getE ρ s with
    | some b => truOk b.d ∧ Q (truD b.d) ρ
    | none => False) := q
  cases e : getE ρ s with
  | none => rw [e] at q; exact q.elim
  | some b =>
    rw [e] at q
    obtain ⟨v, F', e1, s1, s2, r⟩ := sm.look e
    exact sT_of (pt_truth (g.var hy) (isTrue_plain' rfl)) ⟨v, e1, _, truD_ok s2 r q.1, ρ, F, sameR, sm, q.2⟩
theorem gives_post {T : Fr} {σ : St} {F F1 H1 : Hp} {ρ1 : Env} {Q : B → Env → Prop} {K : B → Prop} {f : Value} {vs : List V} (s1 : Same F F1) (m1 : Sim T ρ1 σ F1 H1) (h : sCall X f vs H1 fun z H' => ∃ y, Gives F1 H1 z H' y ∧ K y) (k : ∀ b, K b → Q b ρ1) : sCall X f vs H1 (PO' T σ F Q) := fun pins st σ' us I rv =>
  thn (h pins st σ' us I rv) fun u' s' ⟨v', H', I', rv, b, g, kb⟩ => ⟨v', H', I', rv, PO'.trans s1 (PO'.gives m1 g (k b kb))⟩
theorem se_bif (g : Good X c W cls G sub) (hc : X.calm = true) {b : Bi} {x : Str} {y : Expr} {px pos : Pos} {ra : Env → Er → (B → Env → Prop) → Prop} (h : bltB c (biName b) x = true) (hy : notStar y = true) (ha : SE cls sub cur X c W y ra) :
    SE cls sub cur X c W (.Call (.Name x px) [y] [] pos) (fun ρ er Q => ra ρ er fun a ρ1 => biD b a.d fun z => Q z ρ1) := fun T σ ρ F H er Q hp ev sm eo q => by
  have go : sA X [y] σ H fun vs H1 => sCall X (biF b) vs H1 (PO' T σ F Q) := sA_cons hy (ha.v hp ev sm eo q fun v H1 b1 ρ1 F1 s1 m1 r1 q1 => sA_nil (gives_post s1 m1 (biD_ok hc q1 m1.fh r1) fun _ k => k))
  have hv := boot_bi b
  have hm := mem_bi b
  cases b <;> first | exact g.callB h hm hv hy rfl go | exact g.callTy h hm hv hy rfl go
theorem se_bjf (g : Good X c W cls G sub) (hc : X.calm = true) {b : Bj} {x : Str} {y z : Expr} {px pos : Pos} {ra rb : Env → Er → (B → Env → Prop) → Prop} (h : bltB c (bjName b) x = true) (hy : notStar y = true) (hz : notStar z = true) (ha : SE cls sub cur X c W y ra) (hb : SE cls sub cur X c W z rb) :
    SE cls sub cur X c W (.Call (.Name x px) [y, z] [] pos) (fun ρ er Q => ra ρ er fun a ρ1 => rb ρ1 er fun e ρ2 => bjD b a.d e.d fun z => Q z ρ2) := fun T σ ρ F H er Q hp ev sm eo q => by
  have go : sA X [y, z] σ H fun vs H1 => sCall X (bjF b) vs H1 (PO' T σ F Q) := sA_cons hy (ha.v hp ev sm eo q fun v H1 b1 ρ1 F1 s1 m1 r1 q1 => sA_cons hz (hb.v hp ev m1 eo q1 fun u H2 b2 ρ2 F2 s2 m2 r2 q2 =>
    sA_nil (gives_post (s1.trans s2) m2 (bjD_ok hc q2 m2.fh (RepD.mono s2 _ _ r1) r2) fun _ k => k)))
  have hv := boot_bj b
  have hm := mem_bj b
  have hes : (starEach [z] X.env).any (·.1) = false := by rw [starEach_ns hz]; rfl
  cases b <;> exact g.callB h hm hv hy hes go
theorem bl_post {T : Fr} {σ : St} {F F1 H1 : Hp} {ρ1 : Env} {Q : B → Env → Prop} {K : Bool → Prop} {f : Value} {vs : List V} (s1 : Same F F1) (m1 : Sim T ρ1 σ F1 H1) (h : sCall X f vs H1 fun z H' => H' = H1 ∧ ∃ b, z = .bl b ∧ K b) (k : ∀ b, K b → Q (.val (.bl b)) ρ1) : sCall X f vs H1 (PO' T σ F Q) := fun pins st σ' us I rv =>
  thn (h pins st σ' us I rv) fun u' s' ⟨v', H', I', rv, e, b, e2, kb⟩ => by
    subst e e2
    exact ⟨_, _, I', rv, PO'.trans s1 (PO'.gives m1 g_bl (k b kb))⟩
theorem sE_ty (g : Good X c W cls G sub) {t : Ty} {e : Expr} (h : chkTy c t e = true) {σ : St} {H : Hp} {Q : VK} (q : Q (.ty (tyName t)) H) : sE X e σ H Q := by
  cases e
  case Name x p => exact g.ty (show bltB c (tyName t) x = true from h) (mem_ty t) (boot_ty t) q
  all_goals exact absurd h Bool.false_ne_true
theorem chkTy_ns {t : Ty} {e : Expr} (h : chkTy c t e = true) : notStar e = true := by
  cases e
  case Name x p => rfl
  all_goals exact absurd h Bool.false_ne_true
theorem sA_tys (g : Good X c W cls G sub) : ∀ {ts : List Ty} {es : List Expr}, chkTys c ts es = true → ∀ {σ : St} {H : Hp} {Q : List V → Hp → Prop}, Q (ts.map fun t => V.ty (tyName t)) H → sA X es σ H Q
  | [], es, h, σ, H, Q, q => by
    cases es with
    | nil => exact sA_nil q
    | cons => exact absurd h Bool.false_ne_true
  | t :: ts, es, h, σ, H, Q, q => by
    cases es with
    | nil => exact absurd h Bool.false_ne_true
    | cons e es =>
      have h : (chkTy c t e && chkTys c ts es) = true := h
      simp only [Bool.and_eq_true] at h
      exact sA_cons (chkTy_ns h.1) (sE_ty g h.1 (sA_tys g h.2 q))
theorem len_tys : ∀ {ts : List Ty} {es : List Expr}, chkTys c ts es = true → es.length = ts.length
  | [], es, h => by
    cases es with
    | nil => rfl
    | cons => exact absurd h Bool.false_ne_true
  | t :: ts, es, h => by
    cases es with
    | nil => exact absurd h Bool.false_ne_true
    | cons e es =>
      have h : (chkTy c t e && chkTys c ts es) = true := h
      simp only [Bool.and_eq_true] at h
      rw [List.length_cons, List.length_cons, len_tys h.2]
theorem se_isi1 (g : Good X c W cls G sub) {t : Ty} {x : Str} {y z : Expr} {px pos : Pos} {ra : Env → Er → (B → Env → Prop) → Prop} (h : bltB c "isinstance" x = true) (hy : notStar y = true) (hz : chkTy c t z = true) (ha : SE cls sub cur X c W y ra) :
    SE cls sub cur X c W (.Call (.Name x px) [y, z] [] pos) (fun ρ er Q => ra ρ er fun a ρ1 => Q (.val (.bl ([t].any fun t => tyIs t a.d))) ρ1) := fun T σ ρ F H er Q hp ev sm eo q =>
  g.callB h (by decide) boot_isi hy (by rw [starEach_ns (chkTy_ns hz)]; rfl) (sA_cons hy (ha.v hp ev sm eo q fun v H1 b1 ρ1 F1 s1 m1 r1 q1 => sA_cons (chkTy_ns hz) (sE_ty g hz (sA_nil
    (bl_post s1 m1 (isi1_ok (t := t) (K := fun k => Q (.val (.bl k)) ρ1) m1.fh r1 (by simpa using q1)) fun _ k => k)))))
theorem le_line {n : Nat} (h : n ≤ 1000) : n ≤ sizeLine := Nat.le_of_lt (small1000 h)
theorem se_isiT (g : Good X c W cls G sub) {ts : List Ty} {x : Str} {y : Expr} {es : List Expr} {px pos pt : Pos} {kt : Nat} {ra : Env → Er → (B → Env → Prop) → Prop} (h : bltB c "isinstance" x = true) (hy : notStar y = true) (hl : es.length ≤ 1000) (hz : chkTys c ts es = true) (ha : SE cls sub cur X c W y ra) :
    SE cls sub cur X c W (.Call (.Name x px) [y, .Tuple es kt pt] [] pos) (fun ρ er Q => ra ρ er fun a ρ1 => Q (.val (.bl (ts.any fun t => tyIs t a.d))) ρ1) := fun T σ ρ F H er Q hp ev sm eo q =>
  g.callB h (by decide) boot_isi hy rfl (sA_cons hy (ha.v hp ev sm eo q fun v H1 b1 ρ1 F1 s1 m1 r1 q1 => sA_cons rfl (sE_of (pe_tup pa_s) (sA_tys g hz ⟨by rw [List.length_map, ← len_tys hz]; exact le_line hl, fun p hp' => sA_nil (by
    have m2 : Sim T ρ1 σ F1 (upd H1 p (.tup (ts.map fun t => V.ty (tyName t)))) := m1.newH hp'
    exact bl_post s1 m2 (isiT_ok (K := fun k => Q (.val (.bl k)) ρ1) m2.fh r1 upd_same q1) fun _ k => k)⟩))))
/-! classes of exceptions -/
theorem sE_X (g : Good X c W cls G sub) {k : Nat} {e : Expr} (h : chkX c k e = true) {σ : St} {H : Hp} {Q : VK} (q : ∀ v, (∀ u, RelV v u → u = clsV cls c.exc.length k) → Q v H) : sE X e σ H Q := by
  cases e
  case Name x p =>
    have h : ((decide (c.exc[k]? = some x) && glB c.sc x) || (decide (k = c.exc.length) && bltB c "ValueError" x)) = true := h
    simp only [Bool.or_eq_true, Bool.and_eq_true, decide_eq_true_eq] at h
    rcases h with ⟨h1, h2⟩ | ⟨h1, h2⟩
    · obtain ⟨n1, n2⟩ := glB_of h2
      have xo := g.st.excs k x h1
      have hk : k ≠ c.exc.length := fun e => by rw [e, List.getElem?_eq_none (Nat.le_refl _)] at h1; cases h1
      refine sE_of (pe_glob (v := .ref (cls k)) (g.gl n1) xo.g rfl (nod_of n2).1) (q _ fun u r => ?_)
      unfold clsV
      rw [if_neg hk]; exact r
    · refine g.ty h2 (by decide) boot_ve (q _ fun u r => ?_)
      unfold clsV
      rw [if_pos h1]; exact r
  all_goals exact absurd h Bool.false_ne_true
theorem chkX_ns {k : Nat} {e : Expr} (h : chkX c k e = true) : notStar e = true := by
  cases e
  case Name x p => rfl
  all_goals exact absurd h Bool.false_ne_true
theorem sA_Xs (g : Good X c W cls G sub) : ∀ {ts : List Nat} {es : List Expr}, chkXs c ts es = true → ∀ {σ : St} {H : Hp} {Q : List V → Hp → Prop}, (∀ vs, vs.length = es.length → (∀ us, Vals vs us → us = ts.map (clsV cls c.exc.length)) → Q vs H) → sA X es σ H Q
  | [], es, h, σ, H, Q, q => by
    cases es with
    | nil => exact sA_nil (q [] rfl fun us r => by cases r; rfl)
    | cons => exact absurd h Bool.false_ne_true
  | t :: ts, es, h, σ, H, Q, q => by
    cases es with
    | nil => exact absurd h Bool.false_ne_true
    | cons e es =>
      have h : (chkX c t e && chkXs c ts es) = true := h
      simp only [Bool.and_eq_true] at h
      refine sA_cons (chkX_ns h.1) (sE_X g h.1 fun v hv => sA_Xs g h.2 fun vs hl hvs => q _ (by rw [List.length_cons, List.length_cons, hl]) fun us r => ?_)
      cases r with
      | cons r1 r2 => rw [List.map_cons, hv _ r1, hvs _ r2]
theorem se_exc1 (g : Good X c W cls G sub) {k s : Nat} {x y : Str} {z : Expr} {px py pos : Pos} (h : bltB c "isinstance" x = true) (hs : c.ev = some s) (hy : chkV c s y = true) (hz : chkX c k z = true) :
    SE cls sub cur X c W (.Call (.Name x px) [.Name y py, z] [] pos) (fun ρ er Q => match cur with
      | some e => (match anySub (sub e) [k] with
        | some b => Q (.val (.bl b)) ρ
        | none => False)
      | none => False) := fun T σ ρ F H er Q hp ev sm eo q => by
  cases cur with
  | none => exact q.elim
  | some e =>
    obtain ⟨a, ea, e1, _⟩ := ev s e hs rfl
    cases eb : sub e k with
    | none =>
      have : anySub (sub e) [k] = none := by simp [anySub, eb]
      simp only [this] at q
    | some b =>
      have : anySub (sub e) [k] = some b := by cases b <;> simp [anySub, eb]
      simp only [this] at q
      exact g.callB h (by decide) boot_isi rfl (by rw [starEach_ns (chkX_ns hz)]; rfl) (sA_cons rfl (sE_of (g.var hy) ⟨_, ea, sA_cons (chkX_ns hz) (sE_X g hz fun v hv => sA_nil (e1 k b v H _ eb hv (PO'.gives sm g_bl q)))⟩))
theorem se_excN (g : Good X c W cls G sub) {ks : List Nat} {s : Nat} {x y : Str} {es : List Expr} {px py pos pt : Pos} {kt : Nat} (h : bltB c "isinstance" x = true) (hs : c.ev = some s) (hy : chkV c s y = true) (hl : es.length ≤ 1000) (hz : chkXs c ks es = true) :
    SE cls sub cur X c W (.Call (.Name x px) [.Name y py, .Tuple es kt pt] [] pos) (fun ρ er Q => match cur with
      | some e => (match anySub (sub e) ks with
        | some b => Q (.val (.bl b)) ρ
        | none => False)
      | none => False) := fun T σ ρ F H er Q hp ev sm eo q => by
  cases cur with
  | none => exact q.elim
  | some e =>
    obtain ⟨a, ea, _, e1⟩ := ev s e hs rfl
    cases eb : anySub (sub e) ks with
    | none => simp only [eb] at q
    | some b =>
      simp only [eb] at q
      exact g.callB h (by decide) boot_isi rfl rfl (sA_cons rfl (sE_of (g.var hy) ⟨_, ea, sA_cons rfl (sE_of (pe_tup pa_s) (sA_Xs g hz fun vs hvl hv => ⟨by rw [hvl]; exact le_line hl, fun p hp' => sA_nil
        (e1 ks b p vs _ _ eb upd_same hv (PO'.gives (sm.newH hp') g_bl q))⟩))⟩))
theorem se_tup {es : List Expr} {kt : Nat} {pos : Pos} {ra : Env → Er → (List Ar → Env → Prop) → Prop} (hl : es.length ≤ 1000) (ha : SA cls sub cur X c W es ra) :
    SE cls sub cur X c W (.Tuple es kt pos) (fun ρ er Q => ra ρ er fun ars ρ1 => match valsA ars with
      | some ds => Q (.val (.tup ds)) ρ1
      | none => False) := fun T σ ρ F H er Q hp ev sm eo q =>
  sE_of (pe_tup pa_s) (sA_mono (ha T σ ρ F H er _ hp ev sm eo q) fun vs H1 ⟨ars, ρ1, F1, s1, m1, r1, l1, q1⟩ => by
    cases e : valsA ars with
    | none => rw [e] at q1; exact q1.elim
    | some ds =>
      rw [e] at q1
      exact ⟨by rw [r1.len, l1]; exact le_line hl, fun p hp' => PO'.trans s1 (PO'.gives m1 (.tup hp' (r1.vals e)) q1)⟩)
theorem se_lst {es : List Expr} {pos : Pos} {ra : Env → Er → (List Ar → Env → Prop) → Prop} (hl : es.length ≤ 1000) (ha : SA cls sub cur X c W es ra) :
    SE cls sub cur X c W (.List es pos) (fun ρ er Q => ra ρ er fun ars ρ1 => match valsA ars with
      | some ds => Q (.own ds) ρ1
      | none => False) := fun T σ ρ F H er Q hp ev sm eo q =>
  sE_of (pe_lst pa_s) (sA_mono (ha T σ ρ F H er _ hp ev sm eo q) fun vs H1 ⟨ars, ρ1, F1, s1, m1, r1, l1, q1⟩ => by
    cases e : valsA ars with
    | none => rw [e] at q1; exact q1.elim
    | some ds =>
      rw [e] at q1
      exact ⟨by rw [r1.len, l1]; exact le_line hl, fun p hp' => PO'.trans s1 (PO'.gives m1 (.lst hp' (r1.vals e)) q1)⟩)
theorem sa_nil : SA cls sub cur X c W [] (fun ρ er Q => Q [] ρ) := fun T σ ρ F H er Q hp ev sm eo q => sA_nil ⟨[], ρ, F, sameR, sm, rfl, rfl, q⟩
theorem sa_cons {x : Expr} {xs : List Expr} {ra : Env → Er → (B → Env → Prop) → Prop} {rr : Env → Er → (List Ar → Env → Prop) → Prop} (hx : notStar x = true) (ha : SE cls sub cur X c W x ra) (hr : SA cls sub cur X c W xs rr) :
    SA cls sub cur X c W (x :: xs) (fun ρ er Q => ra ρ er fun a ρ1 => rr ρ1 er fun ars ρ2 => Q (.v a.d :: ars) ρ2) := fun T σ ρ F H er Q hp ev sm eo q =>
  sA_cons hx (ha.v hp ev sm eo q fun v H1 b1 ρ1 F1 s1 m1 r1 q1 => sA_mono (hr T σ ρ1 F1 H1 er _ hp ev m1 eo q1) fun vs H2 ⟨ars, ρ2, F2, s2, m2, r2, l2, q2⟩ =>
    ⟨.v b1.d :: ars, ρ2, F2, s1.trans s2, m2, ⟨v, vs, rfl, RepD.mono s2 _ _ r1, r2⟩, by rw [List.length_cons, List.length_cons, l2], q2⟩)
theorem isOwn_of {b : Option B} (h : isOwn b = true) : ∃ xs, b = some (.own xs) := by
  cases b with
  | none => cases h
  | some b =>
    cases b with
    | val => cases h
    | own xs => exact ⟨xs, rfl⟩
theorem sa_own (g : Good X c W cls G sub) {s : Nat} {x : Str} {px : Pos} {xs : List Expr} {rr : Env → Er → (List Ar → Env → Prop) → Prop} (hx : chkV c s x = true) (hr : SA cls sub cur X c W xs rr) :
    SA cls sub cur X c W (.Name x px :: xs) (fun ρ er Q => isOwn (getE ρ s) = true ∧ rr ρ er fun ars ρ2 => Q (.o s :: ars) ρ2) := fun T σ ρ F H er Q hp ev sm eo q => by
  obtain ⟨ys, e⟩ := isOwn_of q.1
  obtain ⟨a, us, e1, _⟩ := sm.own e
  exact sA_cons rfl (sE_of (g.var hx) ⟨_, e1, sA_mono (hr T σ ρ F H er _ hp ev sm eo q.2) fun vs H2 ⟨ars, ρ2, F2, s2, m2, r2, l2, q2⟩ =>
    ⟨.o s :: ars, ρ2, F2, s2, m2, ⟨a, vs, rfl, e1, r2⟩, by rw [List.length_cons, List.length_cons, l2], q2⟩⟩)
theorem sa_bor (g : Good X c W cls G sub) {s : Nat} {x : Str} {px : Pos} {xs : List Expr} {rr : Env → Er → (List Ar → Env → Prop) → Prop} (hx : chkV c s x = true) (hr : SA cls sub cur X c W xs rr) :
    SA cls sub cur X c W (.Name x px :: xs) (fun ρ er Q => isOwn (getE ρ s) = true ∧ rr ρ er fun ars ρ2 => Q (.w s :: ars) ρ2) := fun T σ ρ F H er Q hp ev sm eo q => by
  obtain ⟨ys, e⟩ := isOwn_of q.1
  obtain ⟨a, us, e1, _⟩ := sm.own e
  exact sA_cons rfl (sE_of (g.var hx) ⟨_, e1, sA_mono (hr T σ ρ F H er _ hp ev sm eo q.2) fun vs H2 ⟨ars, ρ2, F2, s2, m2, r2, l2, q2⟩ =>
    ⟨.w s :: ars, ρ2, F2, s2, m2, ⟨a, vs, rfl, e1, r2⟩, by rw [List.length_cons, List.length_cons, l2], q2⟩⟩)
/-! slices -/
abbrev xO (X : Cx) (o : Option Expr) : TO := fun σ H Q => ∃ t, PO X o t ∧ t σ H Q
theorem exO {o : Option Expr} : PO X o (xO X o) := ⟨fun pins s σ H Q I ⟨t, h, q⟩ => h.run pins s σ H Q I q⟩
theorem part_ok {e : Expr} {ra : Env → Er → (B → Env → Prop) → Prop} (ha : SE cls sub cur X c W e ra) {T : Fr} {σ : St} {ρ : Env} {F H : Hp} {er : Er} {K : Option Int → Env → Prop} (hp : T.P.map (·.1) = c.pm) (ev : EvOk X c cls sub cur σ) (sm : Sim T ρ σ F H) (eo : ErOk T W cls er)
    (q : ra ρ er fun y ρ2 => partD y.d fun l => K l ρ2) {Q : Option Int → Hp → Prop} (k : ∀ o H' ρ' F', Same F F' → Sim T ρ' σ F' H' → K o ρ' → Q o H') : xO X (some e) σ H Q :=
  ⟨_, po_some pe_s, ha.v hp ev sm eo q fun v H1 b1 ρ1 F1 s1 m1 r1 q1 => by
    generalize b1.d = d at r1 q1
    cases d with
    | int i =>
      cases r1
      exact ⟨i, rfl, k _ H1 ρ1 F1 s1 m1 q1⟩
    | _ => exact q1.elim⟩
theorem slPost {T : Fr} {σ : St} {F F3 H3 : Hp} {ρ3 : Env} {Q : B → Env → Prop} {d : D} {l h : Option Int} {v : V} (s : Same F F3) (m3 : Sim T ρ3 σ F3 H3) (r : RepD F3 d v) (q : slD d l h fun b => Q b ρ3) : sSl X v l h H3 (PO' T σ F Q) := fun pins st σ' w vl vu sl I rx hs pl pu => by
  obtain ⟨Tn, id, e1, e2, k⟩ := slD_ok (X := X) q m3.fh r pins st σ' w vl vu sl I rx hs pl pu
  exact ⟨Tn, id, e1, e2, thn k fun u' s' ⟨v', H', I', rv, b, g, kb⟩ => ⟨v', H', I', rv, PO'.trans s (PO'.gives m3 g kb)⟩⟩
theorem se_slice {x y z : Expr} {p2 pos : Pos} {ra rl rh : Env → Er → (B → Env → Prop) → Prop} (ha : SE cls sub cur X c W x ra) (hl : SE cls sub cur X c W y rl) (hh : SE cls sub cur X c W z rh) :
    SE cls sub cur X c W (.Subscript x (.Slice (some y) (some z) none p2) pos) (fun ρ er Q => ra ρ er fun a ρ1 => rl ρ1 er fun y ρ2 => partD y.d fun l => rh ρ2 er fun z ρ3 => partD z.d fun h => slD a.d l h fun b => Q b ρ3) := fun T σ ρ F H er Q hp ev sm eo q =>
  sE_of (pe_slice sl_s pe_s exO exO) (ha.v hp ev sm eo q fun v H1 b1 ρ1 F1 s1 m1 r1 q1 => part_ok hl hp ev m1 eo q1 fun l H2 ρ2 F2 s2 m2 q2 => part_ok hh hp ev m2 eo q2 fun h H3 ρ3 F3 s3 m3 q3 =>
    slPost ((s1.trans s2).trans s3) m3 (RepD.mono (s2.trans s3) _ _ r1) q3)
theorem se_slFrom {x y : Expr} {p2 pos : Pos} {ra rl : Env → Er → (B → Env → Prop) → Prop} (ha : SE cls sub cur X c W x ra) (hl : SE cls sub cur X c W y rl) :
    SE cls sub cur X c W (.Subscript x (.Slice (some y) none none p2) pos) (fun ρ er Q => ra ρ er fun a ρ1 => rl ρ1 er fun y ρ2 => partD y.d fun l => slD a.d l none fun b => Q b ρ2) := fun T σ ρ F H er Q hp ev sm eo q =>
  sE_of (pe_slice sl_s pe_s exO po_none) (ha.v hp ev sm eo q fun v H1 b1 ρ1 F1 s1 m1 r1 q1 => part_ok hl hp ev m1 eo q1 fun l H2 ρ2 F2 s2 m2 q2 => slPost (s1.trans s2) m2 (RepD.mono s2 _ _ r1) q2)
theorem se_slTo {x z : Expr} {p2 pos : Pos} {ra rh : Env → Er → (B → Env → Prop) → Prop} (ha : SE cls sub cur X c W x ra) (hh : SE cls sub cur X c W z rh) :
    SE cls sub cur X c W (.Subscript x (.Slice none (some z) none p2) pos) (fun ρ er Q => ra ρ er fun a ρ1 => rh ρ1 er fun z ρ2 => partD z.d fun h => slD a.d none h fun b => Q b ρ2) := fun T σ ρ F H er Q hp ev sm eo q =>
  sE_of (pe_slice sl_s pe_s po_none exO) (ha.v hp ev sm eo q fun v H1 b1 ρ1 F1 s1 m1 r1 q1 => part_ok hh hp ev m1 eo q1 fun h H3 ρ3 F3 s3 m3 q3 => slPost (s1.trans s3) m3 (RepD.mono s3 _ _ r1) q3)
/-! pop -/
theorem se_pop (g : Good X c W cls G sub) {s : Nat} {x : Str} {px apos cpos : Pos} (hx : chkV c s x = true) (hl : (apos.endLine == cpos.line) = true) :
    SE cls sub cur X c W (.Call (.Attribute (.Name x px) ("pop" : Str) apos) [] [] cpos) (rdE ⟨G, c.pm, cur, sub⟩ (.pop s)) := fun T σ ρ F H er Q hp ev sm eo q => by
  have q : (match getE ρ s with
    | some (.own xs) => ∃ d, xs[xs.length - 1]? = some d ∧ Q (.val d) (ρ.set s (some (.own xs.dropLast)))
    | _ => False) := q
  cases e : getE ρ s with
  | none => rw [e] at q; exact q.elim
  | some b =>
    rw [e] at q
    cases b with
    | val => exact q.elim
    | own xs =>
      obtain ⟨d, ed, q⟩ := q
      obtain ⟨a, us, e1, o, h1, h2, h3⟩ := sm.own e
      obtain ⟨w, ew, rw'⟩ := h3.get ed
      refine sE_of (pe_bm0 PySem.F.plainAttrs_list PySem.F.slot_list_pop PySem.F.type_list_pop mt_pop (g.var hx) rfl hl) ⟨_, e1, .inl ⟨rfl, us, SqL.of h2⟩, a, us, w, rfl, rfl, h2, by rw [← h3.len]; exact ew, ?_⟩
      exact ⟨.val d, _, F, sameR, sm.write o h3.dropLast, rw', q⟩
/-! list(range(..)) -/
theorem rgV_rep {F : Hp} (j : Int) : RepL F (rngL 0 j.toNat 1) (rgV 0 j) := by
  have e1 : rngL 0 j.toNat 1 = ((List.range j.toNat).map fun (i : Nat) => (0 : Int) + (i : Int) * 1).map D.int := by unfold rngL; rw [List.map_map]; rfl
  have e2 : rgV 0 j = ((List.range j.toNat).map fun (i : Nat) => (0 : Int) + (i : Int) * 1).map V.int := by
    unfold rgV
    rw [List.map_map, Int.sub_zero]
    refine List.map_congr_left fun i _ => ?_
    show V.int (0 + (i : Int)) = V.int ((0 : Int) + (i : Int) * 1)
    rw [Int.mul_one]
  rw [e1, e2]
  exact RepL.of_ints _
theorem se_lrg (g : Good X c W cls G sub) (hc : X.calm = true) {x y : Str} {z : Expr} {px py p pos : Pos} {ra : Env → Er → (B → Env → Prop) → Prop} (h : bltB c "list" x = true) (h' : bltB c "range" y = true) (hz : notStar z = true) (ha : SE cls sub cur X c W z ra) :
    SE cls sub cur X c W (.Call (.Name x px) [.Call (.Name y py) [z] [] p] [] pos) (fun ρ er Q => ra ρ er fun a ρ1 => match a.d with
      | .int j => (-(2 ^ 62) ≤ j ∧ j ≤ 16777216) ∧ Q (.own (rngL 0 j.toNat 1)) ρ1
      | _ => False) := fun T σ ρ F H er Q hp ev sm eo q => by
  obtain ⟨rfl, h2, h3⟩ := bltB_of h
  obtain ⟨rfl, k2, k3⟩ := bltB_of h'
  refine sE_of (pe_listRg hc (g.gl h2) (g.st.blt "list" (by decide)) (prg_1 (g.gl k2) (g.st.blt "range" (by decide)) pe_s (starEach_ns hz)) rfl) (ha.v hp ev sm eo q fun v H1 b1 ρ1 F1 s1 m1 r1 q1 => ?_)
  generalize b1.d = d at r1 q1
  cases d with
  | int j =>
    cases r1
    obtain ⟨⟨q1, q2⟩, q3⟩ := q1
    refine ⟨j, rfl, ⟨by omega, by omega, q1, by omega, by omega⟩, fun p hp' => PO'.trans s1 (PO'.gives m1 (.lst hp' (rgV_rep j)) q3)⟩
  | _ => exact q1.elim
/-! index -/
theorem idx_mt {b y : V} {d e : D} {K : Int → Prop} {F H : Hp} {Q : VK} (h : idxD d e K) (rb : (∃ ds a us, d = .lst ds ∧ b = .ref a ∧ H a = some (.lst us) ∧ RepL F ds us)) (ry : RepD F e y) (k : ∀ n, K n → Q (.int n) H) : rIndex X.K b [y] H Q := by
  obtain ⟨ds, a, us, rfl, rfl, h1, h2⟩ := rb
  cases e with
  | int i =>
    cases ry
    obtain ⟨ns, rfl, j, ej, hno, kj⟩ := h
    cases RepL.ints h2
    refine ⟨a, ns.map V.int, .int i, j, .int i, rfl, rfl, SqL.of h1, rfl, ?_, ?_, ?_, fun m z hm ez => ?_, k _ kj⟩
    · rw [List.all_map]; exact List.all_eq_true.mpr fun _ _ => rfl
    · rw [List.getElem?_map, ej]; rfl
    · show (i == i) = true
      exact beq_self_eq_true i
    · rw [List.getElem?_map] at ez
      cases em : ns[m]? with
      | none => rw [em] at ez; cases ez
      | some w =>
        rw [em] at ez
        have : w ≠ i := hno m w hm em
        cases ez
        show (w == i) = false
        exact beq_eq_false_iff_ne.mpr this
  | _ => exact h.elim
theorem se_idx (g : Good X c W cls G sub) {s : Nat} {x : Str} {v : Expr} {px apos cpos : Pos} {ra : Env → Er → (B → Env → Prop) → Prop} (h1 : chkV c s x = true) (h2 : notStar v = true) (h3 : (apos.endLine == cpos.line) = true) (ha : SE cls sub cur X c W v ra) :
    SE cls sub cur X c W (.Call (.Attribute (.Name x px) ("index" : Str) apos) [v] [] cpos) (fun ρ er Q => isLst (getE ρ s) = true ∧ ra ρ er fun a ρ1 => match getE ρ1 s with
      | some b => idxD b.d a.d fun j => Q (.val (.int j)) ρ1
      | none => False) := fun T σ ρ F H er Q hp ev sm eo ⟨q0, q⟩ => by
  obtain ⟨v0, ev0, a0, us0, rfl, sq⟩ : ∃ v0, σ[s]? = some (some v0) ∧ ∃ a us, v0 = .ref a ∧ H a = some (.lst us) := by
    cases e : getE ρ s with
    | none => rw [e] at q0; cases q0
    | some b =>
      obtain ⟨v0, ev0, rb⟩ := sm.slot s b e
      refine ⟨v0, ev0, ?_⟩
      cases b with
      | own ds => obtain ⟨a, us, rfl, k1, k2, k3⟩ := rb; exact ⟨a, us, rfl, k2⟩
      | val d =>
        rw [e] at q0
        cases d with
        | lst ds => obtain ⟨a, us, rfl, k1, k2⟩ := rb; exact ⟨a, us, rfl, sm.fh _ _ k1⟩
        | _ => cases q0
  have hes : starEach [v] X.env = (false, eval v X.env) :: starEach [] X.env := starEach_ns h2
  refine sE_of (pe_bm PySem.F.plainAttrs_list PySem.F.slot_list_index PySem.F.type_list_index mt_index (g.var h1) (pa_cons pe_s pa_nil hes) rfl (by rw [hes]; rfl) h3 hes rfl) ⟨_, ev0, .inl ⟨rfl, us0, SqL.of sq⟩, ha.v hp ev sm eo q fun w H1 b1 ρ1 F1 s1 m1 r1 q1 => ?_⟩
  cases e1 : getE ρ1 s with
  | none => rw [e1] at q1; exact q1.elim
  | some b =>
      rw [e1] at q1
      have q1 : idxD b.d b1.d fun j => Q (.val (.int j)) ρ1 := q1
      obtain ⟨v', ev', rb⟩ := m1.slot s b e1
      rw [ev0] at ev'; cases ev'
      refine idx_mt (F := F1) q1 ?_ r1 fun n kn => PO'.trans s1 (PO'.gives m1 g_int kn)
      cases b with
      | val d =>
        cases d with
        | lst ds => obtain ⟨a, us, e9, k1, k2⟩ := rb; exact ⟨ds, a, us, rfl, e9, m1.fh _ _ k1, k2⟩
        | _ => exact q1.elim
      | own ds => obtain ⟨a, us, e9, k1, k2, k3⟩ := rb; exact ⟨ds, a, us, rfl, e9, k2, k3⟩
end
end DV
end
section
set_option Elab.async false
set_option maxRecDepth 100000
set_option linter.all false
/-! DV9: calls, comprehensions, what is walked; the soundness of expressions. -/
namespace DV
open PySem PySem.Spec PyProof.Rows L2

section
variable {X : Cx} {CX : CXT} {k : Nat} {f : Addr} {fd : FuncData} {ps : List Str} {sp : Sp} {dvs : List V} {ds : List Value} {E' : St → XK} {x : Str} {p pos : Pos} {es : List Expr}
theorem run_fnD {pins : List (Addr × Obj)} {σ : St} {H : Hp} {s : Shared} {Q : VK} {us : List Value} {vs : List V} (F : FnOk X.prog X.w X.K X.mg X.base CX k f fd ps sp) (hr : Room k X.A) (hb : Binds X.K fd ps ds) (hd : Vals dvs ds) (hx : PassesAt CX X σ (E' σ))
    (I : Inv X pins σ H s) (r : Vals vs us) (h : sp (vs ++ dvs) H Q (E' σ)) : wpAny (model X.prog X.w) X.A (call (.ref f) us) (EP X pins σ Q) X.xe s := by
  have r2 : Vals (vs ++ dvs) (us ++ ds) := r.append hd
  have hl : (us ++ ds).length = ps.length := by rw [← r2.length]; exact F.len _ _ _ _ h
  refine wpAny_call (codeAny_mono (F.run X.A X.stack s H ⟨us, []⟩ (us ++ ds) (vs ++ dvs) Q (E' σ) hr I.env0 (hb s us I.kIn hl) r2 h) fun r s' hq => ?_)
  cases r with
  | error e => exact hx pins H s e s' I hq
  | ok fl =>
    cases fl with
    | ret u => exact I.after hq
    | next => exact False.elim hq
    | brk => exact False.elim hq
    | cont => exact False.elim hq
theorem sE_call0 (F : FnOk X.prog X.w X.K X.mg X.base CX k f fd ps sp) (hr : Room k X.A) (hg : Gl X x) (hm : X.mg x = some (.ref f)) (hk : PySem.W.keepIn X.K (.ref f) = true) (hb : Binds X.K fd ps ds) (hd : Vals dvs ds) (hx : ∀ σ, PassesAt CX X σ (E' σ))
    (hdb : (x == ("__debug__" : Str)) = false) {σ : St} {H : Hp} {Q : VK} (q : sp dvs H Q (E' σ)) : sE X (.Call (.Name x p) [] [] pos) σ H Q := fun pins s I => by
  refine wpAny_Call_Name_kw (ld_glob I hg hm ?_ hdb)
  exact PySem.W.callWith_K0 I.kIn hk (run_fnD (vs := []) (us := []) F hr hb hd (hx σ) I .nil q)
theorem sE_call1 {e : Expr} (F : FnOk X.prog X.w X.K X.mg X.base CX k f fd ps sp) (hr : Room k X.A) (hg : Gl X x) (hm : X.mg x = some (.ref f)) (hk : PySem.W.keepIn X.K (.ref f) = true) (hb : Binds X.K fd ps ds) (hd : Vals dvs ds) (hx : ∀ σ, PassesAt CX X σ (E' σ))
    (hdb : (x == ("__debug__" : Str)) = false) (hn : notStar e = true) (hes : (starEach es X.env).any (·.1) = false) {σ : St} {H : Hp} {Q : VK} (q : sA X (e :: es) σ H fun vs H1 => sp (vs ++ dvs) H1 Q (E' σ)) : sE X (.Call (.Name x p) (e :: es) [] pos) σ H Q := fun pins s I => by
  refine wpAny_Call_Name_kw (ld_glob I hg hm ?_ hdb)
  refine PySem.W.callWith_K (h₀ := X.base) I.ok.mod.kin hk (thn (q pos pins s I) fun us s1 ⟨vs, H1, I1, r, q1⟩ => ⟨I1.kIn, ?_⟩) (starEach_ns hn) (by rw [back_any]; exact hes)
  exact run_fnD F hr hb hd (hx σ) I1 r q1
end
theorem resolve_len {ρ : Env} : ∀ {ars : List Ar} {bs : List B}, resolve ρ ars = some bs → bs.length = ars.length
  | [], bs, h => by cases h; rfl
  | .v d :: r, bs, h => by
    obtain ⟨bs', h1, rfl⟩ := resolve_val h
    rw [List.length_cons, List.length_cons, resolve_len h1]
  | .o i :: r, bs, h => by
    obtain ⟨xs, bs', h0, h1, rfl⟩ := resolve_own h
    rw [List.length_cons, List.length_cons, resolve_len h1]
  | .w i :: r, bs, h => by
    obtain ⟨xs, bs', h0, h1, rfl⟩ := resolve_bor h
    rw [List.length_cons, List.length_cons, resolve_len h1]
theorem argsR_len {F H : Hp} : ∀ {bs : List B} {vs : List V}, ArgsR F H vs bs → vs.length = bs.length
  | [], _, h => by cases h; rfl
  | b :: bs, _, ⟨v, r, e, _, q⟩ => by subst e; rw [List.length_cons, List.length_cons, argsR_len q]
theorem argsR_app {F H : Hp} (dv : List Int) : ∀ {bs : List B} {vs : List V}, ArgsR F H vs bs → ArgsR F H (vs ++ dv.map V.int) (bs ++ dv.map fun i => B.val (.int i))
  | [], _, h => by
    cases h
    show ArgsR F H (dv.map V.int) (dv.map fun i => B.val (.int i))
    induction dv with
    | nil => exact rfl
    | cons i r ih => exact ⟨_, _, rfl, rfl, ih⟩
  | b :: bs, _, ⟨v, r, e, h, q⟩ => by subst e; exact ⟨v, _, rfl, h, argsR_app dv q⟩
theorem ownA_app {F H : Hp} (dv : List Int) : ∀ {bs : List B} {vs : List V}, ArgsR F H vs bs → ownA (vs ++ dv.map V.int) (bs ++ dv.map fun i => B.val (.int i)) = ownA vs bs
  | [], _, h => by
    cases h
    show ownA (dv.map V.int) (dv.map fun i => B.val (.int i)) = []
    induction dv with
    | nil => rfl
    | cons i r ih => exact ih
  | .val d :: bs, _, ⟨v, r, e, h, q⟩ => by
    subst e
    have := ownA_app dv q
    cases v <;> exact this
  | .own xs :: bs, _, ⟨v, r, e, h, q⟩ => by
    subst e
    obtain ⟨a, us, rfl, _⟩ := h
    exact congrArg (a :: ·) (ownA_app dv q)
section
variable {cls : Nat → Addr} {G : Nat → DSp} {sub : Nat → Nat → Option Bool} {cur : Option Nat} {X : Cx} {c : Cc} {W : WX}
/-- what a call of the program's def asks, over data -/
theorem callD_ok {f ar : Nat} {ps : List Str} {dv : List Int} {spF : DSp} {T : Fr} {σ : St} {ρ ρ1 : Env} {F F1 H1 : Hp} {er : Er} {Q : B → Env → Prop} {vs : List V} {ars : List Ar} (eo : ErOk T W cls er) (s1 : Same F F1) (m1 : Sim T ρ1 σ F1 H1) (r1 : ArsR F1 σ vs ars) (l1 : ars.length = ar)
    (hl : ps.length = ar + dv.length) (imp : ∀ bs K0, bs.length = ar → G f bs K0 → spF (bs ++ dv.map fun i => B.val (.int i)) K0) (q : callD (G f) ars ρ1 er Q) :
    spV cls ps.length spF (vs ++ dv.map V.int) H1 (PO' T σ F Q) (WE W σ) := by
  unfold callD at q
  cases e : resolve ρ1 ars with
  | none => rw [e] at q; exact q.elim
  | some bs =>
    rw [e] at q
    obtain ⟨nd, hb, K0, hK, k⟩ := q
    have lb := resolve_len e
    refine ⟨by rw [List.length_append, List.length_map, r1.len, l1, hl], ?_⟩
    cases hbo : borrows ars with
    | false =>
      obtain ⟨a1, a2⟩ := m1.args0 r1 e hbo
      refine ⟨F1, bs ++ dv.map fun i => B.val (.int i), K0, m1.fh, argsR_app dv a1, ?_, imp bs K0 (lb.trans l1) hK, fun o os ho => ?_⟩
      · rw [ownA_app dv a1]
        exact OwnsAt.nodup m1 (nodupB_iff nd) a2
      · rw [ownA_app dv a1]
        intro F' H' x
        have kk := k o os ho
        cases o with
        | err ec =>
          obtain ⟨k1, _, k2⟩ := kk
          have a2' := a2
          rw [k1] at a2'
          have hM : ownA vs bs = [] := a2'
          rw [hM] at x
          have m2 := m1.called (is := []) (os := []) List.nodup_nil (rfl : OwnsAt ρ1 σ [] []) x rfl
          exact eo σ ec ρ1 F' H' m2 k2
        | ok b =>
          cases b with
          | val d =>
            intro hback v rv
            exact ⟨.val d, _, F', s1.trans x.sf, m1.called (nodupB_iff nd) a2 x hback, rv, kk.2⟩
          | own xs =>
            intro hback a us h1 h2 h3 h4
            have m2 := m1.called (nodupB_iff nd) a2 x hback
            refine ⟨.own xs, _, F', s1.trans x.sf, m2, ⟨a, us, rfl, h1, h3, h4, m1.none_entry h2, fun i oi => ?_, m1.none_pin h2⟩, kk.2⟩
            -- an owned list was there before
            have hi : ∃ xs', getE ρ1 i = some (.own xs') := by
              by_cases hm : i ∈ slotsO ars
              · obtain ⟨_, _, _, _, ⟨⟨ys, e1⟩, _⟩, _⟩ := putBack_in (nodupB_iff nd) a2 hback hm
                exact ⟨ys, e1⟩
              · obtain ⟨⟨ys, e1⟩, _⟩ := oi
                rw [putBack_out hm] at e1
                exact ⟨ys, e1⟩
            exact m1.none_own h2 i ⟨hi, oi.2⟩
    | true =>
      have hs := hb hbo
      obtain ⟨Wb, a1, a2⟩ := m1.args1 r1 e hs
      have a1 := a1 Wb fun _ h => h
      refine ⟨lent F1 H1 Wb, bs ++ dv.map fun i => B.val (.int i), K0, lent_in m1.fh Wb, argsR_app dv a1, ?_, imp bs K0 (lb.trans l1) hK, fun o os ho => ?_⟩
      · rw [ownA_app dv a1, a2]; exact List.nodup_nil
      · rw [ownA_app dv a1, a2]
        intro F' H' x
        have kk := k o os ho
        have m2 : Sim T ρ1 σ F1 H' := m1.grown sameR ((lent_same m1.fh Wb).trans (x.sf.trans x.fh)) (fun _ h _ => h) (fun b o' e' => x.keep b o' e' (by simp))
        have pb : putBack ρ1 (slotsO ars) os = ρ1 := by rw [hs]; rfl
        cases o with
        | err ec => exact absurd kk.2.1 (by rw [hbo]; simp)
        | ok b =>
          have fl := kk.1 hbo
          have qq := kk.2
          rw [pb] at qq
          cases b with
          | own xs => cases fl
          | val d =>
            intro _ v rv
            refine ⟨.val d, ρ1, F1, s1, m2, ?_, qq⟩
            cases d with
            | lst => cases fl
            | tup => cases fl
            | _ => exact rv
/-! comprehensions -/
theorem all_ns : ∀ {as : Es} {es : List Expr} {env : PySem.Env}, chkEs c as es = true → (starEach es env).any (·.1) = false
  | .nil, es, env, h => by
    cases es with
    | nil => rfl
    | cons => exact absurd h Bool.false_ne_true
  | .cons e r, es, env, h => by
    cases es with
    | nil => exact absurd h Bool.false_ne_true
    | cons x xs =>
      have h : (notStar x && chkE c e x && chkEs c r xs) = true := h
      simp only [Bool.and_eq_true] at h
      rw [starEach_ns h.1.1, List.any_cons, all_ns (as := r) h.2]; rfl
  | .own s r, es, env, h => by
    cases es with
    | nil => exact absurd h Bool.false_ne_true
    | cons x xs =>
      cases x
      case Name n p =>
        have h : (chkV c s n && chkEs c r xs) = true := h
        simp only [Bool.and_eq_true] at h
        rw [starEach_ns (e := .Name n p) rfl, List.any_cons, all_ns (as := r) h.2]; rfl
      all_goals exact absurd h Bool.false_ne_true
  | .bor s r, es, env, h => by
    cases es with
    | nil => exact absurd h Bool.false_ne_true
    | cons x xs =>
      cases x
      case Name n p =>
        have h : (chkV c s n && chkEs c r xs) = true := h
        simp only [Bool.and_eq_true] at h
        rw [starEach_ns (e := .Name n p) rfl, List.any_cons, all_ns (as := r) h.2]; rfl
      all_goals exact absurd h Bool.false_ne_true
theorem ns_of_chkEs {as : Es} {e : Expr} {es : List Expr} (h : chkEs c as (e :: es) = true) : notStar e = true := by
  cases as with
  | nil => exact absurd h Bool.false_ne_true
  | cons a r =>
    have h : (notStar e && chkE c a e && chkEs c r es) = true := h
    simp only [Bool.and_eq_true] at h
    exact h.1.1
  | own s r =>
    cases e
    case Name n p => rfl
    all_goals exact absurd h Bool.false_ne_true
  | bor s r =>
    cases e
    case Name n p => rfl
    all_goals exact absurd h Bool.false_ne_true
theorem se_call (g : Good X c W cls G sub) {f : Nat} {as : Es} {x : Str} {es : List Expr} {px pos : Pos} (hcm : c.cm = true) (hx : glB c.sc x = true) (hf : ∃ ar lv, c.G[f]? = some (x, ar, lv) ∧ es.length = ar ∧ lv ≤ c.lvl) (hes : chkEs c as es = true)
    (ha : SA cls sub cur X c W es (rdEs ⟨G, c.pm, cur, sub⟩ as)) : SE cls sub cur X c W (.Call (.Name x px) es [] pos) (rdE ⟨G, c.pm, cur, sub⟩ (.call f as)) := fun T σ ρ F H er Q hp ev sm eo q => by
  obtain ⟨ar, lv, hG, har, hlv⟩ := hf
  obtain ⟨a, fd, ps, dv, ds, spF, hm, hF, hk, hb, hd, hl, imp⟩ := g.st.funs f x ar lv hG hlv
  obtain ⟨n1, n2⟩ := glB_of hx
  have hr : Room lv X.A := (g.room hcm).mono hlv
  have hpa : ∀ σ, PassesAt (L2.CX X.prog X.w) X σ (WE W σ) := fun σ => passAt g.tk σ
  have q : rdEs ⟨G, c.pm, cur, sub⟩ as ρ er fun ars ρ1 => callD (G f) ars ρ1 er Q := q
  cases es with
  | nil =>
    have e0 : as = .nil := by
      cases as with
      | nil => rfl
      | _ => exact absurd hes Bool.false_ne_true
    subst e0
    refine sE_call0 hF hr (g.gl n1) hm hk hb hd hpa (nod_of n2).1 ?_
    exact callD_ok (ρ := ρ) (f := f) (vs := []) (ars := []) eo sameR sm (show ArsR F σ [] [] from rfl) har hl imp q
  | cons e es =>
    refine sE_call1 hF hr (g.gl n1) hm hk hb hd hpa (nod_of n2).1 (ns_of_chkEs hes) ?_ (sA_mono (ha T σ ρ F H er _ hp ev sm eo q) fun vs H1 ⟨ars, ρ1, F1, s1, m1, r1, l1, q1⟩ => ?_)
    · have := all_ns (env := X.env) hes
      rw [starEach_ns (ns_of_chkEs hes)] at this
      simpa using this
    · exact callD_ok (ρ := ρ) (f := f) eo s1 m1 r1 (l1.trans har) hl imp q1
end
end DV
end
section
set_option Elab.async false
set_option maxRecDepth 100000
set_option linter.all false
/-! DV10: comprehensions, what is walked; the soundness of expressions. -/
namespace DV
open PySem PySem.Spec PyProof.Rows L2

section
variable {cls : Nat → Addr} {G : Nat → DSp} {sub : Nat → Nat → Option Bool} {cur : Option Nat} {X : Cx} {c : Cc} {W : WX}
/-! what is walked -/
theorem si_seq {tg x : Expr} {ra : Env → Er → (B → Env → Prop) → Prop} (ha : SE cls sub cur X c W x ra) : SI cls sub cur X c W tg x (fun ρ er Q => ra ρ er fun a ρ1 => seqD a.d fun ds => Q ds ρ1) := fun T σ ρ F H er Q R hp ev sm eo q k pins s I => by
  -- by the value's kind
  have hx : sE X x σ H (fun v H1 => (∃ a us ds ρ1 F1, v = .ref a ∧ Same F F1 ∧ Sim T ρ1 σ F1 H1 ∧ F1 a = some (.lst us) ∧ RepL F1 ds us ∧ Q ds ρ1) ∨ (∃ a us ds ρ1 F1, v = .ref a ∧ Same F F1 ∧ Sim T ρ1 σ F1 H1 ∧ F1 a = some (.tup us) ∧ RepL F1 ds us ∧ Q ds ρ1)) :=
    ha.v hp ev sm eo q fun v H1 b1 ρ1 F1 s1 m1 r1 q1 => by
      generalize b1.d = d at r1 q1
      cases d with
      | lst ds => obtain ⟨a, us, rfl, h1, h2⟩ := r1; exact .inl ⟨a, us, ds, ρ1, F1, rfl, s1, m1, h1, h2, q1⟩
      | tup ds => obtain ⟨a, us, rfl, h1, h2⟩ := r1; exact .inr ⟨a, us, ds, ρ1, F1, rfl, s1, m1, h1, h2, q1⟩
      | _ => exact q1.elim
  refine thn (hx pins s I) fun u s1 ⟨v, H1, I1, rv, hv⟩ => ?_
  rcases hv with ⟨a, us, ds, ρ1, F1, rfl, s1', m1, h1, h2, q1⟩ | ⟨a, us, ds, ρ1, F1, rfl, s1', m1, h1, h2, q1⟩
  · obtain rfl : u = Value.ref a := rv
    obtain ⟨its, r2, p, hz⟩ := I1.list (SqL.of (m1.fh _ _ h1))
    refine wpAny_pyIter_list p.isList (pi_one (tk := s1.toks) I1 _ (turn_list a _) ⟨_, Heap.get?_push_size _ rfl, rfl, rfl⟩ (k (Itl X.K a) H1 ds ρ1 F1 s1' m1 (walks_lst h1 h2) q1))
  · obtain rfl : u = Value.ref a := rv
    obtain ⟨its, r2, p, hz⟩ := I1.tuple (SqT.of (m1.fh _ _ h1))
    refine wpAny_pyIter_tuple (show s1.heap.IsTuple a its.toArray from p) (pi_one (tk := s1.toks) I1 _ (turn_tuple a _) ⟨_, Heap.get?_push_size _ rfl, rfl, rfl⟩ (k (Itt X.K a) H1 ds ρ1 F1 s1' m1 (walks_tup h1 h2) q1))
theorem si_rng1 (g : Good X c W cls G sub) {tg y : Expr} {x : Str} {px pos : Pos} {ra : Env → Er → (B → Env → Prop) → Prop} (hx : bltB c "range" x = true) (hy : notStar y = true) (ha : SE cls sub cur X c W y ra) :
    SI cls sub cur X c W tg (.Call (.Name x px) [y] [] pos) (fun ρ er Q => ra ρ er fun a ρ1 => match a.d with
      | .int j => rngOk j ∧ Q (rngL 0 j.toNat 1) ρ1
      | _ => False) := fun T σ ρ F H er Q R hp ev sm eo q k => by
  obtain ⟨rfl, h2, h3⟩ := bltB_of hx
  refine sI_of (pi_range1 (g.gl h2) (g.st.blt "range" (by decide)) pa_s (by rw [starEach_ns hy]; rfl)) (sA_cons hy (ha.v hp ev sm eo q fun v H1 b1 ρ1 F1 s1 m1 r1 q1 => sA_nil ?_))
  generalize b1.d = d at r1 q1
  cases d with
  | int j =>
    cases r1
    exact ⟨j, rfl, q1.1.1, q1.1.2, k _ H1 _ ρ1 F1 s1 m1 walks_rng q1.2⟩
  | _ => exact q1.elim
theorem si_rng2 (g : Good X c W cls G sub) {tg y z : Expr} {x : Str} {px pos : Pos} {ra rb : Env → Er → (B → Env → Prop) → Prop} (hx : bltB c "range" x = true) (hy : notStar y = true) (hz : notStar z = true) (ha : SE cls sub cur X c W y ra) (hb : SE cls sub cur X c W z rb) :
    SI cls sub cur X c W tg (.Call (.Name x px) [y, z] [] pos) (fun ρ er Q => ra ρ er fun a ρ1 => rb ρ1 er fun b ρ2 => match a.d, b.d with
      | .int i, .int j => rngOk i ∧ rngOk j ∧ Q (rngL i (j - i).toNat 1) ρ2
      | _, _ => False) := fun T σ ρ F H er Q R hp ev sm eo q k => by
  obtain ⟨rfl, h2, h3⟩ := bltB_of hx
  refine sI_of (pi_range2 (g.gl h2) (g.st.blt "range" (by decide)) pa_s (by rw [starEach_ns hy, starEach_ns hz]; rfl) (by rw [starEach_ns hz]; rfl)) (sA_cons hy (ha.v hp ev sm eo q fun v H1 b1 ρ1 F1 s1 m1 r1 q1 => sA_cons hz (hb.v hp ev m1 eo q1 fun u H2 b2 ρ2 F2 s2 m2 r2 q2 => sA_nil ?_)))
  have r1 := RepD.mono s2 _ _ r1
  generalize b1.d = d at r1 q2
  generalize b2.d = e at r2 q2
  cases d with
  | int i =>
    cases e with
    | int j =>
      cases r1; cases r2
      exact ⟨i, j, rfl, ⟨q2.1.1, q2.1.2, q2.2.1.1, q2.2.1.2⟩, k _ H2 _ ρ2 F2 (s1.trans s2) m2 walks_rng q2.2.2⟩
    | _ => exact q2.elim
  | _ => exact q2.elim
theorem si_rng3 (g : Good X c W cls G sub) {tg y z u : Expr} {x : Str} {px pos : Pos} {ra rb rc : Env → Er → (B → Env → Prop) → Prop} (hx : bltB c "range" x = true) (hy : notStar y = true) (hz : notStar z = true) (hu : notStar u = true) (ha : SE cls sub cur X c W y ra) (hb : SE cls sub cur X c W z rb) (hc : SE cls sub cur X c W u rc) :
    SI cls sub cur X c W tg (.Call (.Name x px) [y, z, u] [] pos) (fun ρ er Q => ra ρ er fun a ρ1 => rb ρ1 er fun b ρ2 => rc ρ2 er fun e ρ3 => match a.d, b.d, e.d with
      | .int i, .int j, .int k => k = -1 ∧ rngOk i ∧ rngOk j ∧ Q (rngL i (i - j).toNat (-1)) ρ3
      | _, _, _ => False) := fun T σ ρ F H er Q R hp ev sm eo q k => by
  obtain ⟨rfl, h2, h3⟩ := bltB_of hx
  refine sI_of (pi_range3 (g.gl h2) (g.st.blt "range" (by decide)) pa_s (starEach_ns hy) (by rw [back_any, starEach_ns hz, starEach_ns hu]; rfl)) (sA_cons hy (ha.v hp ev sm eo q fun v H1 b1 ρ1 F1 s1 m1 r1 q1 => sA_cons hz (hb.v hp ev m1 eo q1 fun w H2 b2 ρ2 F2 s2 m2 r2 q2 => sA_cons hu (hc.v hp ev m2 eo q2 fun w' H3 b3 ρ3 F3 s3 m3 r3 q3 => sA_nil ?_))))
  have r1 := RepD.mono (s2.trans s3) _ _ r1
  have r2 := RepD.mono s3 _ _ r2
  generalize b1.d = d at r1 q3
  generalize b2.d = e at r2 q3
  generalize b3.d = f at r3 q3
  cases d with
  | int i =>
    cases e with
    | int j =>
      cases f with
      | int n =>
        cases r1; cases r2; cases r3
        obtain ⟨rfl, hi, hj, q3⟩ := q3
        exact ⟨i, j, -1, _, rfl, RgC.neg hi.1 hi.2 hj.1 hj.2, k _ H3 _ ρ3 F3 ((s1.trans s2).trans s3) m3 walks_rngC q3⟩
      | _ => exact q3.elim
    | _ => exact q3.elim
  | _ => exact q3.elim
theorem si_zip (g : Good X c W cls G sub) {tg y z : Expr} {x : Str} {px pos : Pos} {ra rb : Env → Er → (B → Env → Prop) → Prop} (ht : isTupE tg = true) (hx : bltB c "zip" x = true) (hy : notStar y = true) (hz : notStar z = true) (ha : SE cls sub cur X c W y ra) (hb : SE cls sub cur X c W z rb) :
    SI cls sub cur X c W tg (.Call (.Name x px) [y, z] [] pos) (fun ρ er Q => ra ρ er fun a ρ1 => rb ρ1 er fun b ρ2 => zipD a.d b.d fun l => Q l ρ2) := fun T σ ρ F H er Q R hp ev sm eo q k => by
  obtain ⟨rfl, h2, h3⟩ := bltB_of hx
  cases tg
  case Tuple elts kk tp =>
    refine sI_of (RZ.pi_zipA (g.gl h2) (g.st.blt "zip" (by decide)) pa_s (starEach_ns hy) (by rw [back_any, starEach_ns hz]; rfl)) (sA_cons hy (ha.v hp ev sm eo q fun v H1 b1 ρ1 F1 s1 m1 r1 q1 => sA_cons hz (hb.v hp ev m1 eo q1 fun u H2 b2 ρ2 F2 s2 m2 r2 q2 => sA_nil ?_)))
    have r1 := RepD.mono s2 _ _ r1
    generalize b1.d = d at r1 q2
    generalize b2.d = e at r2 q2
    cases d with
    | lst xs =>
      cases e with
      | lst ys =>
        obtain ⟨a, us, rfl, k1, k2⟩ := r1
        obtain ⟨b, ws, rfl, k3, k4⟩ := r2
        exact ⟨a, b, us, ws, rfl, .inl ⟨SqL.of (m2.fh _ _ k1), SqL.of (m2.fh _ _ k3), k _ H2 _ ρ2 F2 (s1.trans s2) m2 (walks_zipL k1 k2 k3 k4) q2⟩⟩
      | _ => exact q2.elim
    | tup xs =>
      cases e with
      | tup ys =>
        obtain ⟨a, us, rfl, k1, k2⟩ := r1
        obtain ⟨b, ws, rfl, k3, k4⟩ := r2
        exact ⟨a, b, us, ws, rfl, .inr ⟨SqT.of (m2.fh _ _ k1), SqT.of (m2.fh _ _ k3), k _ H2 _ ρ2 F2 (s1.trans s2) m2 (walks_zipT k1 k2 k3 k4) q2⟩⟩
      | _ => exact q2.elim
    | _ => exact q2.elim
  all_goals exact absurd ht Bool.false_ne_true
theorem si_enum (g : Good X c W cls G sub) {tg y : Expr} {x : Str} {px pos : Pos} {ra : Env → Er → (B → Env → Prop) → Prop} (ht : isTupE tg = true) (hx : bltB c "enumerate" x = true) (hy : notStar y = true) (ha : SE cls sub cur X c W y ra) :
    SI cls sub cur X c W tg (.Call (.Name x px) [y] [] pos) (fun ρ er Q => ra ρ er fun a ρ1 => enumD a.d fun l => Q l ρ1) := fun T σ ρ F H er Q R hp ev sm eo q k => by
  obtain ⟨rfl, h2, h3⟩ := bltB_of hx
  cases tg
  case Tuple elts kk tp =>
    refine sI_of (pi_enumA (g.gl h2) (g.st.blt "enumerate" (by decide)) pa_s (by rw [starEach_ns hy]; rfl)) (sA_cons hy (ha.v hp ev sm eo q fun v H1 b1 ρ1 F1 s1 m1 r1 q1 => sA_nil ?_))
    generalize b1.d = d at r1 q1
    cases d with
    | lst xs =>
      obtain ⟨a, us, rfl, k1, k2⟩ := r1
      exact ⟨a, us, rfl, .inl ⟨SqL.of (m1.fh _ _ k1), k _ H1 _ ρ1 F1 s1 m1 (walks_enum k1 k2) q1⟩⟩
    | tup xs =>
      obtain ⟨a, us, rfl, k1, k2⟩ := r1
      exact ⟨a, us, rfl, .inr ⟨SqT.of (m1.fh _ _ k1), k _ H1 _ ρ1 F1 s1 m1 (walks_enumT k1 k2) q1⟩⟩
    | _ => exact q1.elim
  all_goals exact absurd ht Bool.false_ne_true
/-! comprehensions -/
theorem good_blk (g : Good X c W cls G sub) (hcm : c.cm = true) {scope : Scope} (hk : scope.kind = .function) (s : Shared) (H : Hp) (C : Addr) (cl : List (Str × Addr)) (fp : List Addr) :
    Good (X.blk s H scope (compEnvC scope cl C X.env) fp) { c with sc := relS scope c.sc, fn := fun x => scope.names.lookup x == some .cell } (fun _ _ _ _ => False) cls G sub where
  st := ⟨g.st.funs, g.st.excs, g.st.exm, g.st.kit, g.st.cons, g.st.blt⟩
  hN := g.hN
  nd := g.nd
  sc := by
    show relS scope X.env.scope = relS scope c.sc
    rw [g.sc]
  kd := hk
  fn := fun _ => rfl
  room := g.room
  hu := g.hu
  calm := g.calm
  ev := g.ev
  tk := takes0
  own := PassesOwn.never
theorem noErOk {T : Fr} {W : WX} : ErOk T W cls noEr := fun _ _ _ _ _ _ h => h.elim
theorem evNone {X : Cx} {c : Cc} {σ : St} (h : c.ev = none) : EvOk X c cls sub cur σ := fun s k e _ => by rw [h] at e; cases e
theorem se_lc (g : Good X c W cls G sub) (hcm : c.cm = true) {elt tg iter : Expr} {ifs : List Expr} {scope : Scope} {vs : List Nat} {p : Pat} {ri : Env → Er → (List D → Env → Prop) → Prop} {rt : Env → Er → (Bool → Env → Prop) → Prop} {re : Env → Er → (B → Env → Prop) → Prop}
    (hb : blkC c.N c.sc scope (vs.map fun v => (c.N.getD v "", v)) = true) (hs : notSet iter = true) (hi : SI cls sub cur X c W tg iter ri) (hpat : chkP { c with sc := relS scope c.sc, fn := fun x => scope.names.lookup x == some .cell } (some vs) p tg = true)
    (ht : ∀ (s : Shared) (H : Hp) (C : Addr) (cl : List (Str × Addr)) (fp : List Addr), (∃ t, ifs = [t] ∧ ST cls sub cur (X.blk s H scope (compEnvC scope cl C X.env) fp) { c with sc := relS scope c.sc, fn := fun x => scope.names.lookup x == some .cell } (fun _ _ _ _ => False) t rt) ∨ (ifs = [] ∧ ∀ ρ er Q, rt ρ er Q → Q true ρ))
    (he : ∀ (s : Shared) (H : Hp) (C : Addr) (cl : List (Str × Addr)) (fp : List Addr), SE cls sub cur (X.blk s H scope (compEnvC scope cl C X.env) fp) { c with sc := relS scope c.sc, fn := fun x => scope.names.lookup x == some .cell } (fun _ _ _ _ => False) elt re) (hpm : ∀ v ∈ vs, v ∉ c.pm) :
    ∀ (T : Fr) (σ : St) (ρ : Env) (F H : Hp) (er : Er) (Q : B → Env → Prop), T.P.map (·.1) = c.pm → EvOk X c cls sub cur σ → Sim T ρ σ F H → ErOk T W cls er →
      (ri ρ er fun items ρ1 => items.length ≤ LINE ∧ vs.all (fun v => notOwn (getE ρ1 v)) = true ∧
        lcLoop (fun x ρ K => rdP ⟨G, c.pm, cur, sub⟩ p x (wipeE ρ vs) fun ρ2 => rt ρ2 noEr fun k ρ3 => br k (re ρ3 noEr fun d ρ4 => K (some d.d) (unwipe ρ4 ρ vs)) (K none (unwipe ρ3 ρ vs))) items [] ρ1 fun acc ρ2 => Q (.own acc) ρ2) →
      ∃ (wi : TI) (gt : TG) (tt : TT) (te : TE), PI X tg iter wi ∧ BlkOk X.N X.env.scope scope (vs.map fun v => (c.N.getD v "", v)) ∧
        (∀ (s : Shared) (H : Hp) (C : Addr) (cl : List (Str × Addr)) (fp : List Addr), PG (X.blk s H scope (compEnvC scope cl C X.env) fp) tg gt) ∧ (∀ (s : Shared) (H : Hp) (C : Addr) (cl : List (Str × Addr)) (fp : List Addr), PTs (X.blk s H scope (compEnvC scope cl C X.env) fp) ifs tt) ∧
        (∀ (s : Shared) (H : Hp) (C : Addr) (cl : List (Str × Addr)) (fp : List Addr), PE (X.blk s H scope (compEnvC scope cl C X.env) fp) elt te) ∧ (∀ x, foldedSetIterable iter X.env x = pure x) ∧
        ∀ Q' : VK, (∀ v H', PO' T σ F Q v H' → Q' v H') → tLc wi gt tt te ((vs.map fun v => (c.N.getD v "", v)).map (·.2)) σ H Q' := fun T σ ρ F H er Q hp ev sm eo q => by
  have hvs : ((vs.map fun v => (c.N.getD v "", v)).map (·.2)) = vs := by rw [List.map_map]; exact List.map_id _
  have okB := blkOk_by hb
  have hkd : scope.kind = .function := okB.kind
  have okB' : BlkOk X.N X.env.scope scope (vs.map fun v => (c.N.getD v "", v)) := by rw [g.hN, g.sc]; exact okB
  have hfold : ∀ x, foldedSetIterable iter X.env x = pure x := by
    intro x
    cases iter <;> first | rfl | (unfold notSet at hs; cases hs)
  have nv : ∀ q ∈ T.P, q.1 ∉ vs := fun q hq hv => hpm _ hv (by rw [← hp]; exact List.mem_map.mpr ⟨q, hq, rfl⟩)
  refine ⟨sI X tg iter, fun v σ H Q => ∀ s' H' C cl fp, sG (X.blk s' H' scope (compEnvC scope cl C X.env) fp) tg v σ H Q,
    fun σ H Q => ∀ s' H' C cl fp, (∃ t, ifs = [t] ∧ sT (X.blk s' H' scope (compEnvC scope cl C X.env) fp) t σ H Q) ∨ (ifs = [] ∧ Q true H),
    fun σ H Q => ∀ s' H' C cl fp, sE (X.blk s' H' scope (compEnvC scope cl C X.env) fp) elt σ H Q, pi_s, okB',
    fun s' H' C cl fp => ⟨fun pins s σ H v u Q I r h => h s' H' C cl fp pins s u I r⟩,
    fun s' H' C cl fp => ⟨fun pins s σ H Q I h => ?_⟩,
    fun s' H' C cl fp => ⟨fun pins s σ H Q I h => h s' H' C cl fp pins s I⟩, hfold, ?_⟩
  · rcases h s' H' C cl fp with ⟨t, e, h1⟩ | ⟨e, h1⟩
    · subst e
      exact (pts_one (pt_s (e := t))).run pins s σ H Q I h1
    · subst e
      exact (pts_nil).run pins s σ H Q I h1
  intro Q' hQ'
  rw [hvs]
  refine hi T σ ρ F H er _ _ hp ev sm eo q fun J H1 items ρ1 F1 s1 m1 wk ⟨hlen, hno, hloop⟩ => ?_
  intro Dn hDn
  let f : D → Env → (Option D → Env → Prop) → Prop := fun x ρ K => rdP ⟨G, c.pm, cur, sub⟩ p x (wipeE ρ vs) fun ρ2 => rt ρ2 noEr fun k ρ3 => br k (re ρ3 noEr fun d ρ4 => K (some d.d) (unwipe ρ4 ρ vs)) (K none (unwipe ρ3 ρ vs))
  have h0D : T.H0 Dn = none := m1.none_entry hDn
  have hxD := m1.none_pin hDn
  -- the invariant
  refine ⟨fun i m H => ∃ ρ F acc us, Sim { T with X := (Dn, .lst us) :: T.X } ρ σ F H ∧ Same F1 F ∧ RepL F acc us ∧ acc.length ≤ i ∧ i ≤ items.length ∧ m = items.length - i ∧ vs.all (fun v => notOwn (getE ρ v)) = true ∧ lcLoop f (items.drop i) acc ρ fun acc ρ2 => Q (.own acc) ρ2,
    ⟨items.length, ρ1, F1, [], [], (m1.newH hDn).pin upd_same (m1.fh.free hDn) (m1.none_own hDn), sameR, rfl, Nat.le_refl _, Nat.zero_le _, by simp, hno, hloop⟩, ?_⟩
  rintro i m H2 ⟨ρ2, F2, acc, us, m2, s2, racc, hacc, hi', rfl, hno2, hl2⟩
  obtain ⟨w1, w2⟩ := wk i F2 H2 s2 m2.fh
  by_cases hlt : i < items.length
  · obtain ⟨hgo, hyl⟩ := w1 hlt
    refine .inr ⟨hgo, fun H' => ∃ ρ F acc us, Sim { T with X := (Dn, .lst us) :: T.X } ρ σ F H' ∧ Same F1 F ∧ RepL F acc us ∧ acc.length ≤ i + 1 ∧ vs.all (fun v => notOwn (getE ρ v)) = true ∧ lcLoop f (items.drop (i + 1)) acc ρ fun acc ρ2 => Q (.own acc) ρ2,
      fun H' ⟨ρ', F', acc', us', a1, a2, a3, a4, a5, a6⟩ => ⟨items.length - (i + 1), by omega, ρ', F', acc', us', a1, a2, a3, a4, hlt, rfl, a5, a6⟩, fun x H3 hy => ?_⟩
    obtain ⟨d, ed, gv⟩ := hyl x H3 hy
    obtain ⟨F3, s3, m3, r3⟩ := gv.post m2
    have r3 : RepD F3 d x := r3
    have hdrop : items.drop i = d :: items.drop (i + 1) := by
      rw [List.drop_eq_getElem_cons hlt]
      rw [List.getElem?_eq_getElem hlt] at ed
      cases ed; rfl
    rw [hdrop] at hl2
    have hl2 : f d ρ2 fun r ρ1 => (match r with
      | some d => lcLoop f (items.drop (i + 1)) (acc ++ [d]) ρ1 fun acc ρ2 => Q (.own acc) ρ2
      | none => lcLoop f (items.drop (i + 1)) acc ρ1 fun acc ρ2 => Q (.own acc) ρ2) := hl2
    have m3w := m3.wiped hno2
    have unw : ∀ {ρ4 : Env} {σ4 : St} {F4 H4 : Hp}, Sim { T with X := (Dn, .lst us) :: T.X } ρ4 σ4 F4 H4 → Only vs (wipe σ vs) σ4 → Same F3 F4 → Sim { T with X := (Dn, .lst us) :: T.X } (unwipe ρ4 ρ2 vs) σ F4 H4 := fun {ρ4 σ4 F4 H4} m4 o4 s4 =>
      m3.unwiped hno2 m4 (Only.wiped.trans o4) s4 nv
    have nunw : ∀ {ρ4 : Env}, ρ4.length = ρ2.length → vs.all (fun v => notOwn (getE (unwipe ρ4 ρ2 vs) v)) = true := fun {ρ4} hl => by
      refine List.all_eq_true.mpr fun v hv => ?_
      rw [unwipe_get hl, if_pos hv]
      exact List.all_eq_true.mp hno2 v hv
    have evb : ∀ {X' : Cx} {σ'}, EvOk X' { c with sc := relS scope c.sc, fn := fun x => scope.names.lookup x == some .cell } cls sub cur σ' := fun {X' σ'} => evNone (g.ev hcm)
    intro s' H' C cl fp
    refine sG_mono (snd_P (good_blk g hcm hkd s' H' C cl fp) (some vs) p tg hpat { T with X := (Dn, .lst us) :: T.X } (wipe σ vs) (wipeE ρ2 vs) F3 H3 d x _ hp m3w r3 hl2) fun σ4 H4 ⟨ρ4, m4, q4, o4⟩ => ?_
    have o4 := o4 vs rfl
    refine ⟨by rw [o4.wipe, (Only.wiped (vs := vs) (σ := σ)).wipe], fun s' H' C cl fp => ?_⟩
    -- the test
    have body : ∀ (k : Bool) (H5 : Hp) (ρ5 : Env) (F5 : Hp), Same F3 F5 → Sim { T with X := (Dn, .lst us) :: T.X } ρ5 σ4 F5 H5 → (br k (re ρ5 noEr fun d ρ4 => (match some d.d with
        | some d => lcLoop f (items.drop (i + 1)) (acc ++ [d]) (unwipe ρ4 ρ2 vs) fun acc ρ2 => Q (.own acc) ρ2
        | none => lcLoop f (items.drop (i + 1)) acc (unwipe ρ4 ρ2 vs) fun acc ρ2 => Q (.own acc) ρ2)) (lcLoop f (items.drop (i + 1)) acc (unwipe ρ5 ρ2 vs) fun acc ρ2 => Q (.own acc) ρ2)) →
        if k = true then (∀ s' H' C cl fp, sE (X.blk s' H' scope (compEnvC scope cl C X.env) fp) elt σ4 H5 fun y H4 => ∃ acc, H4 Dn = some (.lst acc) ∧ acc.length < sizeLine ∧ ∃ ρ F acc' us, Sim { T with X := (Dn, .lst us) :: T.X } ρ σ F (upd H4 Dn (.lst (acc ++ [y]))) ∧ Same F1 F ∧ RepL F acc' us ∧ acc'.length ≤ i + 1 ∧ vs.all (fun v => notOwn (getE ρ v)) = true ∧ lcLoop f (items.drop (i + 1)) acc' ρ fun acc ρ2 => Q (.own acc) ρ2)
        else ∃ ρ F acc us, Sim { T with X := (Dn, .lst us) :: T.X } ρ σ F H5 ∧ Same F1 F ∧ RepL F acc us ∧ acc.length ≤ i + 1 ∧ vs.all (fun v => notOwn (getE ρ v)) = true ∧ lcLoop f (items.drop (i + 1)) acc ρ fun acc ρ2 => Q (.own acc) ρ2 := by
      intro k H5 ρ5 F5 s5 m5 q5
      have hl5 : ρ5.length = ρ2.length := by
        have h1 := m5.len
        have h2 := m3.len
        have h3 := o4.1
        rw [wipe_length] at h3
        omega
      cases k with
      | false =>
        rw [if_neg Bool.false_ne_true]
        exact ⟨_, F5, acc, us, unw m5 o4 s5, s2.trans (s3.trans s5), RepL.mono (s3.trans s5) _ _ racc, Nat.le_succ_of_le hacc, nunw hl5, q5⟩
      | true =>
        rw [if_pos rfl]
        intro s' H' C cl fp
        refine (he s' H' C cl fp).v (T := { T with X := (Dn, .lst us) :: T.X }) hp evb m5 noErOk q5 fun y H6 b6 ρ6 F6 s6 m6 r6 q6 => ?_
        have hl6 : ρ6.length = ρ2.length := by
          have h1 := m6.len
          have h2 := m3.len
          have h3 := o4.1
          rw [wipe_length] at h3
          omega
        obtain ⟨k1, k2, k3⟩ := m6.pins (Dn, .lst us) List.mem_cons_self
        have su := s3.trans (s5.trans s6)
        have racc6 := RepL.mono su _ _ racc
        have m7 := (unw m6 o4 (s5.trans s6)).repin (o' := .lst (us ++ [y])) h0D hxD
        refine ⟨us, k1, ?_, unwipe ρ6 ρ2 vs, F6, acc ++ [b6.d], us ++ [y], m7, s2.trans su, racc6.append (RepL.one r6), ?_, nunw hl6, q6⟩
        · rw [← racc.len]
          have : (LINE : Nat) = sizeLine := lineEq
          omega
        · rw [List.length_append, List.length_singleton]; omega
    rcases ht s' H' C cl fp with ⟨t, et, htt⟩ | ⟨et, htt⟩
    · refine .inl ⟨t, et, sT_mono (htt { T with X := (Dn, .lst us) :: T.X } σ4 ρ4 F3 H4 noEr _ hp evb m4 noErOk q4) fun k H5 ⟨ρ5, F5, s5, m5, q5⟩ => ?_⟩
      exact body k H5 ρ5 F5 s5 m5 q5
    · exact .inr ⟨et, body true H4 ρ4 F3 sameR m4 (htt _ _ _ q4)⟩
  · have hi2 : i = items.length := by omega
    subst hi2
    refine .inl ⟨w2 (Nat.le_refl _), ?_⟩
    rw [List.drop_length] at hl2
    obtain ⟨k1, k2, k3⟩ := m2.pins (Dn, .lst us) List.mem_cons_self
    exact hQ' _ _ ⟨.own acc, ρ2, F2, s1.trans s2, m2.unpin, ⟨Dn, us, rfl, k2, k1, racc, h0D, k3, hxD⟩, hl2⟩
end
end DV
end
section
set_option Elab.async false
set_option maxRecDepth 100000
set_option linter.all false
/-! DV11: the soundness of expressions. -/
namespace DV
open PySem PySem.Spec PyProof.Rows L2

section
variable {cls : Nat → Addr} {G : Nat → DSp} {sub : Nat → Nat → Option Bool}
def SW (cls : Nat → Addr) (sub : Nat → Nat → Option Bool) (cur : Option Nat) (X : Cx) (c : Cc) (W : WX) (x : Expr) (rd : Env → Er → (Bool → Env → Prop) → Prop) : Prop :=
  ∀ (T : Fr) (σ : St) (ρ : Env) (F H : Hp) (er : Er) (Q : Bool → Env → Prop), T.P.map (·.1) = c.pm → EvOk X c cls sub cur σ → Sim T ρ σ F H → ErOk T W cls er → rd ρ er Q →
    sW X x σ H fun k H' => ∃ ρ' F', Same F F' ∧ Sim T ρ' σ F' H' ∧ Q k ρ'
theorem sw_and1 {cur : Option Nat} {X : Cx} {c : Cc} {W : WX} {x : Expr} {pos : Pos} {ra : Env → Er → (Bool → Env → Prop) → Prop} (ha : ST cls sub cur X c W x ra) : SW cls sub cur X c W (.BoolOp .And [x] pos) ra := fun T σ ρ F H er Q hp ev sm eo q =>
  sW_of (pw_and1 pt_s) (ha T σ ρ F H er Q hp ev sm eo q)
theorem sw_or1 {cur : Option Nat} {X : Cx} {c : Cc} {W : WX} {x : Expr} {pos : Pos} {ra : Env → Er → (Bool → Env → Prop) → Prop} (ha : ST cls sub cur X c W x ra) : SW cls sub cur X c W (.BoolOp .Or [x] pos) ra := fun T σ ρ F H er Q hp ev sm eo q =>
  sW_of (pw_or1 pt_s) (ha T σ ρ F H er Q hp ev sm eo q)
theorem SW.st {cur : Option Nat} {X : Cx} {c : Cc} {W : WX} {x : Expr} {rd : Env → Er → (Bool → Env → Prop) → Prop} (s : SW cls sub cur X c W x rd) : ST cls sub cur X c W x rd := fun T σ ρ F H er Q hp ev sm eo q => sT_W (s T σ ρ F H er Q hp ev sm eo q)
set_option maxHeartbeats 4000000
mutual
theorem snd_E : ∀ (ir : E) (cur : Option Nat) (X : Cx) (c : Cc) (W : WX) (x : Expr), Good X c W cls G sub → chkE c ir x = true → SE cls sub cur X c W x (rdE ⟨G, c.pm, cur, sub⟩ ir)
  | .var i, cur, X, c, W, x, g, h => by
    cases x
    case Name n p => exact se_var g h
    all_goals exact absurd h Bool.false_ne_true
  | .int i, cur, X, c, W, x, g, h => by
    cases x
    case Constant k j p =>
      cases k
      case int m =>
        have h : decide (i = m) = true := h
        have e := of_decide_eq_true h
        subst e
        exact se_int
      all_goals exact absurd h Bool.false_ne_true
    all_goals exact absurd h Bool.false_ne_true
  | .str i, cur, X, c, W, x, g, h => by
    cases x
    case Constant k j p =>
      cases k
      case str m =>
        have h : decide (i = m) = true := h
        have e := of_decide_eq_true h
        subst e
        exact se_str
      all_goals exact absurd h Bool.false_ne_true
    all_goals exact absurd h Bool.false_ne_true
  | .bl i, cur, X, c, W, x, g, h => by
    cases x
    case Constant k j p =>
      cases k
      case bool m =>
        have h : decide (i = m) = true := h
        have e := of_decide_eq_true h
        subst e
        exact se_bl
      all_goals exact absurd h Bool.false_ne_true
    all_goals exact absurd h Bool.false_ne_true
  | .non, cur, X, c, W, x, g, h => by
    cases x
    case Constant k j p =>
      cases k
      case none => exact se_non
      all_goals exact absurd h Bool.false_ne_true
    all_goals exact absurd h Bool.false_ne_true
  | .con n i, cur, X, c, W, x, g, h => by
    cases x
    case Name m p =>
      have h : (decide (n = m) && glB c.sc m && decide (c.cons.lookup m = some i)) = true := h
      simp only [Bool.and_eq_true, decide_eq_true_eq] at h
      obtain ⟨k1, k2⟩ := glB_of h.1.2
      exact se_con g k1 k2 h.2
    all_goals exact absurd h Bool.false_ne_true
  | .bin o a b, cur, X, c, W, x, g, h => by
    cases x
    case BinOp l op r p =>
      have h : (decide (opOf o = op) && chkE c a l && chkE c b r) = true := h
      simp only [Bool.and_eq_true, decide_eq_true_eq] at h
      obtain ⟨⟨rfl, h1⟩, h2⟩ := h
      exact se_bin (snd_E a cur X c W l g h1) (snd_E b cur X c W r g h2)
    all_goals exact absurd h Bool.false_ne_true
  | .neg a, cur, X, c, W, x, g, h => by
    cases x
    case UnaryOp op y p =>
      cases op
      case USub => exact se_neg (snd_E a cur X c W y g h)
      all_goals exact absurd h Bool.false_ne_true
    all_goals exact absurd h Bool.false_ne_true
  | .cmp o a b, cur, X, c, W, x, g, h => by
    cases x
    case Compare l ops cs p =>
      match ops, cs, h with
      | [op], [r], h =>
        have h : (decide (cmOf o = op) && chkE c a l && chkE c b r) = true := h
        simp only [Bool.and_eq_true, decide_eq_true_eq] at h
        obtain ⟨⟨rfl, h1⟩, h2⟩ := h
        exact se_cmp g.hu (snd_E a cur X c W l g h1) (snd_E b cur X c W r g h2)
      | [], _, h => exact absurd h Bool.false_ne_true
      | [_], [], h => exact absurd h Bool.false_ne_true
      | [_], _ :: _ :: _, h => exact absurd h Bool.false_ne_true
      | _ :: _ :: _, _, h => exact absurd h Bool.false_ne_true
    all_goals exact absurd h Bool.false_ne_true
  | .chain o q a b d, cur, X, c, W, x, g, h => by
    cases x
    case Compare l ops cs p =>
      match ops, cs, h with
      | [op, op'], [m, r], h =>
        have h : (decide (cmOf o = op) && decide (cmOf q = op') && chkE c a l && chkE c b m && chkE c d r) = true := h
        simp only [Bool.and_eq_true, decide_eq_true_eq] at h
        obtain ⟨⟨⟨⟨rfl, rfl⟩, h1⟩, h2⟩, h3⟩ := h
        exact se_chain g.hu (snd_E a cur X c W l g h1) (snd_E b cur X c W m g h2) (snd_E d cur X c W r g h3)
      | [], _, h => exact absurd h Bool.false_ne_true
      | [_], _, h => exact absurd h Bool.false_ne_true
      | [_, _], [], h => exact absurd h Bool.false_ne_true
      | [_, _], [_], h => exact absurd h Bool.false_ne_true
      | [_, _], _ :: _ :: _ :: _, h => exact absurd h Bool.false_ne_true
      | _ :: _ :: _ :: _, _, h => exact absurd h Bool.false_ne_true
    all_goals exact absurd h Bool.false_ne_true
  | .and a b, cur, X, c, W, x, g, h => by
    cases x
    case BoolOp op vs p =>
      match op, vs, h with
      | .And, [y, z], h =>
        have h : (chkE c a y && chkE c b z) = true := h
        simp only [Bool.and_eq_true] at h
        exact se_andL (snd_E a cur X c W y g h.1) (se_one (snd_E b cur X c W z g h.2))
      | .And, y :: z :: u :: r, h =>
        have h : (chkE c a y && chkE c b (.BoolOp .And (z :: u :: r) p)) = true := h
        simp only [Bool.and_eq_true] at h
        exact se_andL (snd_E a cur X c W y g h.1) (snd_E b cur X c W _ g h.2)
      | .And, [], h => exact absurd h Bool.false_ne_true
      | .And, [_], h => exact absurd h Bool.false_ne_true
      | .Or, _, h => exact absurd h Bool.false_ne_true
    all_goals exact absurd h Bool.false_ne_true
  | .or a b, cur, X, c, W, x, g, h => by
    cases x
    case BoolOp op vs p =>
      match op, vs, h with
      | .Or, [y, z], h =>
        have h : (chkE c a y && chkE c b z) = true := h
        simp only [Bool.and_eq_true] at h
        exact se_orL (snd_E a cur X c W y g h.1) (se_one (snd_E b cur X c W z g h.2))
      | .Or, y :: z :: u :: r, h =>
        have h : (chkE c a y && chkE c b (.BoolOp .Or (z :: u :: r) p)) = true := h
        simp only [Bool.and_eq_true] at h
        exact se_orL (snd_E a cur X c W y g h.1) (snd_E b cur X c W _ g h.2)
      | .Or, [], h => exact absurd h Bool.false_ne_true
      | .Or, [_], h => exact absurd h Bool.false_ne_true
      | .And, _, h => exact absurd h Bool.false_ne_true
    all_goals exact absurd h Bool.false_ne_true
  | .not a, cur, X, c, W, x, g, h => by
    cases x
    case UnaryOp op y p =>
      cases op
      case Not => exact se_not (snd_E a cur X c W y g h)
      all_goals exact absurd h Bool.false_ne_true
    all_goals exact absurd h Bool.false_ne_true
  | .ite t a b, cur, X, c, W, x, g, h => by
    cases x
    case IfExp u y z p =>
      have h : (chkT c t u && chkE c a y && chkE c b z) = true := h
      simp only [Bool.and_eq_true] at h
      exact se_ite (snd_T t cur X c W u g h.1.1) (snd_E a cur X c W y g h.1.2) (snd_E b cur X c W z g h.2)
    all_goals exact absurd h Bool.false_ne_true
  | .call f as, cur, X, c, W, x, g, h => by
    cases x
    case Call fx args kws p =>
      cases fx
      case Name n pn =>
        cases kws
        case nil =>
          have h : (c.cm && glB c.sc n && (match c.G[f]? with
            | some (nm, ar, lv) => decide (nm = n) && decide (args.length = ar) && decide (lv ≤ c.lvl)
            | none => false) && chkEs c as args) = true := h
          simp only [Bool.and_eq_true] at h
          obtain ⟨⟨⟨h1, h2⟩, h3⟩, h4⟩ := h
          cases e : c.G[f]? with
          | none => rw [e] at h3; cases h3
          | some z =>
            obtain ⟨nm, ar, lv⟩ := z
            rw [e] at h3
            have h3 : (decide (nm = n) && decide (args.length = ar) && decide (lv ≤ c.lvl)) = true := h3
            simp only [Bool.and_eq_true, decide_eq_true_eq] at h3
            obtain ⟨⟨rfl, k1⟩, k2⟩ := h3
            exact se_call g h1 h2 ⟨ar, lv, e, k1, k2⟩ h4 (snd_Es as cur X c W args g h4)
        all_goals exact absurd h Bool.false_ne_true
      all_goals exact absurd h Bool.false_ne_true
    all_goals exact absurd h Bool.false_ne_true
  | .tup as, cur, X, c, W, x, g, h => by
    cases x
    case Tuple es k p =>
      have h : (decide (es.length ≤ 1000) && chkEs c as es) = true := h
      simp only [Bool.and_eq_true, decide_eq_true_eq] at h
      exact se_tup h.1 (snd_Es as cur X c W es g h.2)
    all_goals exact absurd h Bool.false_ne_true
  | .lst as, cur, X, c, W, x, g, h => by
    cases x
    case List es p =>
      have h : (decide (es.length ≤ 1000) && chkEs c as es) = true := h
      simp only [Bool.and_eq_true, decide_eq_true_eq] at h
      exact se_lst h.1 (snd_Es as cur X c W es g h.2)
    all_goals exact absurd h Bool.false_ne_true
  | .ix a i, cur, X, c, W, x, g, h => by
    cases x
    case Subscript l r p =>
      have h : (notSlice r && chkE c a l && chkE c i r) = true := h
      simp only [Bool.and_eq_true] at h
      exact se_ix h.1.1 (snd_E a cur X c W l g h.1.2) (snd_E i cur X c W r g h.2)
    all_goals exact absurd h Bool.false_ne_true
  | .ixo s i, cur, X, c, W, x, g, h => by
    cases x
    case Subscript l r p =>
      cases l
      case Name n pn =>
        have h : (notSlice r && chkV c s n && chkE c i r) = true := h
        simp only [Bool.and_eq_true] at h
        exact se_ixo g h.1.2 h.1.1 (snd_E i cur X c W r g h.2)
      all_goals exact absurd h Bool.false_ne_true
    all_goals exact absurd h Bool.false_ne_true
  | .len a, cur, X, c, W, x, g, h => by
    cases x
    case Call fx args kws p =>
      match fx, args, kws, h with
      | .Name n pn, [y], [], h =>
        have h : (bltB c "len" n && notStar y && chkE c a y) = true := h
        simp only [Bool.and_eq_true] at h
        exact se_len g h.1.1 h.1.2 (snd_E a cur X c W y g h.2)
    all_goals exact absurd h Bool.false_ne_true
  | .leno s, cur, X, c, W, x, g, h => by
    cases x
    case Call fx args kws p =>
      match fx, args, kws, h with
      | .Name n pn, [.Name y py], [], h =>
        have h : (bltB c "len" n && chkV c s y) = true := h
        simp only [Bool.and_eq_true] at h
        exact se_leno g h.1 h.2
    all_goals exact absurd h Bool.false_ne_true
  | .slice a lo hi, cur, X, c, W, x, g, h => by
    cases x
    case Subscript l r p =>
      match r, h with
      | .Slice (some y) (some z) none ps, h =>
        have h : (chkE c a l && chkE c lo y && chkE c hi z) = true := h
        simp only [Bool.and_eq_true] at h
        exact se_slice (snd_E a cur X c W l g h.1.1) (snd_E lo cur X c W y g h.1.2) (snd_E hi cur X c W z g h.2)
    all_goals exact absurd h Bool.false_ne_true
  | .slFrom a lo, cur, X, c, W, x, g, h => by
    cases x
    case Subscript l r p =>
      match r, h with
      | .Slice (some y) none none ps, h =>
        have h : (chkE c a l && chkE c lo y) = true := h
        simp only [Bool.and_eq_true] at h
        exact se_slFrom (snd_E a cur X c W l g h.1) (snd_E lo cur X c W y g h.2)
    all_goals exact absurd h Bool.false_ne_true
  | .slTo a hi, cur, X, c, W, x, g, h => by
    cases x
    case Subscript l r p =>
      match r, h with
      | .Slice none (some y) none ps, h =>
        have h : (chkE c a l && chkE c hi y) = true := h
        simp only [Bool.and_eq_true] at h
        exact se_slTo (snd_E a cur X c W l g h.1) (snd_E hi cur X c W y g h.2)
    all_goals exact absurd h Bool.false_ne_true
  | .bif b a, cur, X, c, W, x, g, h => by
    cases x
    case Call fx args kws p =>
      match fx, args, kws, h with
      | .Name n pn, [y], [], h =>
        have h : (c.cm && bltB c (biName b) n && notStar y && chkE c a y) = true := h
        simp only [Bool.and_eq_true] at h
        exact se_bif g (g.calm h.1.1.1) h.1.1.2 h.1.2 (snd_E a cur X c W y g h.2)
    all_goals exact absurd h Bool.false_ne_true
  | .bjf b a d, cur, X, c, W, x, g, h => by
    cases x
    case Call fx args kws p =>
      match fx, args, kws, h with
      | .Name n pn, [y, z], [], h =>
        have h : (c.cm && bltB c (bjName b) n && notStar y && notStar z && chkE c a y && chkE c d z) = true := h
        simp only [Bool.and_eq_true] at h
        obtain ⟨⟨⟨⟨⟨h1, h2⟩, h3⟩, h4⟩, h5⟩, h6⟩ := h
        exact se_bjf g (g.calm h1) h2 h3 h4 (snd_E a cur X c W y g h5) (snd_E d cur X c W z g h6)
    all_goals exact absurd h Bool.false_ne_true
  | .isi a tys, cur, X, c, W, x, g, h => by
    cases x
    case Call fx args kws p =>
      match fx, args, kws, h with
      | .Name n pn, [y, t], [], h =>
        have h : (bltB c "isinstance" n && notStar y && chkE c a y && (match (generalizing := false) tys, t with
          | [ty], .Name z p => chkTy c ty (.Name z p)
          | tys, .Tuple es _ _ => decide (es.length ≤ 1000) && chkTys c tys es
          | _, _ => false)) = true := h
        simp only [Bool.and_eq_true] at h
        obtain ⟨⟨⟨h1, h2⟩, h3⟩, h4⟩ := h
        split at h4
        · exact se_isi1 g h1 h2 h4 (snd_E a cur X c W y g h3)
        · simp only [Bool.and_eq_true, decide_eq_true_eq] at h4
          exact se_isiT g h1 h2 h4.1 h4.2 (snd_E a cur X c W y g h3)
        · cases h4
    all_goals exact absurd h Bool.false_ne_true
  | .excIs cs many, cur, X, c, W, x, g, h => by
    cases x
    case Call fx args kws p =>
      match fx, args, kws, h with
      | .Name n pn, [.Name y py, t], [], h =>
        have h : (bltB c "isinstance" n && (match (generalizing := false) c.ev with
          | some s => chkV c s y
          | none => false) && (match (generalizing := false) many, cs, t with
          | false, [k], .Name z p => chkX c k (.Name z p)
          | true, ks, .Tuple es _ _ => decide (es.length ≤ 1000) && chkXs c ks es
          | _, _, _ => false)) = true := h
        simp only [Bool.and_eq_true] at h
        obtain ⟨⟨h1, h2⟩, h3⟩ := h
        cases es : c.ev with
        | none => rw [es] at h2; cases h2
        | some s =>
          rw [es] at h2
          split at h3
          · exact se_exc1 g h1 es h2 h3
          · simp only [Bool.and_eq_true, decide_eq_true_eq] at h3
            exact se_excN g h1 es h2 h3.1 h3.2
          · cases h3
    all_goals exact absurd h Bool.false_ne_true
  | .lc it p t e vs, cur, X, c, W, x, g, h => by
    cases x
    case ListComp elt gs scope pos =>
      match gs, h with
      | [⟨tg, iter, ifs, asy⟩], h =>
        have h : (c.cm && decide (asy = 0) && vs.all (fun v => !c.pm.contains v) && blkC c.N c.sc scope (vs.map fun v => (c.N.getD v "", v)) && notSet iter && chkI c it iter tg &&
          chkP { c with sc := relS scope c.sc, fn := fun x => scope.names.lookup x == some .cell } (some vs) p tg &&
          (match (generalizing := false) ifs with
            | [] => (match (generalizing := false) t with | .yes => true | _ => false)
            | [x] => chkT { c with sc := relS scope c.sc, fn := fun x => scope.names.lookup x == some .cell } t x
            | _ => false) &&
          chkE { c with sc := relS scope c.sc, fn := fun x => scope.names.lookup x == some .cell } e elt) = true := h
        simp only [Bool.and_eq_true, decide_eq_true_eq] at h
        obtain ⟨⟨⟨⟨⟨⟨⟨⟨h1, rfl⟩, h3⟩, h4⟩, h5⟩, h6⟩, h7⟩, h8⟩, h9⟩ := h
        have hkd := (blkOk_by h4).kind
        have hN : X.N.Nodup := by rw [g.hN]; exact g.nd
        intro T σ ρ F H er Q hp ev sm eo q
        obtain ⟨wi, gt, tt, te, a1, a2, a3, a4, a5, a6, a7⟩ := se_lc g h1 h4 h5 (snd_I it cur X c W tg iter g h6) h7 (ifs := ifs) (rt := rdT ⟨G, c.pm, cur, sub⟩ t)
          (fun s H C cl fp => by
            match ifs, h8 with
            | [], h8 =>
              refine .inr ⟨rfl, fun ρ er Q q => ?_⟩
              cases t
              case yes => exact q
              all_goals exact absurd h8 Bool.false_ne_true
            | [u], h8 => exact .inl ⟨u, rfl, snd_T t cur _ _ _ u (good_blk g h1 hkd s H C cl fp) h8⟩
            | _ :: _ :: _, h8 => exact absurd h8 Bool.false_ne_true)
          (fun s H C cl fp => snd_E e cur _ _ _ elt (good_blk g h1 hkd s H C cl fp) h9)
          (fun v hv hm => by
            have := List.all_eq_true.mp h3 v hv
            rw [List.contains_iff_mem.mpr hm] at this
            cases this) T σ ρ F H er Q hp ev sm eo q
        exact sE_of (pe_lc (g.calm h1) hN a1 a2 a3 a4 a5 a6) (a7 _ fun _ _ z => z)
    all_goals exact absurd h Bool.false_ne_true
  | .pop s, cur, X, c, W, x, g, h => by
    cases x
    case Call fx args kws p =>
      match fx, args, kws, h with
      | .Attribute (.Name n pn) nm ap, [], [], h =>
        have h : (decide (nm = ("pop" : Str)) && chkV c s n && (ap.endLine == p.line)) = true := h
        simp only [Bool.and_eq_true, decide_eq_true_eq] at h
        obtain ⟨⟨rfl, h1⟩, h2⟩ := h
        exact se_pop g h1 h2
    all_goals exact absurd h Bool.false_ne_true
  | .lrg a, cur, X, c, W, x, g, h => by
    cases x
    case Call fx args kws p =>
      match fx, args, kws, h with
      | .Name n pn, [.Call (.Name m pm) [z] [] pc], [], h =>
        have h : (c.cm && bltB c "list" n && bltB c "range" m && notStar z && chkE c a z) = true := h
        simp only [Bool.and_eq_true] at h
        obtain ⟨⟨⟨⟨h1, h2⟩, h3⟩, h4⟩, h5⟩ := h
        exact se_lrg g (g.calm h1) h2 h3 h4 (snd_E a cur X c W z g h5)
    all_goals exact absurd h Bool.false_ne_true
  | .idx s e, cur, X, c, W, x, g, h => by
    cases x
    case Call fx args kws p =>
      match fx, args, kws, h with
      | .Attribute (.Name n pn) nm ap, [v], [], h =>
        have h : (decide (nm = ("index" : Str)) && chkV c s n && notStar v && (ap.endLine == p.line) && chkE c e v) = true := h
        simp only [Bool.and_eq_true, decide_eq_true_eq] at h
        obtain ⟨⟨⟨⟨rfl, h1⟩, h2⟩, h3⟩, h4⟩ := h
        exact se_idx g h1 h2 (by simpa using h3) (snd_E e cur X c W v g h4)
    all_goals exact absurd h Bool.false_ne_true
theorem snd_T : ∀ (ir : T) (cur : Option Nat) (X : Cx) (c : Cc) (W : WX) (x : Expr), Good X c W cls G sub → chkT c ir x = true → ST cls sub cur X c W x (rdT ⟨G, c.pm, cur, sub⟩ ir)
  | .yes, cur, X, c, W, x, g, h => by cases x <;> exact absurd h Bool.false_ne_true
  | .cmp o a b, cur, X, c, W, x, g, h => by
    cases x
    case Compare l ops cs p =>
      match ops, cs, h with
      | [op], [r], h =>
        have h : (decide (cmOf o = op) && chkE c a l && chkE c b r) = true := h
        simp only [Bool.and_eq_true, decide_eq_true_eq] at h
        obtain ⟨⟨rfl, h1⟩, h2⟩ := h
        exact st_cmp g.hu (snd_E a cur X c W l g h1) (snd_E b cur X c W r g h2)
      | [], _, h => exact absurd h Bool.false_ne_true
      | [_], [], h => exact absurd h Bool.false_ne_true
      | [_], _ :: _ :: _, h => exact absurd h Bool.false_ne_true
      | _ :: _ :: _, _, h => exact absurd h Bool.false_ne_true
    all_goals exact absurd h Bool.false_ne_true
  | .chain o q a b d, cur, X, c, W, x, g, h => by
    cases x
    case Compare l ops cs p =>
      match ops, cs, h with
      | [op, op'], [m, r], h =>
        have h : (decide (cmOf o = op) && decide (cmOf q = op') && chkE c a l && chkE c b m && chkE c d r) = true := h
        simp only [Bool.and_eq_true, decide_eq_true_eq] at h
        obtain ⟨⟨⟨⟨rfl, rfl⟩, h1⟩, h2⟩, h3⟩ := h
        exact st_chain g.hu (snd_E a cur X c W l g h1) (snd_E b cur X c W m g h2) (snd_E d cur X c W r g h3)
      | [], _, h => exact absurd h Bool.false_ne_true
      | [_], _, h => exact absurd h Bool.false_ne_true
      | [_, _], [], h => exact absurd h Bool.false_ne_true
      | [_, _], [_], h => exact absurd h Bool.false_ne_true
      | [_, _], _ :: _ :: _ :: _, h => exact absurd h Bool.false_ne_true
      | _ :: _ :: _ :: _, _, h => exact absurd h Bool.false_ne_true
    all_goals exact absurd h Bool.false_ne_true
  | .and a b, cur, X, c, W, x, g, h => by
    cases x
    case BoolOp op vs p =>
      match op, vs, h with
      | .And, [y, z], h =>
        have h : (chkT c a y && chkT c b z) = true := h
        simp only [Bool.and_eq_true] at h
        exact SW.st (st_andL (snd_T a cur X c W y g h.1) (sw_and1 (snd_T b cur X c W z g h.2)))
      | .And, y :: z :: u :: r, h =>
        have h : (chkT c a y && chkT c b (.BoolOp .And (z :: u :: r) p)) = true := h
        simp only [Bool.and_eq_true] at h
        exact SW.st (st_andL (snd_T a cur X c W y g h.1) (snd_W b cur X c W _ g h.2 ⟨_, _, _, rfl⟩))
      | .And, [], h => exact absurd h Bool.false_ne_true
      | .And, [_], h => exact absurd h Bool.false_ne_true
      | .Or, _, h => exact absurd h Bool.false_ne_true
    all_goals exact absurd h Bool.false_ne_true
  | .or a b, cur, X, c, W, x, g, h => by
    cases x
    case BoolOp op vs p =>
      match op, vs, h with
      | .Or, [y, z], h =>
        have h : (chkT c a y && chkT c b z) = true := h
        simp only [Bool.and_eq_true] at h
        exact SW.st (st_orL (snd_T a cur X c W y g h.1) (sw_or1 (snd_T b cur X c W z g h.2)))
      | .Or, y :: z :: u :: r, h =>
        have h : (chkT c a y && chkT c b (.BoolOp .Or (z :: u :: r) p)) = true := h
        simp only [Bool.and_eq_true] at h
        exact SW.st (st_orL (snd_T a cur X c W y g h.1) (snd_W b cur X c W _ g h.2 ⟨_, _, _, rfl⟩))
      | .Or, [], h => exact absurd h Bool.false_ne_true
      | .Or, [_], h => exact absurd h Bool.false_ne_true
      | .And, _, h => exact absurd h Bool.false_ne_true
    all_goals exact absurd h Bool.false_ne_true
  | .not a, cur, X, c, W, x, g, h => by
    cases x
    case UnaryOp op y p =>
      cases op
      case Not => exact st_not (snd_T a cur X c W y g h)
      all_goals exact absurd h Bool.false_ne_true
    all_goals exact absurd h Bool.false_ne_true
  | .val e, cur, X, c, W, x, g, h => by
    have h : (plainT x && chkE c e x) = true := h
    simp only [Bool.and_eq_true] at h
    exact st_val h.1 (snd_E e cur X c W x g h.2)
  | .tro s, cur, X, c, W, x, g, h => by
    cases x
    case Name n p => exact st_tro g h
    all_goals exact absurd h Bool.false_ne_true
theorem snd_W : ∀ (ir : T) (cur : Option Nat) (X : Cx) (c : Cc) (W : WX) (x : Expr), Good X c W cls G sub → chkT c ir x = true → (∃ op vs p, x = .BoolOp op vs p) → SW cls sub cur X c W x (rdT ⟨G, c.pm, cur, sub⟩ ir)
  | .yes, cur, X, c, W, x, g, h, ⟨op, vs, p, e⟩ => by subst e; exact absurd h Bool.false_ne_true
  | .cmp _ _ _, cur, X, c, W, x, g, h, ⟨op, vs, p, e⟩ => by subst e; exact absurd h Bool.false_ne_true
  | .chain _ _ _ _ _, cur, X, c, W, x, g, h, ⟨op, vs, p, e⟩ => by subst e; exact absurd h Bool.false_ne_true
  | .not _, cur, X, c, W, x, g, h, ⟨op, vs, p, e⟩ => by subst e; exact absurd h Bool.false_ne_true
  | .tro _, cur, X, c, W, x, g, h, ⟨op, vs, p, e⟩ => by subst e; exact absurd h Bool.false_ne_true
  | .val _, cur, X, c, W, x, g, h, ⟨op, vs, p, e⟩ => by subst e; exact absurd h Bool.false_ne_true
  | .and a b, cur, X, c, W, x, g, h, ⟨op, vs, p, e⟩ => by
    subst e
    match op, vs, h with
    | .And, [y, z], h =>
      have h : (chkT c a y && chkT c b z) = true := h
      simp only [Bool.and_eq_true] at h
      exact st_andL (snd_T a cur X c W y g h.1) (sw_and1 (snd_T b cur X c W z g h.2))
    | .And, y :: z :: u :: r, h =>
      have h : (chkT c a y && chkT c b (.BoolOp .And (z :: u :: r) p)) = true := h
      simp only [Bool.and_eq_true] at h
      exact st_andL (snd_T a cur X c W y g h.1) (snd_W b cur X c W _ g h.2 ⟨_, _, _, rfl⟩)
    | .And, [], h => exact absurd h Bool.false_ne_true
    | .And, [_], h => exact absurd h Bool.false_ne_true
    | .Or, _, h => exact absurd h Bool.false_ne_true
  | .or a b, cur, X, c, W, x, g, h, ⟨op, vs, p, e⟩ => by
    subst e
    match op, vs, h with
    | .Or, [y, z], h =>
      have h : (chkT c a y && chkT c b z) = true := h
      simp only [Bool.and_eq_true] at h
      exact st_orL (snd_T a cur X c W y g h.1) (sw_or1 (snd_T b cur X c W z g h.2))
    | .Or, y :: z :: u :: r, h =>
      have h : (chkT c a y && chkT c b (.BoolOp .Or (z :: u :: r) p)) = true := h
      simp only [Bool.and_eq_true] at h
      exact st_orL (snd_T a cur X c W y g h.1) (snd_W b cur X c W _ g h.2 ⟨_, _, _, rfl⟩)
    | .Or, [], h => exact absurd h Bool.false_ne_true
    | .Or, [_], h => exact absurd h Bool.false_ne_true
    | .And, _, h => exact absurd h Bool.false_ne_true
theorem snd_Es : ∀ (ir : Es) (cur : Option Nat) (X : Cx) (c : Cc) (W : WX) (xs : List Expr), Good X c W cls G sub → chkEs c ir xs = true → SA cls sub cur X c W xs (rdEs ⟨G, c.pm, cur, sub⟩ ir)
  | .nil, cur, X, c, W, xs, g, h => by
    cases xs with
    | nil => exact sa_nil
    | cons => exact absurd h Bool.false_ne_true
  | .cons e r, cur, X, c, W, xs, g, h => by
    cases xs with
    | nil => exact absurd h Bool.false_ne_true
    | cons x xs =>
      have h : (notStar x && chkE c e x && chkEs c r xs) = true := h
      simp only [Bool.and_eq_true] at h
      exact sa_cons h.1.1 (snd_E e cur X c W x g h.1.2) (snd_Es r cur X c W xs g h.2)
  | .own s r, cur, X, c, W, xs, g, h => by
    cases xs with
    | nil => exact absurd h Bool.false_ne_true
    | cons x xs =>
      cases x
      case Name n p =>
        have h : (chkV c s n && chkEs c r xs) = true := h
        simp only [Bool.and_eq_true] at h
        exact sa_own g h.1 (snd_Es r cur X c W xs g h.2)
      all_goals exact absurd h Bool.false_ne_true
  | .bor s r, cur, X, c, W, xs, g, h => by
    cases xs with
    | nil => exact absurd h Bool.false_ne_true
    | cons x xs =>
      cases x
      case Name n p =>
        have h : (chkV c s n && chkEs c r xs) = true := h
        simp only [Bool.and_eq_true] at h
        exact sa_bor g h.1 (snd_Es r cur X c W xs g h.2)
      all_goals exact absurd h Bool.false_ne_true
theorem snd_I : ∀ (ir : Iu) (cur : Option Nat) (X : Cx) (c : Cc) (W : WX) (tg x : Expr), Good X c W cls G sub → chkI c ir x tg = true → SI cls sub cur X c W tg x (rdIt ⟨G, c.pm, cur, sub⟩ ir)
  | .seq e, cur, X, c, W, tg, x, g, h => si_seq (snd_E e cur X c W x g h)
  | .rng1 a, cur, X, c, W, tg, x, g, h => by
    cases x
    case Call fx args kws p =>
      match fx, args, kws, h with
      | .Name n pn, [y], [], h =>
        have h : (bltB c "range" n && notStar y && chkE c a y) = true := h
        simp only [Bool.and_eq_true] at h
        exact si_rng1 g h.1.1 h.1.2 (snd_E a cur X c W y g h.2)
    all_goals exact absurd h Bool.false_ne_true
  | .rng2 a b, cur, X, c, W, tg, x, g, h => by
    cases x
    case Call fx args kws p =>
      match fx, args, kws, h with
      | .Name n pn, [y, z], [], h =>
        have h : (bltB c "range" n && notStar y && notStar z && chkE c a y && chkE c b z) = true := h
        simp only [Bool.and_eq_true] at h
        obtain ⟨⟨⟨⟨h1, h2⟩, h3⟩, h4⟩, h5⟩ := h
        exact si_rng2 g h1 h2 h3 (snd_E a cur X c W y g h4) (snd_E b cur X c W z g h5)
    all_goals exact absurd h Bool.false_ne_true
  | .rng3 a b d, cur, X, c, W, tg, x, g, h => by
    cases x
    case Call fx args kws p =>
      match fx, args, kws, h with
      | .Name n pn, [y, z, u], [], h =>
        have h : (bltB c "range" n && notStar y && notStar z && notStar u && chkE c a y && chkE c b z && chkE c d u) = true := h
        simp only [Bool.and_eq_true] at h
        obtain ⟨⟨⟨⟨⟨⟨h1, h2⟩, h3⟩, h4⟩, h5⟩, h6⟩, h7⟩ := h
        exact si_rng3 g h1 h2 h3 h4 (snd_E a cur X c W y g h5) (snd_E b cur X c W z g h6) (snd_E d cur X c W u g h7)
    all_goals exact absurd h Bool.false_ne_true
  | .zip a b, cur, X, c, W, tg, x, g, h => by
    cases x
    case Call fx args kws p =>
      match fx, args, kws, h with
      | .Name n pn, [y, z], [], h =>
        have h : (bltB c "zip" n && isTupE tg && notStar y && notStar z && chkE c a y && chkE c b z) = true := h
        simp only [Bool.and_eq_true] at h
        obtain ⟨⟨⟨⟨⟨h1, h2⟩, h3⟩, h4⟩, h5⟩, h6⟩ := h
        exact si_zip g h2 h1 h3 h4 (snd_E a cur X c W y g h5) (snd_E b cur X c W z g h6)
    all_goals exact absurd h Bool.false_ne_true
  | .enum a, cur, X, c, W, tg, x, g, h => by
    cases x
    case Call fx args kws p =>
      match fx, args, kws, h with
      | .Name n pn, [y], [], h =>
        have h : (bltB c "enumerate" n && isTupE tg && notStar y && chkE c a y) = true := h
        simp only [Bool.and_eq_true] at h
        obtain ⟨⟨⟨h1, h2⟩, h3⟩, h4⟩ := h
        exact si_enum g h2 h1 h3 (snd_E a cur X c W y g h4)
    all_goals exact absurd h Bool.false_ne_true
end
end
end DV
end
section
set_option Elab.async false
set_option maxRecDepth 100000
set_option linter.all false
/-! DV12: statements, construct by construct. -/
namespace DV
open PySem PySem.Spec PyProof.Rows L2

section
variable {cls : Nat → Addr} {G : Nat → DSp} {sub : Nat → Nat → Option Bool}
structure DOk (T : Fr) (X : Cx) (c : Cc) (cls : Nat → Addr) (sub : Nat → Nat → Option Bool) (cur : Option Nat) (W : WX) (N : Dn) (D : Ends) : Prop where
  nx : ∀ σ ρ F H, Sim T ρ σ F H → EvOk X c cls sub cur σ → N.nx ρ → D.nx σ H
  rt : ∀ σ ρ F H v b, Sim T ρ σ F H → Res T ρ σ F H v b → N.rt b ρ → D.rt v H
  bk : ∀ σ ρ F H, Sim T ρ σ F H → EvOk X c cls sub cur σ → N.bk ρ → D.bk σ H
  ct : ∀ σ ρ F H, Sim T ρ σ F H → EvOk X c cls sub cur σ → N.ct ρ → D.ct σ H
  er : ErOk T W cls N.er
def SS (cls : Nat → Addr) (sub : Nat → Nat → Option Bool) (cur : Option Nat) (X : Cx) (c : Cc) (W : WX) (st : Stmt) (rd : Env → Dn → Prop) : Prop :=
  ∀ (T : Fr) (σ : St) (ρ : Env) (F H : Hp) (N : Dn) (D : Ends), T.P.map (·.1) = c.pm → EvOk X c cls sub cur σ → Sim T ρ σ F H → DOk T X c cls sub cur W N D → rd ρ N → sS X st D σ H
def SSs (cls : Nat → Addr) (sub : Nat → Nat → Option Bool) (cur : Option Nat) (X : Cx) (c : Cc) (W : WX) (st : List Stmt) (rd : Env → Dn → Prop) : Prop :=
  ∀ (T : Fr) (σ : St) (ρ : Env) (F H : Hp) (N : Dn) (D : Ends), T.P.map (·.1) = c.pm → EvOk X c cls sub cur σ → Sim T ρ σ F H → DOk T X c cls sub cur W N D → rd ρ N → sSs X st D σ H
section
variable {cur : Option Nat} {X : Cx} {c : Cc} {W : WX}
theorem sw_false {elt : Expr} {gs : List Comprehension} {scope : Scope} {pos py : Pos} {y : Str} {l : Nat} {env : PySem.Env} (hk : env.scope.kind = .function)
    (h : (decide (env.scope.names.lookup y = some .local) && (py.line == pos.line) && !(scope.names.any fun (n, k) => n == y && (k == .local || k == .cell))) = false) : swapsWith (.ListComp elt gs scope pos) (some (.Name y py)) l env = pure false := by
  have hb : env.blockKind = .function := by unfold Env.blockKind; rw [hk]; rfl
  have ek : (env.kindOf y == some .local) = decide (env.scope.names.lookup y = some .local) := by
    show (env.scope.names.lookup y == some .local) = _
    rw [Bool.eq_iff_iff]
    simp
  unfold swapsWith
  simp only [hb, ek, Expr.pos]
  show pure (_ && _ && _ && _) = _
  rw [show (ScopeKind.function == ScopeKind.function) = true by decide, Bool.true_and]
  rw [h]
theorem nodX (g : Good X c W cls G sub) : X.N.Nodup := by rw [g.hN]; exact g.nd
theorem ev_set {σ : St} {i : Nat} {v : Option V} (ev : EvOk X c cls sub cur σ) (h : c.ev ≠ some i) : EvOk X c cls sub cur (σ.set i v) := fun s k e1 e2 => by
  obtain ⟨a, ea, r⟩ := ev s k e1 e2
  have hne : i ≠ s := fun z => h (by rw [z]; exact e1)
  exact ⟨a, by rw [List.getElem?_set_ne hne]; exact ea, r⟩
/-- a slot is stored, wherever it is -/
theorem Sim.storeA {T : Fr} {ρ : Env} {σ : St} {F H : Hp} {v : V} {b : B} (s : Sim T ρ σ F H) {i : Nat} (r : Res T ρ σ F H v b) (hp : (T.P.map (·.1)).contains i = false) : Sim T (ρ.set i (some b)) (σ.set i (some v)) F H := by
  by_cases hi : i < ρ.length
  · exact s.store r hi hp
  · rw [List.set_eq_of_length_le (Nat.le_of_not_lt hi), List.set_eq_of_length_le (by have := s.len; omega)]
    exact s
theorem ss_set (g : Good X c W cls G sub) {i : Nat} {x : Str} {v : Expr} {px pos : Pos} {ra : Env → Er → (B → Env → Prop) → Prop} (h1 : c.N[i]? = some x) (h2 : locB c x = true) (h3 : c.ev ≠ some i) (h4 : notComp v = true) (ha : SE cls sub cur X c W v ra) :
    SS cls sub cur X c W (.Assign [.Name x px] v pos) (fun ρ N => ra ρ N.er fun b ρ1 => c.pm.contains i = false ∧ N.nx (ρ1.set i (some b))) := fun T σ ρ F H N D hp ev sm ok q => by
  obtain ⟨l1, l2⟩ := g.loc h2
  have hs : swapsWith v (some (.Name x px)) pos.line X.env = pure false := by cases v <;> first | rfl | (unfold notComp at h4; cases h4)
  refine sS_of (ps_set (nodX g) (g.slot h1) l1 pe_s hs l2) (sE_mono (ha T σ ρ F H N.er _ hp ev sm ok.er q) fun w H1 ⟨b, ρ1, F1, s1, m1, r1, q1, q2⟩ => ?_)
  exact ok.nx _ _ F1 H1 (m1.storeA r1 (by rw [hp]; exact q1)) (ev_set ev h3) q2
theorem ss_unp (g : Good X c W cls G sub) (hcm : c.cm = true) {p : Pat} {ts : List Expr} {k : Nat} {pt pos : Pos} {v : Expr} {ra : Env → Er → (B → Env → Prop) → Prop} (h1 : notComp v = true) (h2 : isTupE v = false) (h3 : chkP c none p (.Tuple ts k pt) = true) (ha : SE cls sub cur X c W v ra) :
    SS cls sub cur X c W (.Assign [.Tuple ts k pt] v pos) (fun ρ N => ra ρ N.er fun b ρ1 => rdP ⟨G, c.pm, cur, sub⟩ p b.d ρ1 N.nx) := fun T σ ρ F H N D hp ev sm ok q => by
  have hs : swapsWithSole [.Tuple ts k pt] v pos.line X.env = pure false := by
    show swapsWith v (some (.Tuple ts k pt)) pos.line X.env = _
    cases v <;> first | rfl | (unfold notComp at h1; cases h1)
  have hw : swappedStores [.Tuple ts k pt] v X.env = pure none := by
    cases v <;> first | rfl | (unfold isTupE at h2; cases h2)
  refine sS_of (ps_asg pe_s pg_s hs hw rfl) (ha.v hp ev sm ok.er q fun w H1 b1 ρ1 F1 s1 m1 r1 q1 => ?_)
  exact sG_mono (snd_P g none p _ h3 T σ ρ1 F1 H1 b1.d w _ hp m1 r1 q1) fun σ' H' ⟨ρ', m', q', _⟩ => ok.nx σ' ρ' F1 H' m' (evNone (g.ev hcm)) q'
theorem par_ok {env : PySem.Env} {x y : Str} {px py pt pt2 : Pos} {k k2 : Nat} {a b : Expr} (hb : env.scope.kind = .function) (hx : env.scope.names.lookup x = some .local) (hy : env.scope.names.lookup y = some .local) (hl : (py.line == px.line) = true) (hxy : (x == y) = false)
    (hf : [a, b].all (foldedForSure 8) = false) (hc : [a, b].all (constantsAlone 8) = false) (ha : notStar a = true) (hbs : notStar b = true) :
    swappedStores [.Tuple [.Name x px, .Name y py] k pt] (.Tuple [a, b] k2 pt2) env = pure (some [x, y]) := by
  have bk : env.blockKind = .function := by unfold Env.blockKind; rw [hb]; rfl
  have kx : env.kindOf x = some .local := hx
  have ky : env.kindOf y = some .local := hy
  have st : ([a, b].any fun | .Starred .. => true | _ => false) = false := by
    cases a <;> first | exact absurd ha Bool.false_ne_true | (cases b <;> first | rfl | exact absurd hbs Bool.false_ne_true)
  have yx : (y == x) = false := by
    rw [beq_eq_false_iff_ne] at hxy ⊢
    exact fun e => hxy e.symm
  unfold swappedStores
  simp only [bk, List.length_cons, List.length_nil, st, List.filterMap_cons, List.filterMap_nil, List.head?_cons, Option.map_some, Option.getD_some, Expr.pos, kx, ky, hl, hf, hc, beq_self_eq_true, Bool.and_self, if_true]
  simp [List.eraseDups_cons, yx, hxy]
  intro h
  exfalso
  rcases h with h | h
  · cases a <;> first | exact absurd ha Bool.false_ne_true | cases h
  · cases b <;> first | exact absurd hbs Bool.false_ne_true | cases h
theorem ss_par (g : Good X c W cls G sub) (hcm : c.cm = true) {i j : Nat} {x y : Str} {px py pt pt2 pos : Pos} {k k2 : Nat} {v w : Expr} {ra rb : Env → Er → (B → Env → Prop) → Prop} (h1 : c.N[i]? = some x) (h2 : c.N[j]? = some y) (h3 : i ≠ j) (h4 : parB c x y px py v w = true)
    (ha : SE cls sub cur X c W v ra) (hb : SE cls sub cur X c W w rb) : SS cls sub cur X c W (.Assign [.Tuple [.Name x px, .Name y py] k pt] (.Tuple [v, w] k2 pt2) pos)
      (fun ρ N => ra ρ N.er fun a ρ1 => rb ρ1 N.er fun b ρ2 => (c.pm.contains i || c.pm.contains j) = false ∧ N.nx ((ρ2.set i (some (.val a.d))).set j (some (.val b.d)))) := fun T σ ρ F H N D hp ev sm ok q => by
  unfold parB at h4
  simp only [Bool.and_eq_true, decide_eq_true_eq, Bool.not_eq_true'] at h4
  obtain ⟨⟨⟨⟨⟨⟨⟨p1, p2⟩, p3⟩, p4⟩, p5⟩, p6⟩, p7⟩, p8⟩ := h4
  have kd : X.env.scope.kind = .function := by rw [g.sc]; exact g.kd
  have lx : X.env.scope.names.lookup x = some .local := by rw [g.sc]; exact p1
  have ly : X.env.scope.names.lookup y = some .local := by rw [g.sc]; exact p2
  refine sS_of (ps_par (g.calm hcm) (nodX g) (g.slot h1) (g.slot h2) h3 lx ly (pa_cons pe_s (pa_cons pe_s pa_nil (starEach_ns p8)) (starEach_ns p7)) (par_ok kd lx ly p3 p4 p5 p6 p7 p8) rfl) ?_
  refine ha.v hp ev sm ok.er q fun a H1 b1 ρ1 F1 s1 m1 r1 q1 => hb.v hp ev m1 ok.er q1 fun b H2 b2 ρ2 F2 s2 m2 r2 ⟨q2, q3⟩ => ⟨a, b, rfl, ?_⟩
  simp only [Bool.or_eq_false_iff] at q2
  have m3 := m2.storeA (i := i) (b := .val b1.d) (RepD.mono s2 _ _ r1) (by rw [hp]; exact q2.1)
  have m4 := m3.storeA (i := j) (b := .val b2.d) r2 (by rw [hp]; exact q2.2)
  exact ok.nx _ _ F2 H2 m4 (evNone (g.ev hcm)) q3
theorem own_of {ρ : Env} {i : Nat} {R : List D → Prop} (h : match getE ρ i with
    | some (.own xs) => R xs
    | _ => False) : ∃ xs, getE ρ i = some (.own xs) ∧ R xs := by
  cases e : getE ρ i with
  | none => rw [e] at h; exact h.elim
  | some b =>
    rw [e] at h
    cases b with
    | val => exact h.elim
    | own xs => exact ⟨xs, rfl, h⟩
theorem ixN_len {n m : Nat} (h : n = m) (k : Int) : ixN n k = ixN m k := by rw [h]
theorem ss_six (g : Good X c W cls G sub) {s : Nat} {x : Str} {r v : Expr} {px ps' pos : Pos} {ra ri : Env → Er → (B → Env → Prop) → Prop} (h1 : notSlice r = true) (h3 : chkV c s x = true) (hi : SE cls sub cur X c W r ri) (ha : SE cls sub cur X c W v ra) :
    SS cls sub cur X c W (.Assign [.Subscript (.Name x px) r ps'] v pos) (fun ρ N => ra ρ N.er fun a ρ1 => isSet (getE ρ1 s) = true ∧ ri ρ1 N.er fun y ρ2 => match getE ρ2 s with
      | some (.own xs) => (match y.d with
        | .int k => ∃ j, ixN xs.length k = some j ∧ N.nx (ρ2.set s (some (.own (xs.set j a.d))))
        | _ => False)
      | _ => False) := fun T σ ρ F H N D hp ev sm ok q => by
  have hs : swapsWithSole [.Subscript (.Name x px) r ps'] v pos.line X.env = pure false := by
    show swapsWith v (some (.Subscript (.Name x px) r ps')) pos.line X.env = _
    cases v <;> rfl
  have hw : swappedStores [.Subscript (.Name x px) r ps'] v X.env = pure none := by cases v <;> rfl
  have hasg : ∀ u, assign (.Subscript (.Name x px) r ps') X.env u = (do
      let ov ← holding [u] (eval (.Name x px) X.env)
      let iv ← holding [u, ov] (eval r X.env)
      standAt ps'
      holding [u, ov, iv] (setItem ov iv u)
      release [u, ov, iv] []) := by
    intro u
    cases r <;> first | rfl | (unfold notSlice at h1; cases h1)
  refine sS_of (ps_asg pe_s (pg_sub (g.var h3) pe_s set_list hasg) hs hw rfl) (ha.v hp ev sm ok.er q fun w H1 b1 ρ1 F1 s1 m1 r1 ⟨q0, q1⟩ => ?_)
  obtain ⟨b0, e0⟩ : ∃ b0, getE ρ1 s = some b0 := by
    cases e : getE ρ1 s with
    | none => rw [e] at q0; cases q0
    | some b => exact ⟨b, rfl⟩
  obtain ⟨v0, ev0, _⟩ := m1.slot s _ e0
  refine ⟨v0, ev0, hi.v hp ev m1 ok.er q1 fun u H2 b2 ρ2 F2 s2 m2 r2 q2 => ?_⟩
  obtain ⟨xs, e2, q2⟩ := own_of q2
  obtain ⟨a, us, ea, o, k1, k2, k3⟩ := m2.own e2
  rw [ev0] at ea; cases ea
  generalize b2.d = y at r2 q2
  cases y with
  | int k =>
    cases r2
    obtain ⟨j, ej, q2⟩ := q2
    exact ⟨a, us, k, j, rfl, rfl, k2, by rw [← k3.len]; exact ej, ok.nx _ _ F2 _ (m2.write o (RepL.set (RepD.mono s2 _ _ r1) j k3)) ev q2⟩
  | _ => exact q2.elim
theorem ip_mul : PIp X .Mult (fun x y H Q => ∃ i j, x = .int i ∧ y = .int j ∧ MulOk i j ∧ Q (.int (i * j)) H) := by
  intro pins s σ H x y v u Q I rx ry ⟨i, j, ex, ey, m, q⟩
  subst ex ey
  obtain ⟨t, rfl⟩ := rx
  obtain ⟨t', rfl⟩ := ry
  exact PyProof.Rows.imul_int ⟨.int _, H, I.tok _, ⟨_, rfl⟩, q⟩ (CMulW.ok m)
/-- an int changed in place -/
theorem aug_ok {o : Op} {d e : D} {K : D → Prop} {F H : Hp} {v u : V} (h : augD o d e K) (rv : RepD F d v) (ru : RepD F e u) : ∃ ti : TIp, PIp X (opOf o) ti ∧ ∀ (Q : VK), (∀ z w, RepD F z w → K z → Q w H) → ti v u H Q := by
  unfold augD at h
  split at h
  · cases rv; cases ru
    exact ⟨_, ip_add, fun Q k => ⟨_, _, rfl, rfl, k (.int _) _ rfl h⟩⟩
  · cases rv; cases ru
    exact ⟨_, ip_sub, fun Q k => ⟨_, _, rfl, rfl, k (.int _) _ rfl h⟩⟩
  · cases rv; cases ru
    exact ⟨_, ip_mul, fun Q k => ⟨_, _, rfl, rfl, h.1, k (.int _) _ rfl h.2⟩⟩
  · exact h.elim
def sIp (X : Cx) (op : Operator) : TIp := fun x y H Q => ∀ (pins : List (Addr × Obj)) (s : Shared) (σ : St) (v u : Value), Inv X pins σ H s → RelV x v → RelV y u → wpAny (model X.prog X.w) X.A (inplaceOp op v u) (EP X pins σ Q) X.xe s
theorem ip_s {op : Operator} : PIp X op (sIp X op) := fun pins s σ H x y v u Q I rx ry h => h pins s σ v u I rx ry
theorem sIp_of {o : Op} {d e : D} {K : D → Prop} {F H : Hp} {v u : V} (h : augD o d e K) (rv : RepD F d v) (ru : RepD F e u) {Q : VK} (k : ∀ z w, RepD F z w → K z → Q w H) : sIp X (opOf o) v u H Q := fun pins s σ v' u' I rx ry => by
  obtain ⟨ti, hp, hk⟩ := aug_ok (X := X) (H := H) h rv ru
  exact hp pins s σ H v u v' u' Q I rx ry (hk Q k)
theorem ss_aug (g : Good X c W cls G sub) (hcm : c.cm = true) {i : Nat} {o : Op} {x : Str} {v : Expr} {px pos : Pos} {ra : Env → Er → (B → Env → Prop) → Prop} (h1 : chkV c i x = true) (h2 : locB c x = true) (ha : SE cls sub cur X c W v ra) :
    SS cls sub cur X c W (.AugAssign (.Name x px) (opOf o) v pos) (fun ρ N => match getE ρ i with
      | some (.val d) => ra ρ N.er fun a ρ1 => augD o d a.d fun z => c.pm.contains i = false ∧ N.nx (ρ1.set i (some (.val z)))
      | _ => False) := fun T σ ρ F H N D hp ev sm ok q => by
  obtain ⟨l1, l2⟩ := g.loc h2
  have q : (match getE ρ i with
      | some (.val d) => ra ρ N.er fun a ρ1 => augD o d a.d fun z => c.pm.contains i = false ∧ N.nx (ρ1.set i (some (.val z)))
      | _ => False) := q
  cases e : getE ρ i with
  | none => rw [e] at q; exact q.elim
  | some b =>
    rw [e] at q
    cases b with
    | own => exact q.elim
    | val d =>
      obtain ⟨v0, e0, r0⟩ := sm.slot i _ e
      refine sS_of (ps_aug (nodX g) (g.slot (chkV_of h1).1) l1 pe_s ip_s l2) ⟨v0, e0, ha.v hp ev sm ok.er q fun w H1 b1 ρ1 F1 s1 m1 r1 q1 => ?_⟩
      exact sIp_of q1 (RepD.mono s1 _ _ r0) r1 fun z w' rz ⟨k1, k2⟩ => ok.nx _ _ F1 H1 (m1.storeA (b := .val z) rz (by rw [hp]; exact k1)) (evNone (g.ev hcm)) k2
theorem pget_list : PGet X (rIxL X.K) := by
  intro pins s σ H x y v u Q I rx ry ⟨p, xs, i, z, ex, ey, hq, he, q⟩
  subst ex ey
  obtain rfl : v = Value.ref p := rx
  obtain ⟨t, rfl⟩ := ry
  obtain ⟨its, r, pl, hz⟩ := I.list hq
  obtain ⟨j, a1, a2, a3, a4, a5⟩ := atI_get he
  obtain ⟨w, ew, rw'⟩ := r.get a2
  have hl := r.length
  have hn := line63
  have fin : EP X pins σ Q w s := ⟨z, H, I, rw', q⟩
  by_cases h0 : 0 ≤ i
  · have hj : i.toNat = j := by
      rw [seqIndex_of h0 a5] at a1
      exact Option.some.inj a1
    exact wpAny_getItem_list pl.isList h0 (by omega) (by rw [hj]; simpa using ew) fin
  · have hj : (i + (its.toArray.size : Int)).toNat = j := by
      rw [seqIndex_neg (by omega) a4] at a1
      rw [List.size_toArray, ← hl]
      exact Option.some.inj a1
    exact wpAny_getItem_list_neg pl.isList (by omega) (by rw [List.size_toArray] <;> omega) (by omega) (by rw [hj]; simpa using ew) fin
theorem ss_aix (g : Good X c W cls G sub) {s : Nat} {o : Op} {x : Str} {r v : Expr} {px ps' pos : Pos} {ra ri : Env → Er → (B → Env → Prop) → Prop} (h1 : notSlice r = true) (h3 : chkV c s x = true) (hi : SE cls sub cur X c W r ri) (ha : SE cls sub cur X c W v ra) :
    SS cls sub cur X c W (.AugAssign (.Subscript (.Name x px) r ps') (opOf o) v pos) (fun ρ N => isSet (getE ρ s) = true ∧ ri ρ N.er fun y ρ1 => match getE ρ1 s with
      | some (.own xs) => (match y.d with
        | .int k => ∃ d, atI xs k = some d ∧ ra ρ1 N.er fun a ρ2 => augD o d a.d fun z => (match getE ρ2 s with
          | some (.own ys) => ∃ j, ixN ys.length k = some j ∧ N.nx (ρ2.set s (some (.own (ys.set j z))))
          | _ => False)
        | _ => False)
      | _ => False) := fun T σ ρ F H N D hp ev sm ok ⟨q0, q⟩ => by
  obtain ⟨b0, e0⟩ : ∃ b0, getE ρ s = some b0 := by
    cases e : getE ρ s with
    | none => rw [e] at q0; cases q0
    | some b => exact ⟨b, rfl⟩
  obtain ⟨v0, ev0, _⟩ := sm.slot s _ e0
  refine sS_of (ps_augS (g.var h3) pe_s pget_list pe_s ip_s set_list (by intros; cases r <;> first | rfl | exact absurd h1 Bool.false_ne_true)) ⟨v0, ev0, hi.v hp ev sm ok.er q fun u H1 b1 ρ1 F1 s1 m1 r1 q1 => ?_⟩
  obtain ⟨xs, e1, q1⟩ := own_of q1
  obtain ⟨a, us, ea, oa, k1, k2, k3⟩ := m1.own e1
  rw [ev0] at ea; cases ea
  generalize b1.d = y at r1 q1
  cases y with
  | int k =>
    cases r1
    obtain ⟨d, ed, q1⟩ := q1
    obtain ⟨z, ez, rz⟩ := atI_rep k3 ed
    refine ⟨a, us, k, z, rfl, rfl, SqL.of k2, ez, ha.v hp ev m1 ok.er q1 fun w H2 b2 ρ2 F2 s2 m2 r2 q2 => ?_⟩
    refine sIp_of q2 (RepD.mono s2 _ _ rz) r2 fun z' w' rz' kz => ?_
    obtain ⟨ys, e2, j, ej, kn⟩ := own_of kz
    obtain ⟨a2, us2, ea2, oa2, k4, k5, k6⟩ := m2.own e2
    rw [ev0] at ea2; cases ea2
    exact ⟨a, us2, k, j, rfl, rfl, k5, by rw [← k6.len]; exact ej, ok.nx _ _ F2 _ (m2.write oa2 (RepL.set rz' j k6)) ev kn⟩
  | _ => exact q1.elim
theorem ss_app (g : Good X c W cls G sub) {s : Nat} {x : Str} {v : Expr} {px apos cpos pos : Pos} {ra : Env → Er → (B → Env → Prop) → Prop} (h1 : chkV c s x = true) (h2 : notStar v = true) (h3 : (apos.endLine == cpos.line) = true) (ha : SE cls sub cur X c W v ra) :
    SS cls sub cur X c W (.Expr (.Call (.Attribute (.Name x px) ("append" : Str) apos) [v] [] cpos) pos) (fun ρ N => isOwn (getE ρ s) = true ∧ ra ρ N.er fun a ρ1 => match getE ρ1 s with
      | some (.own xs) => xs.length < LINE ∧ N.nx (ρ1.set s (some (.own (xs ++ [a.d]))))
      | _ => False) := fun T σ ρ F H N D hp ev sm ok ⟨q0, q⟩ => by
  obtain ⟨ys, e0⟩ := isOwn_of q0
  obtain ⟨a, us, ea, oa, k1, k2, k3⟩ := sm.own e0
  have hes : starEach [v] X.env = (false, eval v X.env) :: starEach [] X.env := starEach_ns h2
  refine sS_of (ps_expr (pe_bm PySem.F.plainAttrs_list PySem.F.slot_list_append PySem.F.type_list_append mt_append (g.var h1) (pa_cons pe_s pa_nil hes) rfl (by rw [hes]; rfl) h3 hes rfl) rfl) ⟨_, ea, .inl ⟨rfl, us, SqL.of k2⟩, ha.v hp ev sm ok.er q fun w H1 b1 ρ1 F1 s1 m1 r1 q1 => ?_⟩
  obtain ⟨xs, e1, l1, q1⟩ := own_of q1
  obtain ⟨a2, us2, ea2, oa2, k4, k5, k6⟩ := m1.own e1
  rw [ea] at ea2; cases ea2
  exact ⟨a, us2, w, rfl, rfl, k5, by rw [← k6.len, ← lineEq]; exact l1, ok.nx _ _ F1 _ (m1.write oa2 (k6.append (RepL.one r1))) ev q1⟩
theorem ss_ext (g : Good X c W cls G sub) {s : Nat} {x : Str} {v : Expr} {px apos cpos pos : Pos} {ra : Env → Er → (B → Env → Prop) → Prop} (h1 : chkV c s x = true) (h2 : notStar v = true) (h3 : (apos.endLine == cpos.line) = true) (ha : SE cls sub cur X c W v ra) :
    SS cls sub cur X c W (.Expr (.Call (.Attribute (.Name x px) ("extend" : Str) apos) [v] [] cpos) pos) (fun ρ N => isOwn (getE ρ s) = true ∧ ra ρ N.er fun a ρ1 => match getE ρ1 s with
      | some (.own xs) => (match a.d with
        | .lst ys => xs.length + ys.length ≤ LINE ∧ N.nx (ρ1.set s (some (.own (xs ++ ys))))
        | _ => False)
      | _ => False) := fun T σ ρ F H N D hp ev sm ok ⟨q0, q⟩ => by
  obtain ⟨ys, e0⟩ := isOwn_of q0
  obtain ⟨a, us, ea, oa, k1, k2, k3⟩ := sm.own e0
  have hes : starEach [v] X.env = (false, eval v X.env) :: starEach [] X.env := starEach_ns h2
  refine sS_of (ps_expr (pe_bm PySem.F.plainAttrs_list PySem.F.slot_list_extend PySem.F.type_list_extend mt_extend (g.var h1) (pa_cons pe_s pa_nil hes) rfl (by rw [hes]; rfl) h3 hes rfl) rfl) ⟨_, ea, .inl ⟨rfl, us, SqL.of k2⟩, ha.v hp ev sm ok.er q fun w H1 b1 ρ1 F1 s1 m1 r1 q1 => ?_⟩
  obtain ⟨xs, e1, q1⟩ := own_of q1
  obtain ⟨a2, us2, ea2, oa2, k4, k5, k6⟩ := m1.own e1
  rw [ea] at ea2; cases ea2
  generalize b1.d = d at r1 q1
  cases d with
  | lst zs =>
    obtain ⟨b, ws, rfl, hb, rb⟩ := r1
    exact ⟨a, b, us2, ws, rfl, rfl, k5, m1.fh _ _ hb, by rw [← k6.len, ← rb.len]; exact leLine q1.1, ok.nx _ _ F1 _ (m1.write oa2 (k6.append rb)) ev q1.2⟩
  | _ => exact q1.elim
theorem ss_ret {v : Expr} {pos : Pos} {ra : Env → Er → (B → Env → Prop) → Prop} (ha : SE cls sub cur X c W v ra) : SS cls sub cur X c W (.Return (some v) pos) (fun ρ N => ra ρ N.er N.rt) := fun T σ ρ F H N D hp ev sm ok q =>
  sS_of (ps_ret pe_s) (sE_mono (ha T σ ρ F H N.er _ hp ev sm ok.er q) fun w H1 ⟨b, ρ1, F1, s1, m1, r1, q1⟩ => ok.rt σ ρ1 F1 H1 w b m1 r1 q1)
theorem ss_retn {pos : Pos} : SS cls sub cur X c W (.Return none pos) (fun ρ N => N.rt (.val .non) ρ) := fun T σ ρ F H N D hp ev sm ok q => sS_of ps_retN (ok.rt σ ρ F H .non (.val .non) sm rfl q)
theorem Sim.drop {T : Fr} {ρ : Env} {σ : St} {F H : Hp} (s : Sim T ρ σ F H) {i : Nat} (hp : (T.P.map (·.1)).contains i = false) : Sim T (ρ.set i none) σ F H := by
  have gt : ∀ {j b}, getE (ρ.set i none) j = some b → j ≠ i ∧ getE ρ j = some b := fun {j b} e => by
    rw [getE_set] at e
    split at e
    · cases e
    · rename_i hn
      by_cases hj : i = j
      · subst hj
        have := getE_lt e
        exact absurd ⟨rfl, this⟩ hn
      · exact ⟨fun z => hj z.symm, e⟩
  have ow : ∀ {j a}, Own (ρ.set i none) σ j a → Own ρ σ j a := fun {j a} ⟨⟨xs, e1⟩, e2⟩ => ⟨⟨xs, (gt e1).2⟩, e2⟩
  exact {
    ff := s.ff
    fh := s.fh
    grow := s.grow
    keep := s.keep
    len := by rw [List.length_set]; exact s.len
    slot := fun j b e => s.slot j b (gt e).2
    dist := fun j k a oj ok => s.dist j k a (ow oj) (ow ok)
    fresh := fun j a oj => s.fresh j a (ow oj)
    par := fun p hp' => by
      obtain ⟨⟨⟨xs, e1⟩, e2⟩, k⟩ := s.par p hp'
      have hne : p.1 ≠ i := fun z => by
        have : (T.P.map (·.1)).contains i = true := by
          rw [List.contains_iff_mem]
          exact List.mem_map.mpr ⟨p, hp', z⟩
        rw [hp] at this; cases this
      exact ⟨⟨⟨xs, by rw [getE_set, if_neg (fun z => hne z.1.symm)]; exact e1⟩, e2⟩, k⟩
    pins := fun p hp' => by
      obtain ⟨k1, k2, k3⟩ := s.pins p hp'
      exact ⟨k1, k2, fun j oj => k3 j (ow oj)⟩ }
theorem ss_reto (g : Good X c W cls G sub) {s : Nat} {x : Str} {px pos : Pos} (h : chkV c s x = true) : SS cls sub cur X c W (.Return (some (.Name x px)) pos) (rdS ⟨G, c.pm, cur, sub⟩ (.reto s)) := fun T σ ρ F H N D hp ev sm ok q => by
  have q : (match getE ρ s with
    | some (.own xs) => c.pm.contains s = false ∧ N.rt (.own xs) (ρ.set s none)
    | _ => False) := q
  obtain ⟨xs, e, q1, q2⟩ := own_of q
  obtain ⟨a, us, ea, oa, k1, k2, k3⟩ := sm.own e
  have hpc : (T.P.map (·.1)).contains s = false := by rw [hp]; exact q1
  have nown : ∀ i, ¬ Own (ρ.set s none) σ i a := fun i ⟨⟨ys, e1⟩, e2⟩ => by
    rw [getE_set] at e1
    split at e1
    · cases e1
    · rename_i hn
      have hi : s = i := sm.dist s i a oa ⟨⟨ys, e1⟩, e2⟩
      subst hi
      exact hn ⟨rfl, getE_lt e1⟩
  have h0 : T.H0 a = none := by
    rcases sm.fresh s a oa with z | z
    · exact z
    · have : (T.P.map (·.1)).contains s = true := by
        rw [List.contains_iff_mem]
        exact List.mem_map.mpr ⟨_, z, rfl⟩
      rw [hpc] at this; cases this
  refine sS_of (ps_ret (g.var h)) ⟨_, ea, ok.rt σ _ F H _ (.own xs) (sm.drop hpc) ⟨a, us, rfl, k1, k2, k3, h0, nown, fun p hp' z => ?_⟩ q2⟩
  exact (sm.pins p hp').2.2 s (z ▸ oa)
theorem ss_brk {pos : Pos} : SS cls sub cur X c W (.Break pos) (fun ρ N => N.bk ρ) := fun T σ ρ F H N D hp ev sm ok q => sS_of ps_break (ok.bk σ ρ F H sm ev q)
theorem ss_con {pos : Pos} : SS cls sub cur X c W (.Continue pos) (fun ρ N => N.ct ρ) := fun T σ ρ F H N D hp ev sm ok q => sS_of ps_continue (ok.ct σ ρ F H sm ev q)
theorem ss_pas {pos : Pos} : SS cls sub cur X c W (.Pass pos) (fun ρ N => N.nx ρ) := fun T σ ρ F H N D hp ev sm ok q => sS_of ps_pass (ok.nx σ ρ F H sm ev q)
theorem ss_exp {v : Expr} {pos : Pos} {ra : Env → Er → (B → Env → Prop) → Prop} (h : notComp v = true) (ha : SE cls sub cur X c W v ra) : SS cls sub cur X c W (.Expr v pos) (fun ρ N => ra ρ N.er fun _ ρ1 => N.nx ρ1) := fun T σ ρ F H N D hp ev sm ok q => by
  have hs : swapsWith v none pos.line X.env = pure false := by cases v <;> first | rfl | (unfold notComp at h; cases h)
  exact sS_of (ps_expr pe_s hs) (sE_mono (ha T σ ρ F H N.er _ hp ev sm ok.er q) fun w H1 ⟨b, ρ1, F1, s1, m1, r1, q1⟩ => ok.nx σ ρ1 F1 H1 m1 ev q1)
theorem ss_ife {u : Expr} {x y : List Stmt} {pos : Pos} {rt : Env → Er → (Bool → Env → Prop) → Prop} {ra rb : Env → Dn → Prop} (ht : ST cls sub cur X c W u rt) (ha : SSs cls sub cur X c W x ra) (hb : SSs cls sub cur X c W y rb) :
    SS cls sub cur X c W (.If u x y pos) (fun ρ N => rt ρ N.er fun k ρ1 => br k (ra ρ1 N) (rb ρ1 N)) := fun T σ ρ F H N D hp ev sm ok q =>
  sS_of (ps_if pt_s pss_s pss_s) (sT_mono (ht T σ ρ F H N.er _ hp ev sm ok.er q) fun k H1 ⟨ρ1, F1, s1, m1, q1⟩ => by
    cases k with
    | true =>
      rw [if_pos rfl]
      exact ha T σ ρ1 F1 H1 N D hp ev m1 ok q1
    | false =>
      rw [if_neg Bool.false_ne_true]
      exact hb T σ ρ1 F1 H1 N D hp ev m1 ok q1)
theorem sss_nil : SSs cls sub cur X c W [] (fun ρ N => N.nx ρ) := fun T σ ρ F H N D hp ev sm ok q => sSs_of pss_nil (ok.nx σ ρ F H sm ev q)
theorem sss_cons {x : Stmt} {xs : List Stmt} {ra rb : Env → Dn → Prop} (ha : SS cls sub cur X c W x ra) (hb : SSs cls sub cur X c W xs rb) : SSs cls sub cur X c W (x :: xs) (fun ρ N => ra ρ ⟨fun ρ1 => rb ρ1 N, N.rt, N.bk, N.ct, N.er⟩) := fun T σ ρ F H N D hp ev sm ok q =>
  sSs_of (pss_cons ps_s pss_s) (ha T σ ρ F H ⟨fun ρ1 => rb ρ1 N, N.rt, N.bk, N.ct, N.er⟩ _ hp ev sm ⟨fun σ' ρ' F' H' m' e' q' => hb T σ' ρ' F' H' N D hp e' m' ok q', ok.rt, ok.bk, ok.ct, ok.er⟩ q)
end
end
end DV
end
section
set_option Elab.async false
set_option maxRecDepth 100000
set_option linter.all false
/-! DV13: loops, raise, try. -/
namespace DV
open PySem PySem.Spec PyProof.Rows L2

section
variable {cls : Nat → Addr} {G : Nat → DSp} {sub : Nat → Nat → Option Bool} {cur : Option Nat} {X : Cx} {c : Cc} {W : WX}
/-- a list comprehension's parts -/
theorem lc_parts (g : Good X c W cls G sub) {it : Iu} {p : Pat} {t : T} {e : E} {vs : List Nat} {elt tg iter : Expr} {ifs : List Expr} {asy : Int} {scope : Scope} {pos : Pos}
    (h : chkE c (.lc it p t e vs) (.ListComp elt [⟨tg, iter, ifs, asy⟩] scope pos) = true) : asy = 0 ∧ c.cm = true ∧ ∃ own : List (Str × Nat),
    ∀ (T : Fr) (σ : St) (ρ : Env) (F H : Hp) (er : Er) (Q : B → Env → Prop), T.P.map (·.1) = c.pm → EvOk X c cls sub cur σ → Sim T ρ σ F H → ErOk T W cls er → rdE ⟨G, c.pm, cur, sub⟩ (.lc it p t e vs) ρ er Q →
      ∃ (wi : TI) (gt : TG) (tt : TT) (te : TE), PI X tg iter wi ∧ BlkOk X.N X.env.scope scope own ∧
        (∀ (s : Shared) (H : Hp) (C : Addr) (cl : List (Str × Addr)) (fp : List Addr), PG (X.blk s H scope (compEnvC scope cl C X.env) fp) tg gt) ∧ (∀ (s : Shared) (H : Hp) (C : Addr) (cl : List (Str × Addr)) (fp : List Addr), PTs (X.blk s H scope (compEnvC scope cl C X.env) fp) ifs tt) ∧
        (∀ (s : Shared) (H : Hp) (C : Addr) (cl : List (Str × Addr)) (fp : List Addr), PE (X.blk s H scope (compEnvC scope cl C X.env) fp) elt te) ∧ (∀ x, foldedSetIterable iter X.env x = pure x) ∧
        ∀ Q' : VK, (∀ v H', PO' T σ F Q v H' → Q' v H') → tLc wi gt tt te (own.map (·.2)) σ H Q' := by
  have h : (c.cm && decide (asy = 0) && vs.all (fun v => !c.pm.contains v) && blkC c.N c.sc scope (vs.map fun v => (c.N.getD v "", v)) && notSet iter && chkI c it iter tg &&
    chkP { c with sc := relS scope c.sc, fn := fun x => scope.names.lookup x == some .cell } (some vs) p tg &&
    (match (generalizing := false) ifs with
      | [] => (match (generalizing := false) t with | .yes => true | _ => false)
      | [x] => chkT { c with sc := relS scope c.sc, fn := fun x => scope.names.lookup x == some .cell } t x
      | _ => false) &&
    chkE { c with sc := relS scope c.sc, fn := fun x => scope.names.lookup x == some .cell } e elt) = true := h
  simp only [Bool.and_eq_true, decide_eq_true_eq] at h
  obtain ⟨⟨⟨⟨⟨⟨⟨⟨h1, rfl⟩, h3⟩, h4⟩, h5⟩, h6⟩, h7⟩, h8⟩, h9⟩ := h
  have hkd := (blkOk_by h4).kind
  have hN : X.N.Nodup := by rw [g.hN]; exact g.nd
  refine ⟨rfl, h1, (vs.map fun v => (c.N.getD v "", v)), fun T σ ρ F H er Q hp ev sm eo q => ?_⟩
  exact se_lc g h1 h4 h5 (snd_I it cur X c W tg iter g h6) h7 (ifs := ifs) (rt := rdT ⟨G, c.pm, cur, sub⟩ t)
    (fun s H C cl fp => by
      match ifs, h8 with
      | [], h8 =>
        refine .inr ⟨rfl, fun ρ er Q q => ?_⟩
        cases t
        case yes => exact q
        all_goals exact absurd h8 Bool.false_ne_true
      | [u], h8 => exact .inl ⟨u, rfl, snd_T t cur _ _ _ u (good_blk g h1 hkd s H C cl fp) h8⟩
      | _ :: _ :: _, h8 => exact absurd h8 Bool.false_ne_true)
    (fun s H C cl fp => snd_E e cur _ _ _ elt (good_blk g h1 hkd s H C cl fp) h9)
    (fun v hv hm => by
      have := List.all_eq_true.mp h3 v hv
      rw [List.contains_iff_mem.mpr hm] at this
      cases this) T σ ρ F H er Q hp ev sm eo q
theorem ss_setLc (g : Good X c W cls G sub) {i : Nat} {x : Str} {e : E} {elt : Expr} {gs : List Comprehension} {scope : Scope} {px pos spos : Pos} (h1 : c.N[i]? = some x) (h2 : locB c x = true) (h3 : c.ev ≠ some i) (h : chkE c e (.ListComp elt gs scope pos) = true) :
    SS cls sub cur X c W (.Assign [.Name x px] (.ListComp elt gs scope pos) spos) (fun ρ N => rdE ⟨G, c.pm, cur, sub⟩ e ρ N.er fun b ρ1 => c.pm.contains i = false ∧ N.nx (ρ1.set i (some b))) := fun T σ ρ F H N D hp ev sm ok q => by
  obtain ⟨l1, l2⟩ := g.loc h2
  have kd : X.env.scope.kind = .function := by rw [g.sc]; exact g.kd
  have hN : X.N.Nodup := nodX g
  cases hsw : (decide (X.env.scope.names.lookup x = some .local) && (px.line == pos.line) && !(scope.names.any fun (n, k) => n == x && (k == .local || k == .cell))) with
  | false =>
    refine sS_of (ps_set hN (g.slot h1) l1 pe_s (sw_false kd hsw) l2) (sE_mono (snd_E e cur X c W _ g h T σ ρ F H N.er _ hp ev sm ok.er q) fun w H1 ⟨b, ρ1, F1, s1, m1, r1, q1, q2⟩ => ?_)
    exact ok.nx _ _ F1 H1 (m1.storeA r1 (by rw [hp]; exact q1)) (ev_set ev h3) q2
  | true =>
    simp only [Bool.and_eq_true, decide_eq_true_eq, Bool.not_eq_true'] at hsw
    cases e
    case lc it p t e vs =>
      match gs, h with
      | [⟨tg, iter, ifs, asy⟩], h =>
        obtain ⟨rfl, hcm, own, k⟩ := lc_parts (cur := cur) g h
        obtain ⟨wi, gt, tt, te, a1, a2, a3, a4, a5, a6, a7⟩ := k T σ ρ F H N.er _ hp ev sm ok.er q
        refine sS_of (ps_setLc (g.calm hcm) hN (g.slot h1) hsw.1.1 (sw_true kd hsw.1.1 hsw.1.2 hsw.2) a1 a2 a3 a4 a5 a6) (a7 _ fun w H1 ⟨b, ρ1, F1, s1, m1, r1, q1, q2⟩ => ?_)
        exact ok.nx _ _ F1 H1 (m1.storeA r1 (by rw [hp]; exact q1)) (ev_set ev h3) q2
    all_goals exact absurd h Bool.false_ne_true
theorem DOk.loop {T : Fr} {N : Dn} {D : Ends} (ok : DOk T X c cls sub cur W N D) {nx' : Env → Prop} {NX : St → Hp → Prop} (hn : ∀ σ ρ F H, Sim T ρ σ F H → EvOk X c cls sub cur σ → nx' ρ → NX σ H) : DOk T X c cls sub cur W ⟨nx', N.rt, N.nx, nx', N.er⟩ { D with nx := NX, ct := NX, bk := D.nx } :=
  ⟨hn, ok.rt, ok.nx, hn, ok.er⟩
theorem ErOk.root {T : Fr} {er : Er} (eo : ErOk T W cls er) {ρ : Env} {σ : St} {F1 H1 : Hp} (m1 : Sim T ρ σ F1 H1) : ErOk { T with F0 := F1 } W cls er := fun σ' c' ρ' F' H' m' e' => eo σ' c' ρ' F' H' (m1.unroot m') e'
theorem DOk.root {T : Fr} {N : Dn} {D : Ends} (ok : DOk T X c cls sub cur W N D) {ρ : Env} {σ : St} {F1 H1 : Hp} (m1 : Sim T ρ σ F1 H1) : DOk { T with F0 := F1 } X c cls sub cur W N D where
  nx := fun σ' ρ' F' H' m' e' q' => ok.nx σ' ρ' F' H' (m1.unroot m') e' q'
  rt := fun σ' ρ' F' H' v b m' r' q' => ok.rt σ' ρ' F' H' v b (m1.unroot m') (by cases b <;> exact r') q'
  bk := fun σ' ρ' F' H' m' e' q' => ok.bk σ' ρ' F' H' (m1.unroot m') e' q'
  ct := fun σ' ρ' F' H' m' e' q' => ok.ct σ' ρ' F' H' (m1.unroot m') e' q'
  er := ok.er.root m1
theorem ss_for (g : Good X c W cls G sub) (hcm : c.cm = true) {p : Pat} {tg iter : Expr} {body : List Stmt} {pos : Pos} {ri : Env → Er → (List D → Env → Prop) → Prop} {rb : Env → Dn → Prop} (hs : notSet iter = true) (hi : SI cls sub cur X c W tg iter ri) (hpat : chkP c none p tg = true)
    (hb : SSs cls sub cur X c W body rb) : SS cls sub cur X c W (.For tg iter body [] pos) (fun ρ N => ri ρ N.er fun items ρ1 =>
      forLoop (fun x ρ nx => rdP ⟨G, c.pm, cur, sub⟩ p x ρ fun ρ2 => rb ρ2 ⟨nx, N.rt, N.nx, nx, N.er⟩) items ρ1 N.nx) := fun T σ ρ F H N D hp ev sm ok q => by
  have hfold : ∀ x, foldedSetIterable iter X.env x = pure x := by
    intro x
    cases iter <;> first | rfl | (unfold notSet at hs; cases hs)
  refine sS_of (ps_for g.own (g.calm hcm) pi_s pg_s pss_s hfold) ?_
  refine hi T σ ρ F H N.er _ _ hp ev sm ok.er q fun J H1 items ρ1 F1 s1 m1 wk hloop => ?_
  let f : DV.D → Env → (Env → Prop) → Prop := fun x ρ nx => rdP ⟨G, c.pm, cur, sub⟩ p x ρ fun ρ2 => rb ρ2 ⟨nx, N.rt, N.nx, nx, N.er⟩
  have evb : ∀ {σ'}, EvOk X c cls sub cur σ' := fun {σ'} => evNone (g.ev hcm)
  have ok1 := ok.root m1
  refine ⟨fun i m σ H => ∃ ρ F, Sim { T with F0 := F1 } ρ σ F H ∧ i ≤ items.length ∧ m = items.length - i ∧ forLoop f (items.drop i) ρ N.nx, ⟨items.length, ρ1, F1, m1.root, Nat.zero_le _, by simp, hloop⟩, ?_⟩
  rintro i m σ2 H2 ⟨ρ2, F2, m2, hi', rfl, hl2⟩
  obtain ⟨w1, w2⟩ := wk i F2 H2 m2.ff m2.fh
  by_cases hlt : i < items.length
  · obtain ⟨hgo, hyl⟩ := w1 hlt
    refine .inr ⟨hgo, fun σ' H' => ∃ ρ F, Sim { T with F0 := F1 } ρ σ' F H' ∧ forLoop f (items.drop (i + 1)) ρ N.nx, fun σ' H' ⟨ρ', F', a1, a2⟩ => ⟨items.length - (i + 1), by omega, ρ', F', a1, hlt, rfl, a2⟩, fun x H3 hy => ?_⟩
    obtain ⟨d, ed, gv⟩ := hyl x H3 hy
    obtain ⟨F3, s3, m3, r3⟩ := gv.post m2
    have r3 : RepD F3 d x := r3
    have hdrop : items.drop i = d :: items.drop (i + 1) := by
      rw [List.drop_eq_getElem_cons hlt]
      rw [List.getElem?_eq_getElem hlt] at ed
      cases ed; rfl
    rw [hdrop] at hl2
    have hl2 : f d ρ2 fun ρ1 => forLoop f (items.drop (i + 1)) ρ1 N.nx := hl2
    refine sG_mono (snd_P g none p tg hpat { T with F0 := F1 } σ2 ρ2 F3 H3 d x _ hp m3 r3 hl2) fun σ4 H4 ⟨ρ4, m4, q4, o4⟩ => ?_
    exact hb { T with F0 := F1 } σ4 ρ4 F3 H4 _ _ hp evb m4 (ok1.loop fun σ5 ρ5 F5 H5 m5 _ q5 => ⟨ρ5, F5, m5, q5⟩) q4
  · have hi2 : i = items.length := by omega
    subst hi2
    rw [List.drop_length] at hl2
    exact .inl ⟨w2 (Nat.le_refl _), ok1.nx σ2 ρ2 F2 H2 m2 evb hl2⟩
theorem ss_whi (g : Good X c W cls G sub) {u : Expr} {body : List Stmt} {pos : Pos} {rt : Env → Er → (Bool → Env → Prop) → Prop} {rb : Env → Dn → Prop} (ht : ST cls sub cur X c W u rt) (hb : SSs cls sub cur X c W body rb) :
    SS cls sub cur X c W (.While u body [] pos) (fun ρ N => ∃ W : Nat → Env → Prop, (∃ m, W m ρ) ∧ ∀ m ρ, W m ρ → rt ρ N.er fun k ρ1 =>
      br k (rb ρ1 ⟨fun ρ2 => ∃ m', m' < m ∧ W m' ρ2, N.rt, N.nx, fun ρ2 => ∃ m', m' < m ∧ W m' ρ2, N.er⟩) (N.nx ρ1)) := fun T σ ρ F H N D hp ev sm ok ⟨V, ⟨m0, v0⟩, turn⟩ => by
  refine sS_of (ps_while g.own pt_s pss_s) ⟨fun m σ' H' => ∃ ρ' F', EvOk X c cls sub cur σ' ∧ Sim T ρ' σ' F' H' ∧ V m ρ', ⟨m0, ρ, F, ev, sm, v0⟩, ?_⟩
  rintro m σ1 H1 ⟨ρ1, F1, ev1, m1, v1⟩
  refine sT_mono (ht T σ1 ρ1 F1 H1 N.er _ hp ev1 m1 ok.er (turn m ρ1 v1)) fun k H2 ⟨ρ2, F2, s2, m2, q2⟩ => ?_
  cases k with
  | false =>
    rw [if_neg Bool.false_ne_true]
    exact ok.nx _ _ _ _ m2 ev1 q2
  | true =>
    rw [if_pos rfl]
    refine ⟨fun σ' H' => ∃ m', m' < m ∧ ∃ ρ' F', EvOk X c cls sub cur σ' ∧ Sim T ρ' σ' F' H' ∧ V m' ρ', fun σ' H' h => h, ?_⟩
    exact hb T σ1 ρ2 F2 H2 _ _ hp ev1 m2 (ok.loop fun σ5 ρ5 F5 H5 m5 e5 ⟨m', hm, q5⟩ => ⟨m', hm, ρ5, F5, e5, m5, q5⟩) q2
end
end DV
end
section
set_option Elab.async false
set_option maxRecDepth 100000
set_option linter.all false
/-! DV14: raise, try, swaps of two items. -/
namespace DV
open PySem PySem.Spec PyProof.Rows L2

section
variable {cls : Nat → Addr} {G : Nat → DSp} {sub : Nat → Nat → Option Bool} {cur : Option Nat} {X : Cx} {c : Cc} {W : WX}
theorem pmk_0 {C : Addr} {nm x : Str} {p pos : Pos} (o : XOk X.K X.mg C x) (hg : Gl X x) (hdb : (x == ("__debug__" : Str)) = false) : PMk X (.Call (.Name x p) [] [] pos) (fun σ H Q => Q (.ref C) none H) := by
  intro pins s σ H Q I h
  refine wpAny_Call_Name_kw (ld_glob I hg o.g ?_ hdb)
  refine PySem.W.callWith_K0 I.kIn o.k ?_
  obtain ⟨bm, N, nm, qn, bs, hdct, sn, sub, ab, col, dd, k0, k1, k2, k3, k5, mN, hC, hN, hni, T⟩ := exc_obj I.kIn o.x
  refine wpAny_call_exc_subT PySem.F.excBase_ValueError T hC hN hni (fun h' e hm => ?_) (Nat.zero_le _)
  exact mk_of I hm (raises_own o.b o.t) h (I.hok.gone hm.new)
theorem ss_rai (g : Good X c W cls G sub) (hcm : c.cm = true) {k : Nat} {x : Str} {px p pos : Pos} (h1 : c.exc[k]? = some x) (h2 : glB c.sc x = true) : SS cls sub cur X c W (.Raise (some (.Call (.Name x px) [] [] p)) none pos) (fun ρ N => N.er k ρ) := fun T σ ρ F H N D hp ev sm ok q => by
  obtain ⟨n1, n2⟩ := glB_of h2
  exact sS_of (ps_raise (g.calm hcm) g.tk (pmk_0 (nm := x) (g.st.excs k x h1) (g.gl n1) (nod_of n2).1)) (ok.er σ k ρ F H sm q)
theorem sg_six (g : Good X c W cls G sub) {s : Nat} {x : Str} {r : Expr} {px ps' : Pos} {ri : Env → Er → (B → Env → Prop) → Prop} (h1 : notSlice r = true) (h3 : chkV c s x = true) (hi : SE cls sub cur X c W r ri) {T : Fr} {σ : St} {ρ : Env} {F H : Hp} {er : Er} {d : DV.D} {v : V} {Q : Env → Prop}
    (hp : T.P.map (·.1) = c.pm) (ev : EvOk X c cls sub cur σ) (sm : Sim T ρ σ F H) (eo : ErOk T W cls er) (rv : RepD F d v) (q : setD ri s d ρ er Q) : sG X (.Subscript (.Name x px) r ps') v σ H fun σ' H' => σ' = σ ∧ ∃ ρ' F', Same F F' ∧ Sim T ρ' σ' F' H' ∧ Q ρ' := by
  obtain ⟨q0, q1⟩ := q
  have hasg : ∀ u, assign (.Subscript (.Name x px) r ps') X.env u = (do
      let ov ← holding [u] (eval (.Name x px) X.env)
      let iv ← holding [u, ov] (eval r X.env)
      standAt ps'
      holding [u, ov, iv] (setItem ov iv u)
      release [u, ov, iv] []) := by
    intro u
    cases r <;> first | rfl | (unfold notSlice at h1; cases h1)
  obtain ⟨b0, e0⟩ : ∃ b0, getE ρ s = some b0 := by
    cases e : getE ρ s with
    | none => rw [e] at q0; cases q0
    | some b => exact ⟨b, rfl⟩
  obtain ⟨v0, ev0, _⟩ := sm.slot s _ e0
  refine sG_of (pg_sub (g.var h3) pe_s set_list hasg) ⟨v0, ev0, hi.v hp ev sm eo q1 fun u H2 b2 ρ2 F2 s2 m2 r2 q2 => ?_⟩
  obtain ⟨xs, e2, q2⟩ := own_of q2
  obtain ⟨a, us, ea, o, k1, k2, k3⟩ := m2.own e2
  rw [ev0] at ea; cases ea
  generalize b2.d = y at r2 q2
  cases y with
  | int k =>
    cases r2
    obtain ⟨j, ej, q2⟩ := q2
    exact ⟨a, us, k, j, rfl, rfl, k2, by rw [← k3.len]; exact ej, rfl, _, F2, s2, m2.write o (RepL.set (RepD.mono s2 _ _ rv) j k3), q2⟩
  | _ => exact q2.elim
theorem ss_swp (g : Good X c W cls G sub) (hcm : c.cm = true) {s : Nat} {i j k l : E} {x1 x2 x3 x4 : Str} {r1 r2 r3 r4 : Expr} {p1 p2 p3 p4 q1 q2 q3 q4 pt pu pos : Pos} {kt ku : Nat} (n1 : notSlice r1 = true) (n2 : notSlice r2 = true) (n3 : notSlice r3 = true) (n4 : notSlice r4 = true)
    (v1 : chkV c s x1 = true) (v2 : chkV c s x2 = true) (v3 : chkV c s x3 = true) (v4 : chkV c s x4 = true) (hi : chkE c i r1 = true) (hj : chkE c j r2 = true) (hk : chkE c k r3 = true) (hl : chkE c l r4 = true) :
    SS cls sub cur X c W (.Assign [.Tuple [.Subscript (.Name x1 p1) r1 q1, .Subscript (.Name x2 p2) r2 q2] kt pt] (.Tuple [.Subscript (.Name x3 p3) r3 q3, .Subscript (.Name x4 p4) r4 q4] ku pu) pos) (rdS ⟨G, c.pm, cur, sub⟩ (.swp s i j k l)) := fun T σ ρ F H N D hp ev sm ok q => by
  have q : (rdE ⟨G, c.pm, cur, sub⟩ (.ixo s k) ρ N.er fun x ρ1 => rdE ⟨G, c.pm, cur, sub⟩ (.ixo s l) ρ1 N.er fun y ρ2 =>
      setD (fun ρ er Q => rdE ⟨G, c.pm, cur, sub⟩ i ρ er Q) s x.d ρ2 N.er fun ρ3 => setD (fun ρ er Q => rdE ⟨G, c.pm, cur, sub⟩ j ρ er Q) s y.d ρ3 N.er N.nx) := q
  have hw : swappedStores [.Tuple [.Subscript (.Name x1 p1) r1 q1, .Subscript (.Name x2 p2) r2 q2] kt pt] (.Tuple [.Subscript (.Name x3 p3) r3 q3, .Subscript (.Name x4 p4) r4 q4] ku pu) X.env = pure none := by
    have bk : X.env.blockKind = .function := by unfold Env.blockKind; rw [g.sc, g.kd]; rfl
    unfold swappedStores
    simp only [bk]
    rfl
  have e3 : SE cls sub cur X c W (.Subscript (.Name x3 p3) r3 q3) (rdE ⟨G, c.pm, cur, sub⟩ (.ixo s k)) := snd_E (.ixo s k) cur X c W _ g (by show (notSlice r3 && chkV c s x3 && chkE c k r3) = true; rw [n3, v3, hk]; rfl)
  have e4 : SE cls sub cur X c W (.Subscript (.Name x4 p4) r4 q4) (rdE ⟨G, c.pm, cur, sub⟩ (.ixo s l)) := snd_E (.ixo s l) cur X c W _ g (by show (notSlice r4 && chkV c s x4 && chkE c l r4) = true; rw [n4, v4, hl]; rfl)
  refine sS_of (ps_asg (pe_tup pa_s) (pg_tup (g.calm hcm) (pgs_cons pg_s (pgs_cons pg_s pgs_nil))) rfl hw rfl) ?_
  refine sA_cons rfl (e3.v hp ev sm ok.er q fun a H1 b1 ρ1 F1 s1 m1 t1 q1 => ?_)
  refine sA_cons rfl (e4.v hp ev m1 ok.er q1 fun b H2 b2 ρ2 F2 s2 m2 t2 q2 => sA_nil ⟨by show 2 ≤ sizeLine; rw [sizeLine_eq]; omega, fun A hA => ?_⟩)
  have m3 := m2.newF (o := .tup [a, b]) hA
  have sm3 : Same F2 (upd F2 A (.tup [a, b])) := same_new (m2.fh.free hA)
  refine ⟨A, [a, b], rfl, SqT.of upd_same, rfl, a, [b], rfl, ?_⟩
  refine sG_mono (sg_six g n1 v1 (snd_E i cur X c W r1 g hi) hp ev m3 ok.er (RepD.mono (s2.trans sm3) _ _ t1) q2) fun σ4 H4 ⟨e4, ρ4, F4, s4, m4, q4⟩ => ?_
  subst e4
  refine ⟨b, [], rfl, sG_mono (sg_six g n2 v2 (snd_E j cur X c W r2 g hj) hp ev m4 ok.er (RepD.mono (sm3.trans s4) _ _ t2) q4) fun σ5 H5 ⟨e5, ρ5, F5, s5, m5, q5⟩ => ⟨rfl, ?_⟩⟩
  subst e5
  exact ok.nx _ _ F5 H5 m5 ev q5

/-! try -/
theorem Sim.setNone {T : Fr} {ρ : Env} {σ : St} {F H : Hp} (sm : Sim T ρ σ F H) {i : Nat} (h : getE ρ i = none) (w : Option V) : Sim T ρ (σ.set i w) F H := by
  have ne : ∀ {j b}, getE ρ j = some b → i ≠ j := fun {j b} e z => by rw [← z, h] at e; cases e
  have ow : ∀ {j a}, Own ρ (σ.set i w) j a ↔ Own ρ σ j a := fun {j a} => by
    constructor
    · rintro ⟨⟨xs, e1⟩, e2⟩
      rw [List.getElem?_set_ne (ne e1)] at e2
      exact ⟨⟨xs, e1⟩, e2⟩
    · rintro ⟨⟨xs, e1⟩, e2⟩
      exact ⟨⟨xs, e1⟩, by rw [List.getElem?_set_ne (ne e1)]; exact e2⟩
  exact {
    ff := sm.ff
    fh := sm.fh
    grow := sm.grow
    keep := sm.keep
    len := by rw [List.length_set]; exact sm.len
    slot := fun j b e => by rw [List.getElem?_set_ne (ne e)]; exact sm.slot j b e
    dist := fun j k a oj ok => sm.dist j k a (ow.mp oj) (ow.mp ok)
    fresh := fun j a oj => sm.fresh j a (ow.mp oj)
    par := fun p hp => by
      obtain ⟨q1, q2⟩ := sm.par p hp
      exact ⟨ow.mpr q1, q2⟩
    pins := fun p hp => by
      obtain ⟨k1, k2, k3⟩ := sm.pins p hp
      exact ⟨k1, k2, fun j oj => k3 j (ow.mp oj)⟩ }
abbrev wNo : WX := fun _ _ _ _ => False
theorem takesNo {X : Cx} : Takes X wNo := fun _ _ ⟨_, _, _, _, _, _, _, _, _, _, _, _, _, _, _, _, z⟩ => z.elim
/-- isinstance(e, (..)), e the exception that the suite holds -/
theorem call_isEs {X : Cx} {a C : Addr} {oe : Obj} {pn : List (Addr × Obj)} (E : ExcC X.K C) (hz : Zc (.ref C) none oe) (hf : ∃ vs, oe.data = .fields vs) {tp : Addr} {cvs : List Value} {b : Bool} (e : PySem.W.kitAny X.K (.ref C) cvs = some b) {us : List V} {H : Hp} {Q : VK} (ht : H tp = some (.tup us))
    (hv : ∀ ws, Vals us ws → ws = cvs) (q : Q (.bl b) H) : sCall (X.suite a ((a, oe) :: pn)) (.builtin "isinstance") [.ref a, .ref tp] H Q := by
  intro pins s σ ws I r
  cases r with
  | cons rx rr =>
    cases rr with
    | cons rt rr =>
      cases rr
      cases rx
      cases rt
      obtain ⟨its, rv, ⟨o, g1, g2, n, g3⟩, hsz⟩ := I.tuple (SqT.of ht)
      have ec := hv _ rv
      subst ec
      obtain ⟨hget, _⟩ := I.pin (a, oe) (List.mem_append.mpr (.inl List.mem_cons_self))
      obtain ⟨vs, hvs⟩ := hf
      have J : PySem.W.InstAt s.heap a oe C none := by
        obtain ⟨oc, od, oda, osl⟩ := oe
        obtain ⟨h1, h2⟩ := hz
        dsimp only at h1 h2 hvs
        subst h1 h2 hvs
        exact ⟨hget, rfl, rfl, trivial⟩
      obtain ⟨oc, od, oda, osl⟩ := o
      dsimp only at g2 g3
      subst g2 g3
      exact PySem.W.kia_tup (PySem.W.handS_kitx_exc E.hg E.hk E.hs E.hd E.ha E.hn E.ht E.hm) I.kIn J g1 e (fun z => nomatch z) fun tk => ⟨.bl b, H, I.kept (t' := tk) fun _ _ z => z, rfl, q⟩
theorem kitAny_of {K : PySem.W.Frag} {t : Value} {f : Nat → Option Bool} {cv : Nat → Value} (h : ∀ j b, f j = some b → PySem.W.kitOne K t (cv j) = some b) : ∀ {js : List Nat} {b : Bool}, anySub f js = some b → PySem.W.kitAny K t (js.map cv) = some b
  | [], _, e => e
  | j :: js, b, e => by
    unfold anySub at e
    rw [List.map_cons]
    unfold PySem.W.kitAny
    cases q : f j with
    | none => rw [q] at e; cases e
    | some k =>
      rw [q] at e
      rw [h j k q]
      cases k with
      | true => exact e
      | false => exact kitAny_of h e
theorem Good.tr (g : Good X c W cls G sub) {pn : List (Addr × Obj)} {xe : Value → Shared → Prop} {W' : WX} (tk : Takes (X.tr pn xe) W') (hx : PassesOwn (model X.prog X.w) X.A X.env xe) : Good (X.tr pn xe) c W' cls G sub :=
  ⟨g.st, g.hN, g.nd, g.sc, g.kd, g.fn, g.room, g.hu, g.calm, g.ev, tk, hx⟩
theorem Good.suite (g : Good X c W cls G sub) {a : Addr} {pn : List (Addr × Obj)} {s : Nat} : Good (X.suite a pn) { c with cm := false, ev := some s } wNo cls G sub :=
  ⟨⟨g.st.funs, g.st.excs, g.st.exm, g.st.kit, g.st.cons, g.st.blt⟩, g.hN, g.nd, g.sc, g.kd, g.fn, fun z => absurd z Bool.false_ne_true, g.hu, fun z => absurd z Bool.false_ne_true, fun z => absurd z Bool.false_ne_true, takesNo, PassesOwn.never⟩
/-- a statement, whatever the wish of the context -/
def SSA (cls : Nat → Addr) (G : Nat → DSp) (sub : Nat → Nat → Option Bool) (cur : Option Nat) (c : Cc) (st : List Stmt) (rd : Env → Dn → Prop) : Prop :=
  ∀ (X : Cx) (W : WX), Good X c W cls G sub → X.stack = X.env :: X.outer ∧ X.env.frame = some X.env.locals → SSs cls sub cur X c W st rd
theorem ss_tri (g : Good X c W cls G sub) (fr : X.stack = X.env :: X.outer ∧ X.env.frame = some X.env.locals) (hcm : c.cm = true) {k s : Nat} {x n : Str} {h0 : Stmt} {body hs : List Stmt} {px pos pos' : Pos} (h1 : c.exc[k]? = some x) (h2 : glB c.sc x = true) (h3 : c.N[s]? = some n) (h4 : c.sc.names.lookup n = some .local) (h5 : c.ev = none)
    {rb : Env → Dn → Prop} {rh : Option Nat → Env → Dn → Prop} (hb : SSA cls G sub cur c body rb) (hh : ∀ cur', SSA cls G sub cur' { c with cm := false, ev := some s } (h0 :: hs) (rh cur')) :
    SS cls sub cur X c W (.Try body [.ExceptHandler (some (.Name x px)) (some n) (h0 :: hs) pos'] [] [] pos) (fun ρ N => rb ρ ⟨N.nx, N.rt, N.bk, N.ct, fun c' ρ' =>
      sub c' k = some true ∧ (s < ρ'.length ∧ getE ρ' s = none) ∧ rh (some c') ρ' ⟨fun _ => False, N.rt, fun _ => False, fun _ => False, noEr⟩⟩) := fun T σ ρ F H N D hp ev sm ok q => by
  obtain ⟨n1, n2⟩ := glB_of h2
  have kn : X.env.kindOf n = some .local := by show X.env.scope.names.lookup n = _; rw [g.sc]; exact h4
  have nm : Names X x (.ref (cls k)) := ⟨g.gl n1, (nod_of n2).1, .inl (g.st.excs k x h1).g⟩
  have evx : ∀ {X' : Cx} {σ'}, EvOk X' c cls sub cur σ' := fun {X' σ'} => evNone h5
  refine sS_of (ps_try_as (tb := fun W' D σ H => ∀ pn xe, Takes (X.tr pn xe) W' → PassesOwn (model X.prog X.w) X.A X.env xe → sSs (X.tr pn xe) body D σ H)
    (ts := fun a cv d D σ H => ∀ oe pn, Zc cv d oe → (∃ vs, oe.data = .fields vs) → sSs (X.suite a ((a, oe) :: pn)) (h0 :: hs) D σ H)
    fr.1 fr.2 (nodX g) (g.slot h3) kn nm g.tk (fun W' pn xe tk po => ⟨fun pins st σ H D I h => h pn xe tk po pins st I⟩) (fun a oe cv d pn hz hf => ⟨fun pins st σ H D I h => h oe pn hz hf pins st I⟩)) ?_
  intro pn xe tk po
  refine hb _ _ (g.tr tk po) fr T σ ρ F H ⟨N.nx, N.rt, N.bk, N.ct, fun c' ρ' =>
      sub c' k = some true ∧ (s < ρ'.length ∧ getE ρ' s = none) ∧ rh (some c') ρ' ⟨fun _ => False, N.rt, fun _ => False, fun _ => False, noEr⟩⟩ D hp evx sm ⟨fun σ' ρ' F' H' m' e' q' => ok.nx σ' ρ' F' H' m' evx q', ok.rt, fun σ' ρ' F' H' m' e' q' => ok.bk σ' ρ' F' H' m' evx q', fun σ' ρ' F' H' m' e' q' => ok.ct σ' ρ' F' H' m' evx q', ?_⟩ q
  rintro σ' k' ρ' F' H' m' ⟨q1, ⟨q2, q3⟩, q4⟩
  have hne : k ≠ c.exc.length := fun z => by
    rw [z, List.getElem?_eq_none (Nat.le_refl _)] at h1; cases h1
  have hcv : clsV cls c.exc.length k = .ref (cls k) := if_neg hne
  have hx := g.st.exm k' k true q1
  rw [hcv] at hx
  refine ⟨true, hx, fun _ a na => ?_, fun z => absurd z (by simp)⟩
  intro oe pn' hz hf
  have hE := (g.st.kit k' k true q1).2
  have hs' : s < σ'.length := by have := m'.len; omega
  refine hh (some k') _ _ (g.suite (s := s)) fr T (σ'.set s (some (.ref a))) ρ' F' H' ⟨fun _ => False, N.rt, fun _ => False, fun _ => False, noEr⟩ _ hp ?_ (m'.setNone q3 _) ⟨fun _ _ _ _ _ _ z => z.elim, ok.rt, fun _ _ _ _ _ _ z => z.elim, fun _ _ _ _ _ _ z => z.elim, noErOk⟩ q4
  intro s1 k1 e1 e2
  cases e1; cases e2
  refine ⟨a, by rw [List.getElem?_set_self hs'], fun j b v H Q e hv q => ?_, fun js b tp vs H Q e ht hv q => ?_⟩
  · exact sCall_of (call_isE hE hz hf) ⟨v, _, b, rfl, hv, (g.st.kit k' j b e).1, q⟩
  · exact call_isEs hE hz hf (kitAny_of (fun j b ej => (g.st.kit k' j b ej).1) e) ht hv q
end
end DV
end
section
set_option Elab.async false
set_option maxRecDepth 100000
set_option linter.all false
set_option maxHeartbeats 4000000
/-! DV15: the soundness of statements. -/
namespace DV
open PySem PySem.Spec PyProof.Rows L2

section
variable {cls : Nat → Addr} {G : Nat → DSp} {sub : Nat → Nat → Option Bool}
abbrev FrOk (X : Cx) : Prop := X.stack = X.env :: X.outer ∧ X.env.frame = some X.env.locals
theorem ixo_inv {c : Cc} {s : Nat} {i : E} {x : Expr} (h : chkE c (.ixo s i) x = true) : ∃ n p r q, x = .Subscript (.Name n p) r q ∧ notSlice r = true ∧ chkV c s n = true ∧ chkE c i r = true := by
  cases x
  case Subscript l r q =>
    cases l
    case Name n p =>
      have h : (notSlice r && chkV c s n && chkE c i r) = true := h
      simp only [Bool.and_eq_true] at h
      exact ⟨n, p, r, q, rfl, h.1.1, h.1.2, h.2⟩
    all_goals exact absurd h Bool.false_ne_true
  all_goals exact absurd h Bool.false_ne_true
mutual
theorem snd_S : ∀ (ir : S) (cur : Option Nat) (X : Cx) (c : Cc) (W : WX) (x : Stmt), Good X c W cls G sub → FrOk X → chkS c ir x = true → SS cls sub cur X c W x (rdS ⟨G, c.pm, cur, sub⟩ ir)
  | .set i e, cur, X, c, W, x, g, fr, h => by
    cases x
    case Assign tgs v p =>
      match tgs, h with
      | [.Name n pn], h =>
        have h : (decide (c.N[i]? = some n) && locB c n && !(c.ev == some i) && chkE c e v && (notComp v || isLc v)) = true := h
        simp only [Bool.and_eq_true, decide_eq_true_eq, Bool.not_eq_true', Bool.or_eq_true] at h
        obtain ⟨⟨⟨⟨h1, h2⟩, h3⟩, h4⟩, h5⟩ := h
        have h3 : c.ev ≠ some i := fun z => by rw [z, beq_self_eq_true] at h3; cases h3
        rcases h5 with h5 | h5
        · exact ss_set g h1 h2 h3 h5 (snd_E e cur X c W v g h4)
        · cases v
          case ListComp elt gs scope pos => exact ss_setLc g h1 h2 h3 h4
          all_goals exact absurd h5 Bool.false_ne_true
    all_goals exact absurd h Bool.false_ne_true
  | .unp q e, cur, X, c, W, x, g, fr, h => by
    cases x
    case Assign tgs v p =>
      match tgs, h with
      | [.Tuple ts k pt], h =>
        have h : (c.cm && notComp v && !(isTupE v) && chkP c none q (.Tuple ts k pt) && chkE c e v) = true := h
        simp only [Bool.and_eq_true, Bool.not_eq_true'] at h
        obtain ⟨⟨⟨⟨h1, h2⟩, h3⟩, h4⟩, h5⟩ := h
        exact ss_unp g h1 h2 h3 h4 (snd_E e cur X c W v g h5)
    all_goals exact absurd h Bool.false_ne_true
  | .par i j a b, cur, X, c, W, x, g, fr, h => by
    cases x
    case Assign tgs v p =>
      match tgs, v, h with
      | [.Tuple [.Name n pn, .Name m pm] k pt], .Tuple [v, w] k2 pt2, h =>
        have h : (c.cm && decide (c.N[i]? = some n) && decide (c.N[j]? = some m) && !(i == j) && parB c n m pn pm v w && chkE c a v && chkE c b w) = true := h
        simp only [Bool.and_eq_true, decide_eq_true_eq, Bool.not_eq_true', beq_eq_false_iff_ne, ne_eq] at h
        obtain ⟨⟨⟨⟨⟨⟨h1, h2⟩, h3⟩, h4⟩, h5⟩, h6⟩, h7⟩ := h
        exact ss_par g h1 h2 h3 h4 h5 (snd_E a cur X c W v g h6) (snd_E b cur X c W w g h7)
    all_goals exact absurd h Bool.false_ne_true
  | .six s i e, cur, X, c, W, x, g, fr, h => by
    cases x
    case Assign tgs v p =>
      match tgs, h with
      | [.Subscript (.Name n pn) r ps], h =>
        have h : (notSlice r && chkV c s n && chkE c i r && chkE c e v) = true := h
        simp only [Bool.and_eq_true] at h
        obtain ⟨⟨⟨h1, h2⟩, h3⟩, h4⟩ := h
        exact ss_six g h1 h2 (snd_E i cur X c W r g h3) (snd_E e cur X c W v g h4)
    all_goals exact absurd h Bool.false_ne_true
  | .swp s i j k l, cur, X, c, W, x, g, fr, h => by
    cases x
    case Assign tgs v p =>
      match tgs, v, h with
      | [.Tuple [t1, t2] kt pt], .Tuple [t3, t4] ku pu, h =>
        have h : (c.cm && chkE c (.ixo s i) t1 && chkE c (.ixo s j) t2 && chkE c (.ixo s k) t3 && chkE c (.ixo s l) t4) = true := h
        simp only [Bool.and_eq_true] at h
        obtain ⟨⟨⟨⟨h0, h1⟩, h2⟩, h3⟩, h4⟩ := h
        obtain ⟨x1, p1, r1, q1, rfl, n1, v1, e1⟩ := ixo_inv h1
        obtain ⟨x2, p2, r2, q2, rfl, n2, v2, e2⟩ := ixo_inv h2
        obtain ⟨x3, p3, r3, q3, rfl, n3, v3, e3⟩ := ixo_inv h3
        obtain ⟨x4, p4, r4, q4, rfl, n4, v4, e4⟩ := ixo_inv h4
        exact ss_swp g h0 n1 n2 n3 n4 v1 v2 v3 v4 e1 e2 e3 e4
    all_goals exact absurd h Bool.false_ne_true
  | .aug i o e, cur, X, c, W, x, g, fr, h => by
    cases x
    case AugAssign t op v p =>
      match t, h with
      | .Name n pn, h =>
        have h : (c.cm && decide (opOf o = op) && chkV c i n && locB c n && chkE c e v) = true := h
        simp only [Bool.and_eq_true, decide_eq_true_eq] at h
        obtain ⟨⟨⟨⟨h1, rfl⟩, h2⟩, h3⟩, h4⟩ := h
        exact ss_aug g h1 h2 h3 (snd_E e cur X c W v g h4)
    all_goals exact absurd h Bool.false_ne_true
  | .aix s i o e, cur, X, c, W, x, g, fr, h => by
    cases x
    case AugAssign t op v p =>
      match t, h with
      | .Subscript (.Name n pn) r ps, h =>
        have h : (notSlice r && decide (opOf o = op) && chkV c s n && chkE c i r && chkE c e v) = true := h
        simp only [Bool.and_eq_true, decide_eq_true_eq] at h
        obtain ⟨⟨⟨⟨h1, rfl⟩, h2⟩, h3⟩, h4⟩ := h
        exact ss_aix g h1 h2 (snd_E i cur X c W r g h3) (snd_E e cur X c W v g h4)
    all_goals exact absurd h Bool.false_ne_true
  | .app s e, cur, X, c, W, x, g, fr, h => by
    cases x
    case Expr v p =>
      match v, h with
      | .Call (.Attribute (.Name n pn) nm ap) [v] [] cp, h =>
        have h : (decide (nm = ("append" : Str)) && chkV c s n && notStar v && (ap.endLine == cp.line) && chkE c e v) = true := h
        simp only [Bool.and_eq_true, decide_eq_true_eq] at h
        obtain ⟨⟨⟨⟨rfl, h1⟩, h2⟩, h3⟩, h4⟩ := h
        exact ss_app g h1 h2 (by simpa using h3) (snd_E e cur X c W v g h4)
    all_goals exact absurd h Bool.false_ne_true
  | .ext s e, cur, X, c, W, x, g, fr, h => by
    cases x
    case Expr v p =>
      match v, h with
      | .Call (.Attribute (.Name n pn) nm ap) [v] [] cp, h =>
        have h : (decide (nm = ("extend" : Str)) && chkV c s n && notStar v && (ap.endLine == cp.line) && chkE c e v) = true := h
        simp only [Bool.and_eq_true, decide_eq_true_eq] at h
        obtain ⟨⟨⟨⟨rfl, h1⟩, h2⟩, h3⟩, h4⟩ := h
        exact ss_ext g h1 h2 (by simpa using h3) (snd_E e cur X c W v g h4)
    all_goals exact absurd h Bool.false_ne_true
  | .ife t a b, cur, X, c, W, x, g, fr, h => by
    cases x
    case If u x y p =>
      have h : (chkT c t u && chkSs c a x && chkSs c b y) = true := h
      simp only [Bool.and_eq_true] at h
      exact ss_ife (snd_T t cur X c W u g h.1.1) (snd_Ss a cur X c W x g fr h.1.2) (snd_Ss b cur X c W y g fr h.2)
    all_goals exact absurd h Bool.false_ne_true
  | .for q it b, cur, X, c, W, x, g, fr, h => by
    cases x
    case For tg iter body orelse p =>
      match orelse, h with
      | [], h =>
        have h : (c.cm && notSet iter && chkI c it iter tg && chkP c none q tg && chkSs c b body) = true := h
        simp only [Bool.and_eq_true] at h
        obtain ⟨⟨⟨⟨h1, h2⟩, h3⟩, h4⟩, h5⟩ := h
        exact ss_for g h1 h2 (snd_I it cur X c W tg iter g h3) h4 (snd_Ss b cur X c W body g fr h5)
    all_goals exact absurd h Bool.false_ne_true
  | .whi t b, cur, X, c, W, x, g, fr, h => by
    cases x
    case While u body orelse p =>
      match orelse, h with
      | [], h =>
        have h : (chkT c t u && chkSs c b body) = true := h
        simp only [Bool.and_eq_true] at h
        exact ss_whi g (snd_T t cur X c W u g h.1) (snd_Ss b cur X c W body g fr h.2)
    all_goals exact absurd h Bool.false_ne_true
  | .ret e, cur, X, c, W, x, g, fr, h => by
    cases x
    case Return v p =>
      match v, h with
      | some v, h => exact ss_ret (snd_E e cur X c W v g h)
    all_goals exact absurd h Bool.false_ne_true
  | .reto s, cur, X, c, W, x, g, fr, h => by
    cases x
    case Return v p =>
      match v, h with
      | some (.Name n pn), h => exact ss_reto g h
    all_goals exact absurd h Bool.false_ne_true
  | .retn, cur, X, c, W, x, g, fr, h => by
    cases x
    case Return v p =>
      match v, h with
      | none, h => exact ss_retn
    all_goals exact absurd h Bool.false_ne_true
  | .rai k, cur, X, c, W, x, g, fr, h => by
    cases x
    case Raise v w p =>
      match v, w, h with
      | some (.Call (.Name n pn) [] [] pc), none, h =>
        have h : (c.cm && decide (c.exc[k]? = some n) && glB c.sc n) = true := h
        simp only [Bool.and_eq_true, decide_eq_true_eq] at h
        exact ss_rai g h.1.1 h.1.2 h.2
    all_goals exact absurd h Bool.false_ne_true
  | .exp e, cur, X, c, W, x, g, fr, h => by
    cases x
    case Expr v p =>
      have h : (notComp v && chkE c e v) = true := h
      simp only [Bool.and_eq_true] at h
      exact ss_exp h.1 (snd_E e cur X c W v g h.2)
    all_goals exact absurd h Bool.false_ne_true
  | .brk, cur, X, c, W, x, g, fr, h => by
    cases x
    case Break p => exact ss_brk
    all_goals exact absurd h Bool.false_ne_true
  | .con, cur, X, c, W, x, g, fr, h => by
    cases x
    case Continue p => exact ss_con
    all_goals exact absurd h Bool.false_ne_true
  | .pas, cur, X, c, W, x, g, fr, h => by
    cases x
    case Pass p => exact ss_pas
    all_goals exact absurd h Bool.false_ne_true
  | .tri b k s hd, cur, X, c, W, x, g, fr, h => by
    cases x
    case Try body hs orelse fin p =>
      match hs, orelse, fin, h with
      | [.ExceptHandler (some (.Name n pn)) (some m) (h0 :: hs) ph], [], [], h =>
        have h : (c.cm && decide (c.exc[k]? = some n) && glB c.sc n && decide (c.N[s]? = some m) && decide (c.sc.names.lookup m = some .local) && c.ev.isNone &&
          chkSs c b body && chkSs { c with cm := false, ev := some s } hd (h0 :: hs)) = true := h
        simp only [Bool.and_eq_true, decide_eq_true_eq, Option.isNone_iff_eq_none] at h
        obtain ⟨⟨⟨⟨⟨⟨⟨h1, h2⟩, h3⟩, h4⟩, h5⟩, h6⟩, h7⟩, h8⟩ := h
        exact ss_tri g fr h1 h2 h3 h4 h5 h6 (rb := rdSs ⟨G, c.pm, cur, sub⟩ b) (rh := fun cur' => rdSs ⟨G, c.pm, cur', sub⟩ hd) (fun X' W' g' fr' => snd_Ss b cur X' c W' body g' fr' h7)
          (fun cur' X' W' g' fr' => snd_Ss hd cur' X' _ W' (h0 :: hs) g' fr' h8)
    all_goals exact absurd h Bool.false_ne_true
theorem snd_Ss : ∀ (ir : Ss) (cur : Option Nat) (X : Cx) (c : Cc) (W : WX) (xs : List Stmt), Good X c W cls G sub → FrOk X → chkSs c ir xs = true → SSs cls sub cur X c W xs (rdSs ⟨G, c.pm, cur, sub⟩ ir)
  | .nil, cur, X, c, W, xs, g, fr, h => by
    cases xs with
    | nil => exact sss_nil
    | cons => exact absurd h Bool.false_ne_true
  | .cons s r, cur, X, c, W, xs, g, fr, h => by
    cases xs with
    | nil => exact absurd h Bool.false_ne_true
    | cons x xs =>
      have h : (chkS c s x && chkSs c r xs) = true := h
      simp only [Bool.and_eq_true] at h
      exact sss_cons (ra := rdS ⟨G, c.pm, cur, sub⟩ s) (rb := rdSs ⟨G, c.pm, cur, sub⟩ r) (snd_S s cur X c W x g fr h.1) (snd_Ss r cur X c W xs g fr h.2)
end
end
end DV
end
section
set_option Elab.async false
set_option maxRecDepth 100000
set_option linter.all false
/-! DV16: a def keeps its promise. -/
namespace DV
open PySem PySem.Spec PyProof.Rows L2

/-- which arguments are owned -/
def ownPos : Nat → List B → List Nat
  | _, [] => []
  | i, .own _ :: r => i :: ownPos (i + 1) r
  | i, .val _ :: r => ownPos (i + 1) r
def ownP : Nat → List V → List B → List (Nat × Addr)
  | i, .ref a :: vs, .own _ :: bs => (i, a) :: ownP (i + 1) vs bs
  | i, _ :: vs, _ :: bs => ownP (i + 1) vs bs
  | _, _, _ => []
theorem ownP_fst {F H : Hp} : ∀ {i : Nat} {vs : List V} {bs : List B}, ArgsR F H vs bs → (ownP i vs bs).map (·.1) = ownPos i bs
  | _, _, [], h => by cases h; rfl
  | i, _, .val d :: bs, ⟨v, r, e, h, q⟩ => by
    subst e
    have := ownP_fst (i := i + 1) q
    cases v <;> exact this
  | i, _, .own xs :: bs, ⟨v, r, e, h, q⟩ => by
    subst e
    obtain ⟨a, us, rfl, _⟩ := h
    exact congrArg (i :: ·) (ownP_fst (i := i + 1) q)
theorem ownP_snd {F H : Hp} : ∀ {i : Nat} {vs : List V} {bs : List B}, ArgsR F H vs bs → (ownP i vs bs).map (·.2) = ownA vs bs
  | _, _, [], h => by cases h; rfl
  | i, _, .val d :: bs, ⟨v, r, e, h, q⟩ => by
    subst e
    have := ownP_snd (i := i + 1) q
    cases v <;> exact this
  | i, _, .own xs :: bs, ⟨v, r, e, h, q⟩ => by
    subst e
    obtain ⟨a, us, rfl, _⟩ := h
    exact congrArg (a :: ·) (ownP_snd (i := i + 1) q)
theorem argsR_get {F H : Hp} : ∀ {bs : List B} {vs : List V} {i : Nat} {b : B}, ArgsR F H vs bs → bs[i]? = some b → ∃ v, vs[i]? = some v ∧ ArgR F H v b
  | [], _, _, _, _, e => by simp at e
  | _ :: _, _, 0, _, ⟨v, r, e, h, q⟩, e' => by subst e; cases e'; exact ⟨v, rfl, h⟩
  | _ :: bs, _, i + 1, b, ⟨v, r, e, h, q⟩, e' => by
    subst e
    obtain ⟨w, k1, k2⟩ := argsR_get (bs := bs) (i := i) q (by simpa using e')
    exact ⟨w, by simpa using k1, k2⟩
theorem ownP_mem {F H : Hp} : ∀ {k : Nat} {vs : List V} {bs : List B} {p : Nat × Addr}, ArgsR F H vs bs → (p ∈ ownP k vs bs ↔ k ≤ p.1 ∧ (∃ xs, bs[p.1 - k]? = some (.own xs)) ∧ vs[p.1 - k]? = some (.ref p.2))
  | k, _, [], p, h => by
    cases h
    constructor
    · intro z; cases z
    · rintro ⟨_, ⟨xs, e⟩, _⟩; simp at e
  | k, _, .val d :: bs, p, ⟨v, r, e, h, q⟩ => by
    subst e
    have ih := ownP_mem (k := k + 1) (p := p) q
    have e1 : ownP k (v :: r) (.val d :: bs) = ownP (k + 1) r bs := by cases v <;> rfl
    rw [e1, ih]
    constructor
    · rintro ⟨h1, ⟨xs, h2⟩, h3⟩
      have hk : p.1 - k = (p.1 - (k + 1)) + 1 := by omega
      refine ⟨by omega, ⟨xs, ?_⟩, ?_⟩
      · rw [hk]; simpa using h2
      · rw [hk]; simpa using h3
    · rintro ⟨h1, ⟨xs, h2⟩, h3⟩
      by_cases hk : p.1 = k
      · rw [hk, Nat.sub_self] at h2; cases h2
      · have hk' : p.1 - k = (p.1 - (k + 1)) + 1 := by omega
        rw [hk'] at h2 h3
        exact ⟨by omega, ⟨xs, by simpa using h2⟩, by simpa using h3⟩
  | k, _, .own ys :: bs, p, ⟨v, r, e, h, q⟩ => by
    subst e
    obtain ⟨a, us, rfl, _⟩ := h
    have ih := ownP_mem (k := k + 1) (p := p) q
    have e1 : ownP k (.ref a :: r) (.own ys :: bs) = (k, a) :: ownP (k + 1) r bs := rfl
    rw [e1, List.mem_cons, ih]
    constructor
    · rintro (rfl | ⟨h1, ⟨xs, h2⟩, h3⟩)
      · exact ⟨Nat.le_refl _, ⟨ys, by simp⟩, by simp⟩
      · have hk : p.1 - k = (p.1 - (k + 1)) + 1 := by omega
        refine ⟨by omega, ⟨xs, ?_⟩, ?_⟩
        · rw [hk]; simpa using h2
        · rw [hk]; simpa using h3
    · rintro ⟨h1, ⟨xs, h2⟩, h3⟩
      by_cases hk : p.1 = k
      · rw [hk, Nat.sub_self] at h3
        have : a = p.2 := by simpa using h3
        exact .inl (by rw [this, ← hk])
      · have hk' : p.1 - k = (p.1 - (k + 1)) + 1 := by omega
        rw [hk'] at h2 h3
        exact .inr ⟨by omega, ⟨xs, by simpa using h2⟩, by simpa using h3⟩
theorem envOf_get {n i : Nat} {bs : List B} {b : B} (h : getE (envOf n bs) i = some b) : bs[i]? = some b := by
  unfold getE envOf at h
  rw [List.getD_eq_getElem?_getD] at h
  by_cases hi : i < bs.length
  · rw [List.getElem?_append_left (by simpa using hi), List.getElem?_map] at h
    rw [List.getElem?_eq_getElem hi] at h ⊢
    simpa using h
  · rw [List.getElem?_append_right (by simpa using Nat.le_of_not_lt hi)] at h
    rw [List.getElem?_replicate] at h
    split at h <;> simp at h
theorem envOf_got {n i : Nat} {bs : List B} {b : B} (h : bs[i]? = some b) : getE (envOf n bs) i = some b := by
  unfold getE envOf
  obtain ⟨hi, e⟩ := List.getElem?_eq_some_iff.mp h
  rw [List.getD_eq_getElem?_getD, List.getElem?_append_left (by simpa using hi), List.getElem?_map, h]
  rfl
theorem start_got {N : List Str} {i : Nat} {vs : List V} {v : V} (h : vs[i]? = some v) : (start N vs)[i]? = some (some v) := by
  unfold L2.start
  obtain ⟨hi, e⟩ := List.getElem?_eq_some_iff.mp h
  rw [List.getElem?_append_left (by simpa using hi), List.getElem?_map, h]
  rfl
theorem start_get {N : List Str} {i : Nat} {vs : List V} {v : V} (h : (start N vs)[i]? = some (some v)) : vs[i]? = some v := by
  unfold L2.start at h
  by_cases hi : i < vs.length
  · rw [List.getElem?_append_left (by simpa using hi), List.getElem?_map] at h
    rw [List.getElem?_eq_getElem hi] at h ⊢
    simpa using h
  · rw [List.getElem?_append_right (by simpa using Nat.le_of_not_lt hi), List.getElem?_replicate] at h
    split at h <;> simp at h
theorem nodup_snd {l : List (Nat × Addr)} (h : (l.map (·.2)).Nodup) {p q : Nat × Addr} (hp : p ∈ l) (hq : q ∈ l) (e : p.2 = q.2) : p = q := by
  induction l with
  | nil => cases hp
  | cons x l ih =>
    rw [List.map_cons, List.nodup_cons] at h
    obtain ⟨h1, h2⟩ := h
    rcases List.mem_cons.mp hp with e1 | hp
    · rcases List.mem_cons.mp hq with e2 | hq
      · rw [e1, e2]
      · exact absurd (List.mem_map.mpr ⟨q, hq, by rw [← e, e1]⟩) h1
    · rcases List.mem_cons.mp hq with e2 | hq
      · exact absurd (List.mem_map.mpr ⟨p, hp, by rw [e, e2]⟩) h1
      · exact ih h2 hp hq
/-- the state at a def's entry -/
theorem Sim.entry {N : List Str} {F H : Hp} {vs : List V} {bs : List B} (fh : Same F H) (r : ArgsR F H vs bs) (nd : (ownA vs bs).Nodup) (hl : bs.length ≤ N.length) : Sim ⟨H, F, ownP 0 vs bs, []⟩ (envOf N.length bs) (start N vs) F H := by
  have hlen := argsR_len r
  have own : ∀ {i a}, Own (envOf N.length bs) (start N vs) i a → (i, a) ∈ ownP 0 vs bs := fun {i a} ⟨⟨xs, e1⟩, e2⟩ => (ownP_mem r).mpr ⟨Nat.zero_le _, ⟨xs, by simpa using envOf_get e1⟩, by simpa using start_get e2⟩
  have nd' : ((ownP 0 vs bs).map (·.2)).Nodup := by rw [ownP_snd r]; exact nd
  exact {
    ff := sameR
    fh := fh
    grow := fun _ h _ => h
    keep := fun _ _ h _ => h
    len := by unfold envOf L2.start; simp [hlen]
    slot := fun i b e => by
      obtain ⟨v, h1, h2⟩ := argsR_get r (envOf_get e)
      exact ⟨v, start_got h1, h2⟩
    dist := fun i j a oi oj => congrArg Prod.fst (nodup_snd nd' (own oi) (own oj) rfl)
    fresh := fun i a oi => .inr (own oi)
    par := fun p hp => by
      obtain ⟨_, ⟨xs, h1⟩, h2⟩ := (ownP_mem r).mp hp
      rw [Nat.sub_zero] at h1 h2
      obtain ⟨v, h3, a, us, e, h4, h5, h6⟩ := argsR_get r h1
      rw [h2] at h3
      cases h3
      cases e
      exact ⟨⟨⟨xs, envOf_got h1⟩, start_got h2⟩, h4, fun z => by have z : H p.2 = none := z; rw [h5] at z; cases z⟩
    pins := fun p hp => by cases hp }
theorem Sim.back {T : Fr} {ρ : Env} {σ : St} {F H : Hp} (s : Sim T ρ σ F H) : ∀ {l : List (Nat × Addr)}, (∀ p ∈ l, Own ρ σ p.1 p.2) → Back F H (l.map (·.2)) (ownsOf ρ (l.map (·.1)))
  | [], _ => rfl
  | p :: l, h => by
    obtain ⟨xs, us, e, h1, h2, h3⟩ := s.own_at (h p List.mem_cons_self)
    refine ⟨xs, ownsOf ρ (l.map (·.1)), us, ?_, h1, h2, h3, Sim.back s fun q hq => h q (List.mem_cons_of_mem _ hq)⟩
    show ownsOf ρ (p.1 :: l.map (·.1)) = _
    unfold ownsOf
    rw [List.map_cons, e]
section
variable {P : Program} {w : World} {K : PySem.W.Frag} {mg : Str → Option Value} {base : Heap} {cls : Nat → Addr} {G : Nat → DSp} {sub : Nat → Nat → Option Bool}
theorem fn_dv {x qual : Str} {params : Arguments} {body : List Stmt} {scope : Scope} {dvs : List V} {kws : List (Str × V)} {f : Addr} {fd : FuncData} {ps : List Str} {c : Cc} {ir : Ss} {sp : DSp}
    (F : FunD K x qual params body scope dvs kws f fd) (S : FnScope c.N ps scope) (sc : c.sc = scope) (hfn : c.fn = fun _ => true) (hev : c.ev = none) (st : Stat P w K mg base cls c G sub) (hchk : chkSs c ir body = true)
    (vc : ∀ bs K0, bs.length = ps.length → sp bs K0 → ownPos 0 bs = c.pm ∧ rdDef ⟨G, c.pm, none, sub⟩ ir c.N.length bs K0) : FnOk P w K mg base (L2.CX P w) (c.lvl + 1) f fd ps (spV cls ps.length sp) := by
  subst sc
  have hps : ps.length ≤ c.N.length := by
    have := congrArg List.length S.pre
    rw [List.length_take] at this
    omega
  refine F.ok S (fun vs H Q E h => h.1) (fun cdv A outer s H vs Q E hr h => ?_)
  obtain ⟨hl, F0, bs, K0, hs, r, nd, hsp, post⟩ := h
  have hlen := argsR_len r
  obtain ⟨hpm, q⟩ := vc bs K0 (by omega) hsp
  refine ⟨_, pss_s, ?_⟩
  let X : Cx := cxOf (L2.CX P w) P w K mg base c.N qual c.sc f cdv A outer s H E
  have g : Good X c (fun cls d _ H => E cls d H) cls G sub := by
    exact {
      st := st
      hN := rfl
      nd := S.nd
      sc := rfl
      kd := S.kind
      fn := fun y => by rw [hfn]; rfl
      room := fun _ => hr
      hu := hr.units
      calm := fun _ => rfl
      ev := fun _ => hev
      tk := takes_of rfl rfl rfl rfl
      own := passes_of rfl }
  have fr : FrOk X := ⟨rfl, rfl⟩
  have hN : c.N.length = X.N.length := rfl
  have sm : Sim ⟨H, F0, ownP 0 vs bs, []⟩ (envOf c.N.length bs) (start c.N vs) F0 H := Sim.entry hs r nd (by omega)
  have hp : (ownP 0 vs bs).map (·.1) = c.pm := by rw [ownP_fst r, hpm]
  have ext : ∀ {σ : St} {ρ : Env} {F' H' : Hp}, Sim ⟨H, F0, ownP 0 vs bs, []⟩ ρ σ F' H' → Ext F0 F' H H' (ownA vs bs) := fun {σ ρ F' H'} m => ⟨m.ff, m.fh, m.grow, fun b o e hb => m.keep b o e (by show b ∉ (ownP 0 vs bs).map (·.2); rw [ownP_snd r]; exact hb)⟩
  have bk : ∀ {σ : St} {ρ : Env} {F' H' : Hp}, Sim ⟨H, F0, ownP 0 vs bs, []⟩ ρ σ F' H' → Back F' H' (ownA vs bs) (ownsOf ρ c.pm) := fun {σ ρ F' H'} m => by
    have := m.back (l := ownP 0 vs bs) fun p hp => (m.par p hp).1
    rw [hp, ownP_snd r] at this
    exact this
  refine snd_Ss ir none X c _ body g fr hchk ⟨H, F0, ownP 0 vs bs, []⟩ (start c.N vs) (envOf c.N.length bs) F0 H ⟨fun ρ => K0 (.ok (.val .non)) (ownsOf ρ c.pm), fun b ρ => K0 (.ok b) (ownsOf ρ c.pm), fun _ => False, fun _ => False, fun c' _ => K0 (.err c') []⟩ _ hp
    (evNone hev) sm ⟨fun σ ρ F' H' m _ q => ?_, fun σ ρ F' H' v b m rv q => ?_, fun _ _ _ _ _ _ z => z.elim, fun _ _ _ _ _ _ z => z.elim, fun σ c' ρ F' H' m q => ?_⟩ q
  · exact post _ _ q F' H' (ext m) (bk m) .non rfl
  · cases b with
    | val d => exact post _ _ q F' H' (ext m) (bk m) v rv
    | own xs =>
      obtain ⟨a, us, rfl, h1, h2, h3, h4, _, _⟩ := rv
      exact post _ _ q F' H' (ext m) (bk m) a us h1 h4 h2 h3
  · exact post _ _ q F' H' (ext m)
end
end DV
end
section
set_option Elab.async false
set_option maxRecDepth 100000
set_option linter.all false
/-! DV17: a table of defs, all kept at once. -/
namespace DV
open PySem PySem.Spec PyProof.Rows L2

/-- the promises by index: the defaults that fill up, the promise over every parameter -/
def gS (t : List (List Int × DSp)) : Nat → DSp := fun f bs K => match t[f]? with
  | some (dv, sp) => sp (bs ++ dv.map fun i => B.val (.int i)) K
  | none => False
def Row.cc (r : Row) (e : Env1) (G : List (Str × Nat × Nat)) (sc : Scope) : Cc := { N := r.N, sc := sc, fn := fun _ => true, G := G, exc := e.exc, cons := e.cons, lvl := r.lv - 1, pm := r.pm, cm := true, ev := none }
def scB (N P : List Str) (sc : Scope) : Bool :=
  decide (sc.kind = .function) && !sc.isCoroutine && !sc.isGenerator && decide N.Nodup && decide (N.take P.length = P) && P.all (fun x => decide (sc.names.lookup x = some .local) || decide (sc.names.lookup x = some .cell)) && sc.names.all (fun y => !decide (y.2 = .free))
theorem scB_of {N P : List Str} {sc : Scope} (h : scB N P sc = true) : FnScope N P sc := by
  unfold scB at h
  simp only [Bool.and_eq_true, Bool.not_eq_true', decide_eq_true_eq, List.all_eq_true, Bool.or_eq_true, decide_eq_false_iff_not] at h
  obtain ⟨⟨⟨⟨⟨⟨h1, h2⟩, h3⟩, h4⟩, h5⟩, h6⟩, h7⟩ := h
  exact { kind := h1, co := h2, gen := h3, nd := h4, pre := h5, par := h6, nofree := h7 }
/-- what is looked at of one def -/
def Row.chk (r : Row) (e : Env1) (G : List (Str × Nat × Nat)) (body : List Stmt) (sc : Scope) : Bool :=
  decide (r.ps.length = r.ar + r.dv.length) && (decide (r.lv = 0) || (scB r.N r.ps sc && chkSs (r.cc e G sc) r.ir body))
section
variable {P : Program} {w : World} {K : PySem.W.Frag} {mg : Str → Option Value} {base : Heap} {cls : Nat → Addr} {sub : Nat → Nat → Option Bool}
/-- what is said of one def by the head: it stands, it may be called -/
structure Stands (K : PySem.W.Frag) (mg : Str → Option Value) (r : Row) (f : Addr) (fd : FuncData) (body : List Stmt) (sc : Scope) : Prop where
  g : mg r.nm = some (.ref f)
  fn : ∃ (x qual : Str) (params : Arguments) (dvs : List V) (kws : List (Str × V)), FunD K x qual params body sc dvs kws f fd
  kp : PySem.W.keepIn K (.ref f) = true
  bn : ∃ ds, Binds K fd r.ps ds ∧ Vals (r.dv.map V.int) ds
structure World1 (K : PySem.W.Frag) (mg : Str → Option Value) (cls : Nat → Addr) (sub : Nat → Nat → Option Bool) (e : Env1) : Prop where
  excs : ∀ i nm, e.exc[i]? = some nm → XOk K mg (cls i) nm
  exm : ∀ i j b, sub i j = some b → PySem.W.exmOne K (.ref (cls i)) (clsV cls e.exc.length j) = some b
  kit : ∀ i j b, sub i j = some b → PySem.W.kitOne K (.ref (cls i)) (clsV cls e.exc.length j) = some b ∧ ExcC K (cls i)
  cons : ∀ x i, e.cons.lookup x = some i → ∃ u, mg x = some u ∧ RelV (.int i) u
  blt : ∀ x ∈ bltNames, mg (x : Str) = none
/-- the text of one row -/
abbrev Txt := List (List Stmt × Scope)
theorem rows_ok {e : Env1} {rows : List Row} {t : List (List Int × DSp)} {tx : Txt} (W : World1 K mg cls sub e)
    (ht : t.map (·.1) = rows.map (·.dv))
    (hs : ∀ (i : Nat) (r : Row), rows[i]? = some r → ∃ f fd body sc, tx[i]? = some (body, sc) ∧ Stands K mg r f fd body sc ∧ r.chk e (tblOf rows) body sc = true)
    (h0 : ∀ (i : Nat) (r : Row) (dv : List Int) (sp : DSp), rows[i]? = some r → t[i]? = some (dv, sp) → r.lv = 0 → ∀ bs K0, ¬ sp bs K0)
    (vc : ∀ (i : Nat) (r : Row) (dv : List Int) (sp : DSp), rows[i]? = some r → t[i]? = some (dv, sp) → ∀ bs K0, bs.length = r.ps.length → sp bs K0 → ownPos 0 bs = r.pm ∧ rdDef ⟨gS t, r.pm, none, sub⟩ r.ir r.N.length bs K0) :
    ∀ n : Nat, ∀ (i : Nat) (r : Row) (dv : List Int) (sp : DSp), rows[i]? = some r → t[i]? = some (dv, sp) → r.lv ≤ n → ∃ f fd, mg r.nm = some (.ref f) ∧ FnOk P w K mg base (L2.CX P w) r.lv f fd r.ps (spV cls r.ps.length sp) ∧ PySem.W.keepIn K (.ref f) = true ∧
      (∃ ds, Binds K fd r.ps ds ∧ Vals (r.dv.map V.int) ds) ∧ r.ps.length = r.ar + r.dv.length ∧ r.dv = dv := by
  intro n
  induction n with
  | zero =>
    intro i r dv sp hr htt hl
    obtain ⟨f, fd, body, sc, hx, S, hc⟩ := hs i r hr
    unfold Row.chk at hc
    simp only [Bool.and_eq_true, Bool.or_eq_true, decide_eq_true_eq] at hc
    have hd : r.dv = dv := by
      have := congrArg (·[i]?) ht
      simp only [List.getElem?_map, hr, htt, Option.map_some] at this
      exact (Option.some.inj this).symm
    refine ⟨f, fd, S.g, ⟨fun vs H Q E h => h.1, fun A outer s H args us vs Q E hr' he hb hv hsp => ?_⟩, S.kp, S.bn, hc.1, hd⟩
    obtain ⟨_, F0, bs, K0, _, _, _, hsp, _⟩ := hsp
    exact absurd hsp (h0 i r dv sp hr htt (Nat.le_zero.mp hl) bs K0)
  | succ n ih =>
    intro i r dv sp hr htt hl
    by_cases hlt : r.lv ≤ n
    · exact ih i r dv sp hr htt hlt
    have hlv : r.lv = n + 1 := by omega
    obtain ⟨f, fd, body, sc, hx, S, hc⟩ := hs i r hr
    unfold Row.chk at hc
    simp only [Bool.and_eq_true, Bool.or_eq_true, decide_eq_true_eq] at hc
    obtain ⟨c2, hc⟩ := hc
    obtain ⟨c1, c3⟩ := hc.resolve_left (by omega)
    have hd : r.dv = dv := by
      have := congrArg (·[i]?) ht
      simp only [List.getElem?_map, hr, htt, Option.map_some] at this
      exact (Option.some.inj this).symm
    obtain ⟨x, qual, params, dvs, kws, F⟩ := S.fn
    have st : Stat P w K mg base cls (r.cc e (tblOf rows) sc) (gS t) sub := {
      funs := fun j nm ar lv hG hle => by
        have hG : (tblOf rows)[j]? = some (nm, ar, lv) := hG
        have hle : lv ≤ r.lv - 1 := hle
        unfold tblOf at hG
        rw [List.getElem?_map] at hG
        cases ej : rows[j]? with
        | none => rw [ej] at hG; cases hG
        | some q =>
          rw [ej] at hG
          have hq : (q.nm, q.ar, q.lv) = (nm, ar, lv) := Option.some.inj hG
          cases hq
          have hjt : j < t.length := by
            have h1 := congrArg List.length ht
            rw [List.length_map, List.length_map] at h1
            have h2 := (List.getElem?_eq_some_iff.mp ej).1
            omega
          have et : t[j]? = some (t[j].1, t[j].2) := by rw [List.getElem?_eq_getElem hjt]
          obtain ⟨f', fd', g1, g2, g3, ⟨ds, g4, g5⟩, g6, g7⟩ := ih j q _ _ ej et (by omega)
          refine ⟨f', fd', q.ps, q.dv, ds, t[j].2, g1, g2, g3, g4, g5, g6, fun bs K0 _ hG => ?_⟩
          unfold gS at hG
          rw [et] at hG
          rw [g7]
          exact hG
      excs := W.excs
      exm := W.exm
      kit := W.kit
      cons := W.cons
      blt := W.blt }
    have := fn_dv (c := r.cc e (tblOf rows) sc) (ir := r.ir) (sp := sp) F (scB_of c1) rfl rfl rfl st c3 (fun bs K0 hb hsp => vc i r dv sp hr htt bs K0 hb hsp)
    have e1 : (r.cc e (tblOf rows) sc).lvl + 1 = r.lv := by show r.lv - 1 + 1 = r.lv; omega
    rw [e1] at this
    exact ⟨f, fd, S.g, this, S.kp, S.bn, c2, hd⟩
end
end DV
end
section
set_option Elab.async false
set_option maxRecDepth 100000
set_option linter.all false
/-! DV18: what the head tells, for a table of defs. -/
namespace DV
open PySem PySem.Spec PyProof.Rows L2

/-- row by row -/
def AllR {α : Type} (p : Nat → α → Prop) : Nat → List α → Prop
  | _, [] => True
  | i, r :: rs => p i r ∧ AllR p (i + 1) rs
theorem allR_get {α : Type} {p : Nat → α → Prop} : ∀ {l : List α} {k i : Nat} {r : α}, AllR p k l → l[i]? = some r → p (k + i) r
  | [], _, _, _, _, e => by simp at e
  | _ :: _, k, 0, r, h, e => by cases e; exact h.1
  | _ :: l, k, i + 1, r, h, e => by
    have := allR_get (l := l) (k := k + 1) (i := i) h.2 (by simpa using e)
    rw [show k + (i + 1) = k + 1 + i by omega]
    exact this
theorem exaB_ok {K : PySem.W.Frag} {D : Addr} (h : exaB K D = true) : ExcC K D := by
  unfold exaB at h
  simp only [Bool.and_eq_true, decide_eq_true_eq] at h
  obtain ⟨⟨⟨⟨⟨⟨⟨h1, h2⟩, h3⟩, h4⟩, h5⟩, h6⟩, h7⟩, h8⟩ := h
  exact { hg := h1, hk := h2, hs := h3, hd := h4, ha := h5, hn := h6, ht := h7, hm := h8 }
section
variable {e : Env1} {rows : List Row} {sb : Nat → Nat → Bool} {K : PySem.W.Frag} {h : Heap} {mg : Str → Option Value} {fn : List He.DefD}
theorem lookup_mem {x : Str} {i : Int} : ∀ {l : List (Str × Int)}, l.lookup x = some i → (x, i) ∈ l
  | [], h => by cases h
  | (y, j) :: l, h => by
    rw [List.lookup_cons] at h
    by_cases hy : x = y
    · subst hy
      rw [beq_self_eq_true] at h
      cases h
      exact List.mem_cons_self
    · have : (x == y) = false := by simpa using hy
      rw [this] at h
      exact List.mem_cons_of_mem _ (lookup_mem h)
theorem world_of (KX : K.In h) (G : h.Ns mainGlobals mg) (c : He.SaysD (faOf e rows) fn K) (hx : exB e sb K = true) : World1 K mg (clsA e K) (subOf e sb) e := by
  unfold exB at hx
  simp only [Bool.and_eq_true, List.all_eq_true, List.mem_range, decide_eq_true_eq] at hx
  obtain ⟨hx, _⟩ := hx
  have hsub : ∀ {i j : Nat} {b : Bool}, subOf e sb i j = some b → i < e.exc.length ∧ j < e.exc.length + 1 ∧ b = sb i j := fun {i j b} z => by
    unfold subOf at z
    split at z
    · rename_i q; cases z; exact ⟨q.1, q.2, rfl⟩
    · cases z
  exact {
    excs := fun i nm hi => by
      obtain ⟨hl, _⟩ := List.getElem?_eq_some_iff.mp hi
      have hc : clsA e K i = He.ga K nm := by unfold clsA; rw [List.getD_eq_getElem?_getD, hi]; rfl
      have hm : nm ∈ e.exc := List.mem_of_getElem? hi
      have f1 := c.facts (f := .glo nm) (List.mem_append_right _ (List.mem_append_left _ (List.mem_map.mpr ⟨nm, hm, rfl⟩)))
      have f2 := c.facts (f := .exc nm) (List.mem_append_right _ (List.mem_append_right _ (List.mem_append_left _ (List.mem_map.mpr ⟨nm, hm, rfl⟩))))
      obtain ⟨k1, k2, k3, k4⟩ := He.exc_ok f2
      rw [hc]
      exact { g := He.glo_ok KX G f1, k := k2, x := k1, b := k3, t := k4, c := by rw [← hc]; exact exaB_ok (hx i hl).1 }
    exm := fun i j b z => by
      obtain ⟨h1, h2, rfl⟩ := hsub z
      exact ((hx i h1).2 j h2).1
    kit := fun i j b z => by
      obtain ⟨h1, h2, rfl⟩ := hsub z
      exact ⟨((hx i h1).2 j h2).2, exaB_ok (hx i h1).1⟩
    cons := fun x i z => by
      have f := c.facts (f := .int x i) (List.mem_append_right _ (List.mem_append_right _ (List.mem_append_right _ (List.mem_append_right _ (List.mem_map.mpr ⟨(x, i), lookup_mem z, rfl⟩)))))
      obtain ⟨t, ht⟩ := He.int_ok KX G f
      exact ⟨_, ht, t, rfl⟩
    blt := fun x hxm => He.free_ok KX G (c.facts (f := .free (x : Str)) (List.mem_append_right _ (List.mem_append_right _ (List.mem_append_right _ (List.mem_append_left _ (List.mem_map.mpr ⟨x, hxm, rfl⟩)))))) }
theorem nolist_of (hx : exB e sb K = true) {a : Addr} {o : Obj} (l : K.lookup a = some o) : o.cls ≠ .type "list" := fun z => by
  unfold exB at hx
  simp only [Bool.and_eq_true] at hx
  have hm : (a, o) ∈ K := by
    clear hx
    induction K with
    | nil => cases l
    | cons p K ih =>
      obtain ⟨b, u⟩ := p
      rw [List.lookup_cons] at l
      by_cases hb : a = b
      · subst hb
        rw [beq_self_eq_true] at l
        cases l
        exact List.mem_cons_self
      · have : (a == b) = false := by simpa using hb
        rw [this] at l
        exact List.mem_cons_of_mem _ (ih l)
  have := List.all_eq_true.mp hx.2 _ hm
  unfold isListO at this
  rw [z] at this
  simp at this
theorem stands_of (KX : K.In h) (G : h.Ns mainGlobals mg) (c : He.SaysD (faOf e rows) fn K) {r : Row} {d : He.DefD} (hr : r ∈ rows) (hd : d ∈ fn) (hat : d.at_ = (r.nm, none))
    (bn : ∀ fd, FunD K d.name d.qual d.params d.body d.scope (d.dvs K) (d.kws K) (He.fAd K d.at_) fd → ∃ ds, Binds K fd r.ps ds ∧ Vals (r.dv.map V.int) ds) : ∃ f fd, Stands K mg r f fd d.body d.scope := by
  obtain ⟨fd, F⟩ := c.defs hd
  have f1 := c.facts (f := .glo r.nm) (List.mem_append_left _ (List.mem_map.mpr ⟨r, hr, rfl⟩))
  have hf : He.fAd K d.at_ = He.ga K r.nm := by rw [hat]; rfl
  refine ⟨He.fAd K d.at_, fd, ?_, ⟨_, _, _, _, _, F⟩, F.kp, bn fd F⟩
  rw [hf]
  exact He.glo_ok KX G f1
end
end DV
end
section
set_option Elab.async false
set_option maxRecDepth 100000
set_option linter.all false
/-! DV19: the law's own def: it reads the script once, by a def of its own; behind that it is data. -/
namespace DV
open PySem PySem.Spec PyProof.Rows L2

def intsB : List Int → List Expr → Bool
  | [], [] => true
  | i :: is, .Constant (.int j) _ _ :: es => decide (i = j) && intsB is es
  | _, _ => false
/-- return [list(x), i, ..] -/
def startB (sc : Scope) (x : Str) (is : List Int) : List Stmt → Bool
  | [.Return (some (.List (.Call (.Name f _) [.Name y _] [] _ :: es) _)) _] => decide (f = ("list" : Str)) && decide (sc.names.lookup f = some .globalImplicit) && decide (y = x) && visB sc y && nod y && intsB is es && decide (is.length ≤ 100)
  | _ => false
/-- y = g(x) -/
def lawB (c : Cc) (i : Nat) (g : Str) : Stmt → Bool
  | .Assign [.Name y _] (.Call (.Name f _) [.Name z _] [] _) _ => decide (c.N[i]? = some y) && locB c y && decide (f = g) && glB c.sc f && chkV c 0 z
  | _ => false
def spStart (K : PySem.W.Frag) (is : List Int) : Sp := fun vs H Q _ => ∃ (a : Addr) (xs : List V), vs = [.ref a] ∧ SqL K H a xs ∧ ∀ l p, H l = none → (upd H l (.lst xs)) p = none → Q (.ref p) (upd (upd H l (.lst xs)) p (.lst (.ref l :: is.map V.int)))
def spLaw (K : PySem.W.Frag) (m : Nat) : Sp := fun vs H Q _ => ∃ (a : Addr) (ns : List Int), vs = [.ref a] ∧ ns.length ≤ m ∧ SqL K H a (ns.map V.int) ∧ ∀ H', Q (.bl true) H'
theorem sA_ints {X : Cx} : ∀ {is : List Int} {es : List Expr} {σ : St} {H : Hp} {Q : List V → Hp → Prop}, intsB is es = true → Q (is.map V.int) H → sA X es σ H Q
  | [], es, σ, H, Q, h, q => by
    cases es with
    | nil => exact sA_nil q
    | cons e es => exact absurd h Bool.false_ne_true
  | i :: is, es, σ, H, Q, h, q => by
    cases es with
    | nil => exact absurd h Bool.false_ne_true
    | cons e es =>
      cases e
      case Constant k n p =>
        cases k
        case int j =>
          have h : (decide (i = j) && intsB is es) = true := h
          simp only [Bool.and_eq_true, decide_eq_true_eq] at h
          obtain ⟨hi, h'⟩ := h
          subst hi
          exact sA_cons rfl (sE_of pe_int (sA_ints h' q))
        all_goals exact absurd h Bool.false_ne_true
      all_goals exact absurd h Bool.false_ne_true
section
variable {P : Program} {w : World} {K : PySem.W.Frag} {mg : Str → Option Value} {base : Heap} {cls : Nat → Addr} {G : Nat → DSp} {sub : Nat → Nat → Option Bool}
theorem start_ok {x qual : Str} {params : Arguments} {body : List Stmt} {scope : Scope} {dvs : List V} {kws : List (Str × V)} {f : Addr} {fd : FuncData} {k : Nat} {s : Str} {is : List Int} (F : FunD K x qual params body scope dvs kws f fd) (S : FnScope [s] [s] scope)
    (hb : startB scope s is body = true) (hl : mg ("list" : Str) = none) : FnOk P w K mg base (L2.CX P w) (k + 1) f fd [s] (spStart K is) := by
  refine F.ok S (fun vs H Q E h => ?_) (fun cdv A outer st H vs Q E hr h => ⟨_, pss_s, ?_⟩)
  · obtain ⟨a, xs, rfl, _⟩ := h; rfl
  unfold startB at hb
  split at hb
  · rename_i fn p1 y p2 p3 es p4 p5
    simp only [Bool.and_eq_true, decide_eq_true_eq] at hb
    obtain ⟨⟨⟨⟨⟨⟨rfl, h2⟩, rfl⟩, h4⟩, h5⟩, h6⟩, h7⟩ := hb
    obtain ⟨n1, n2, n3⟩ := nod_of h5
    obtain ⟨a, xs, rfl, hS, hQ⟩ := h
    have hes : starEach [Expr.Name y p2] (cxOf (L2.CX P w) P w K mg base [y] qual scope f cdv A outer st H E).env = (false, eval (Expr.Name y p2) _) :: starEach [] _ := starEach_ns rfl
    refine sSs_of (pss_one (ps_ret (pe_lst pa_s))) ?_
    refine sA_cons rfl (sE_of (pe_callTy call_list_of (show Gl _ _ from h2) hl (boot_ty .list) pa_s (by decide) (by decide) (starEach_ns rfl) (by rw [back_any]; rfl)) ?_)
    refine sA_cons rfl (sE_of (pe_var (i := 0) rfl (show Vis _ _ from visB_of h4) n1 n2) ⟨.ref a, rfl, sA_nil ?_⟩)
    refine ⟨a, xs, rfl, .inl hS, fun l hl => sA_ints h6 ⟨?_, fun p hp => hQ l p hl hp⟩⟩
    rw [List.length_cons, List.length_map, sizeLine_eq]
    omega
  · cases hb
theorem law_ok {x qual : Str} {params : Arguments} {body rest : List Stmt} {s0 : Stmt} {scope : Scope} {dvs : List V} {kws : List (Str × V)} {f : Addr} {fd : FuncData} {s gn : Str} {is : List Int} {c : Cc} {ir : Ss} {i m ls : Nat} (F : FunD K x qual params body scope dvs kws f fd) (hbody : body = s0 :: rest)
    (S : FnScope c.N [s] scope) (sc : c.sc = scope) (hfn : c.fn = fun _ => true) (hcm : c.cm = true) (hev : c.ev = none) (hpm : c.pm = []) (st : Stat P w K mg base cls c G sub) (hchk : chkSs c ir rest = true) (h0 : lawB c i gn s0 = true)
    (hst : ∃ fS fdS, mg gn = some (.ref fS) ∧ FnOk P w K mg base (L2.CX P w) ls fS fdS [s] (spStart K is) ∧ PySem.W.keepIn K (.ref fS) = true ∧ Binds K fdS [s] []) (hls : ls ≤ c.lvl)
    (vc : ∀ ns : List Int, ns.length ≤ m → rdSs ⟨G, [], none, sub⟩ ir ((List.replicate c.N.length none).set i (some (.own (.lst (ns.map D.int) :: is.map D.int)))) ⟨fun _ => False, fun b _ => b = .val (.bl true), fun _ => False, fun _ => False, noEr⟩) :
    FnOk P w K mg base (L2.CX P w) (c.lvl + 1) f fd [s] (spLaw K m) := by
  subst sc hbody
  refine F.ok S (fun vs H Q E h => ?_) (fun cdv A outer sh H vs Q E hr h => ⟨_, pss_s, ?_⟩)
  · obtain ⟨a, ns, rfl, _⟩ := h; rfl
  let X : Cx := cxOf (L2.CX P w) P w K mg base c.N qual c.sc f cdv A outer sh H E
  have g : Good X c (fun cls d _ H => E cls d H) cls G sub := by
    exact {
      st := st
      hN := rfl
      nd := S.nd
      sc := rfl
      kd := S.kind
      fn := fun y => by rw [hfn]; rfl
      room := fun _ => hr
      hu := hr.units
      calm := fun _ => rfl
      ev := fun _ => hev
      tk := takes_of rfl rfl rfl rfl
      own := passes_of rfl }
  have hN1 : 1 ≤ c.N.length := by
    have := congrArg List.length S.pre
    rw [List.length_take] at this
    simp at this
    omega
  obtain ⟨a, ns, rfl, hm, hS, hQ⟩ := h
  unfold lawB at h0
  split at h0
  · rename_i y p1 fn p2 z p3 p4 p5
    simp only [Bool.and_eq_true, decide_eq_true_eq] at h0
    obtain ⟨⟨⟨⟨k1, k2⟩, rfl⟩, k4⟩, k5⟩ := h0
    obtain ⟨fS, fdS, e1, e2, e3, e4⟩ := hst
    obtain ⟨n1, n2⟩ := glB_of k4
    obtain ⟨l1, l2⟩ := g.loc k2
    obtain ⟨v1, v2, v3⟩ := chkV_of k5
    obtain ⟨o1, o2, o3⟩ := nod_of v3
    have hi : i < c.N.length := (List.getElem?_eq_some_iff.mp k1).1
    refine sSs_of (pss_cons ps_s pss_s) (sS_of (ps_set (X := X) (nodX g) (g.slot k1) l1 pe_s rfl l2) ?_)
    refine sE_call1 (E' := WE (fun _ _ _ _ => False)) (dvs := []) e2 ((g.room hcm).mono hls) (g.gl n1) e1 e3 e4 .nil (fun σ => fun _ _ _ e s' I cx => ?_) (nod_of n2).1 rfl rfl ?_
    · exact passAt (X := X) (W := fun _ _ _ _ => False) (fun u s' ⟨_, _, _, _, _, _, _, _, _, _, _, _, _, _, _, _, zz⟩ => zz.elim) σ _ _ _ e s' I cx
    refine sA_cons rfl (sE_of (g.var k5) ⟨.ref a, ?_, sA_nil ?_⟩)
    · have : c.N[0]? = some z := v1
      exact start_got (vs := [V.ref a]) rfl
    refine ⟨a, ns.map V.int, rfl, hS, fun l p hl hp => ?_⟩
    have hpl : p ≠ l := fun zz => by rw [zz, upd_same] at hp; cases hp
    have sm : Sim ⟨fun _ => none, fun _ => none, [], []⟩ ((List.replicate c.N.length none).set i (some (.own (.lst (ns.map D.int) :: is.map D.int)))) ((L2.start c.N [V.ref a]).set i (some (.ref p))) (upd (fun _ => none) l (.lst (ns.map V.int))) (upd (upd H l (.lst (ns.map V.int))) p (.lst (.ref l :: is.map V.int))) := by
      have lenσ : (L2.start c.N [V.ref a]).length = c.N.length := by
        unfold L2.start
        simp
        omega
      have only : ∀ {j b}, getE ((List.replicate c.N.length none).set i (some (B.own (.lst (ns.map D.int) :: is.map D.int)))) j = some b → j = i ∧ b = .own (.lst (ns.map D.int) :: is.map D.int) := fun {j b} zz => by
        rw [getE_set] at zz
        split at zz
        · rename_i q
          cases zz
          exact ⟨q.1.symm, rfl⟩
        · unfold getE at zz
          rw [List.getD_eq_getElem?_getD, List.getElem?_replicate] at zz
          split at zz <;> cases zz
      have ge : getE ((List.replicate c.N.length none).set i (some (B.own (.lst (ns.map D.int) :: is.map D.int)))) i = some (.own (.lst (ns.map D.int) :: is.map D.int)) := by
        rw [getE_set, if_pos ⟨rfl, by simpa using hi⟩]
      have gσ : ((L2.start c.N [V.ref a]).set i (some (.ref p)))[i]? = some (some (.ref p)) := List.getElem?_set_self (by omega)
      exact {
        ff := fun _ _ zz => by cases zz
        fh := fun b o zz => by
          by_cases hb : b = l
          · subst hb
            rw [upd_same] at zz
            rw [upd_ne (fun q => hpl q.symm), upd_same]
            exact zz
          · rw [upd_ne hb] at zz; cases zz
        grow := fun _ _ zz => absurd rfl zz
        keep := fun _ _ zz => by cases zz
        len := by rw [List.length_set, List.length_set, List.length_replicate, lenσ]
        slot := fun j b zz => by
          obtain ⟨rfl, rfl⟩ := only zz
          refine ⟨_, gσ, p, _, rfl, ?_, upd_same, ⟨.ref l, is.map V.int, rfl, ⟨l, _, rfl, upd_same, RepL.of_ints ns⟩, RepL.of_ints is⟩⟩
          rw [upd_ne hpl]
        dist := fun j j' b ⟨⟨_, q1⟩, _⟩ ⟨⟨_, q2⟩, _⟩ => (only q1).1.trans (only q2).1.symm
        fresh := fun _ _ _ => .inl rfl
        par := fun _ zz => by cases zz
        pins := fun _ zz => by cases zz }
    refine snd_Ss ir none X c _ rest g ⟨rfl, rfl⟩ hchk ⟨fun _ => none, fun _ => none, [], []⟩ _ _ _ _ ⟨fun _ => False, fun b _ => b = .val (.bl true), fun _ => False, fun _ => False, noEr⟩ _ hpm.symm (evNone hev) sm
      ⟨fun _ _ _ _ _ _ zz => zz.elim, fun σ ρ F' H' v b _ rv q => ?_, fun _ _ _ _ _ _ zz => zz.elim, fun _ _ _ _ _ _ zz => zz.elim, fun _ _ _ _ _ _ zz => zz.elim⟩ (by rw [hpm]; exact vc ns hm)
    subst q
    have : v = .bl true := rv
    subst this
    exact hQ H'
  · cases h0
theorem fn_calm {k : Nat} {f : Addr} {fd : FuncData} {ps : List Str} {sp : Sp} (F : FnOk P w K mg base (L2.CX P w) k f fd ps sp) (h : ∀ vs H Q E, sp vs H Q E → sp vs H Q fun _ _ _ => False) : FnOk P w K mg base L2.CX0 k f fd ps sp :=
  ⟨F.len, fun A outer s H args us vs Q E hr he hb hv hs => codeAny_mono (F.run A outer s H args us vs Q (fun _ _ _ => False) hr he hb hv (h _ _ _ _ hs)) fun r s' hq => by
    cases r with
    | error e =>
      obtain ⟨_, _, _, _, _, _, _, _, _, _, _, _, z⟩ := hq
      exact z.elim
    | ok fl => cases fl <;> exact hq⟩
/-- the level's table, as the checker's context wishes it -/
theorem stat_of {e : Env1} {rows : List Row} {t : List (List Int × DSp)} {r : Row} {sc : Scope} (W : World1 K mg cls sub e) (ht : t.map (·.1) = rows.map (·.dv))
    (ok : ∀ (i : Nat) (q : Row) (dv : List Int) (sp : DSp), rows[i]? = some q → t[i]? = some (dv, sp) → ∃ f fd, mg q.nm = some (.ref f) ∧ FnOk P w K mg base (L2.CX P w) q.lv f fd q.ps (spV cls q.ps.length sp) ∧ PySem.W.keepIn K (.ref f) = true ∧
      (∃ ds, Binds K fd q.ps ds ∧ Vals (q.dv.map V.int) ds) ∧ q.ps.length = q.ar + q.dv.length ∧ q.dv = dv) : Stat P w K mg base cls (r.cc e (tblOf rows) sc) (gS t) sub where
  funs := fun j nm ar lv hG hle => by
    have hG : (tblOf rows)[j]? = some (nm, ar, lv) := hG
    unfold tblOf at hG
    rw [List.getElem?_map] at hG
    cases ej : rows[j]? with
    | none => rw [ej] at hG; cases hG
    | some q =>
      rw [ej] at hG
      have hq : (q.nm, q.ar, q.lv) = (nm, ar, lv) := Option.some.inj hG
      cases hq
      have hjt : j < t.length := by
        have h1 := congrArg List.length ht
        rw [List.length_map, List.length_map] at h1
        have h2 := (List.getElem?_eq_some_iff.mp ej).1
        omega
      have et : t[j]? = some (t[j].1, t[j].2) := by rw [List.getElem?_eq_getElem hjt]
      obtain ⟨f', fd', g1, g2, g3, ⟨ds, g4, g5⟩, g6, g7⟩ := ok j q _ _ ej et
      refine ⟨f', fd', q.ps, q.dv, ds, t[j].2, g1, g2, g3, g4, g5, g6, fun bs K0 _ hG => ?_⟩
      unfold gS at hG
      rw [et] at hG
      rw [g7]
      exact hG
  excs := W.excs
  exm := W.exm
  kit := W.kit
  cons := W.cons
  blt := W.blt
end
end DV
end
section
set_option Elab.async false
set_option maxRecDepth 100000
set_option linter.all false
/-! K78: the small syntax is the program's own (printed by gen.py). -/
namespace K78
open PySem DV L2
def G : List (Str × Nat × Nat) := tblOf rows
theorem chk0 : row0.chk env G (defBody (top 47)) (defScope (top 47)) = true := by decide +kernel
theorem chk1 : row1.chk env G (defBody (top 48)) (defScope (top 48)) = true := by decide +kernel
theorem chk2 : row2.chk env G (defBody (top 49)) (defScope (top 49)) = true := by decide +kernel
theorem chk3 : row3.chk env G (defBody (top 50)) (defScope (top 50)) = true := by decide +kernel
theorem chk4 : row4.chk env G (defBody (top 53)) (defScope (top 53)) = true := by decide +kernel
theorem chk5 : row5.chk env G (defBody (top 55)) (defScope (top 55)) = true := by decide +kernel
theorem chk6 : row6.chk env G (defBody (top 65)) (defScope (top 65)) = true := by decide +kernel
theorem chk7 : row7.chk env G (defBody (top 51)) (defScope (top 51)) = true := by decide +kernel
theorem chk8 : row8.chk env G (defBody (top 54)) (defScope (top 54)) = true := by decide +kernel
theorem chk9 : row9.chk env G (defBody (top 66)) (defScope (top 66)) = true := by decide +kernel
theorem chk10 : row10.chk env G (defBody (top 64)) (defScope (top 64)) = true := by decide +kernel
theorem chk11 : row11.chk env G (defBody (top 68)) (defScope (top 68)) = true := by decide +kernel
theorem chk12 : row12.chk env G (defBody (top 52)) (defScope (top 52)) = true := by decide +kernel
theorem chk13 : row13.chk env G (defBody (top 80)) (defScope (top 80)) = true := by decide +kernel
theorem chk14 : row14.chk env G (defBody (top 71)) (defScope (top 71)) = true := by decide +kernel
theorem chk15 : row15.chk env G (defBody (top 61)) (defScope (top 61)) = true := by decide +kernel
theorem chk16 : row16.chk env G (defBody (top 69)) (defScope (top 69)) = true := by decide +kernel
theorem chk17 : row17.chk env G (defBody (top 70)) (defScope (top 70)) = true := by decide +kernel
theorem chk18 : row18.chk env G (defBody (top 56)) (defScope (top 56)) = true := by decide +kernel
theorem chk19 : row19.chk env G (defBody (top 56)) (defScope (top 56)) = true := by decide +kernel
theorem chk20 : row20.chk env G (defBody (top 56)) (defScope (top 56)) = true := by decide +kernel
theorem chk21 : row21.chk env G (defBody (top 56)) (defScope (top 56)) = true := by decide +kernel
theorem chk22 : row22.chk env G (defBody (top 56)) (defScope (top 56)) = true := by decide +kernel
theorem chk23 : row23.chk env G (defBody (top 56)) (defScope (top 56)) = true := by decide +kernel
theorem chk24 : row24.chk env G (defBody (top 56)) (defScope (top 56)) = true := by decide +kernel
theorem chk25 : row25.chk env G (defBody (top 56)) (defScope (top 56)) = true := by decide +kernel
theorem chk26 : row26.chk env G (defBody (top 56)) (defScope (top 56)) = true := by decide +kernel
theorem chk27 : row27.chk env G (defBody (top 56)) (defScope (top 56)) = true := by decide +kernel
theorem chk28 : row28.chk env G (defBody (top 56)) (defScope (top 56)) = true := by decide +kernel
theorem chk29 : row29.chk env G (defBody (top 63)) (defScope (top 63)) = true := by decide +kernel
theorem chk30 : row30.chk env G (defBody (top 62)) (defScope (top 62)) = true := by decide +kernel
theorem chk31 : row31.chk env G (defBody (top 58)) (defScope (top 58)) = true := by decide +kernel
theorem chk32 : row32.chk env G (defBody (top 67)) (defScope (top 67)) = true := by decide +kernel
theorem chk33 : row33.chk env G (defBody (top 57)) (defScope (top 57)) = true := by decide +kernel
theorem chk34 : row34.chk env G (defBody (top 60)) (defScope (top 60)) = true := by decide +kernel
theorem chk35 : row35.chk env G (defBody (top 59)) (defScope (top 59)) = true := by decide +kernel
theorem chk36 : row36.chk env G (defBody (top 74)) (defScope (top 74)) = true := by decide +kernel
theorem chk37 : row37.chk env G (defBody (top 75)) (defScope (top 75)) = true := by decide +kernel
theorem chk38 : row38.chk env G (defBody (top 76)) (defScope (top 76)) = true := by decide +kernel
theorem chk39 : row39.chk env G (defBody (top 72)) (defScope (top 72)) = true := by decide +kernel
theorem chk40 : row40.chk env G (defBody (top 73)) (defScope (top 73)) = true := by decide +kernel
theorem chk41 : row41.chk env G (defBody (top 78)) (defScope (top 78)) = true := by decide +kernel
theorem chk42 : row42.chk env G (defBody (top 77)) (defScope (top 77)) = true := by decide +kernel
theorem chk43 : row43.chk env G (defBody (top 79)) (defScope (top 79)) = true := by decide +kernel
theorem chk44 : row44.chk env G (defBody (top 19)) (defScope (top 19)) = true := by decide +kernel
theorem chk45 : row45.chk env G (defBody (top 12)) (defScope (top 12)) = true := by decide +kernel
theorem chk46 : row46.chk env G (defBody (top 17)) (defScope (top 17)) = true := by decide +kernel
theorem chk47 : row47.chk env G (defBody (top 18)) (defScope (top 18)) = true := by decide +kernel
theorem chk48 : row48.chk env G (defBody (top 20)) (defScope (top 20)) = true := by decide +kernel
theorem chk49 : row49.chk env G (defBody (top 21)) (defScope (top 21)) = true := by decide +kernel
theorem chk50 : row50.chk env G (defBody (top 22)) (defScope (top 22)) = true := by decide +kernel
theorem chk51 : row51.chk env G (defBody (top 25)) (defScope (top 25)) = true := by decide +kernel
theorem chk52 : row52.chk env G (defBody (top 30)) (defScope (top 30)) = true := by decide +kernel
theorem chk53 : row53.chk env G (defBody (top 36)) (defScope (top 36)) = true := by decide +kernel
theorem chk54 : row54.chk env G (defBody (top 37)) (defScope (top 37)) = true := by decide +kernel
theorem chk55 : row55.chk env G (defBody (top 14)) (defScope (top 14)) = true := by decide +kernel
theorem chk56 : row56.chk env G (defBody (top 15)) (defScope (top 15)) = true := by decide +kernel
theorem chk57 : row57.chk env G (defBody (top 16)) (defScope (top 16)) = true := by decide +kernel
theorem chk58 : row58.chk env G (defBody (top 23)) (defScope (top 23)) = true := by decide +kernel
theorem chk59 : row59.chk env G (defBody (top 32)) (defScope (top 32)) = true := by decide +kernel
theorem chk60 : row60.chk env G (defBody (top 33)) (defScope (top 33)) = true := by decide +kernel
theorem chk61 : row61.chk env G (defBody (top 34)) (defScope (top 34)) = true := by decide +kernel
theorem chk62 : row62.chk env G (defBody (top 35)) (defScope (top 35)) = true := by decide +kernel
theorem chk63 : row63.chk env G (defBody (top 39)) (defScope (top 39)) = true := by decide +kernel
theorem chk64 : row64.chk env G (defBody (top 40)) (defScope (top 40)) = true := by decide +kernel
theorem chk65 : row65.chk env G (defBody (top 38)) (defScope (top 38)) = true := by decide +kernel
theorem chk66 : row66.chk env G (defBody (top 41)) (defScope (top 41)) = true := by decide +kernel
theorem chk67 : row67.chk env G (defBody (top 24)) (defScope (top 24)) = true := by decide +kernel
theorem chk68 : row68.chk env G (defBody (top 27)) (defScope (top 27)) = true := by decide +kernel
theorem chk69 : row69.chk env G (defBody (top 28)) (defScope (top 28)) = true := by decide +kernel
theorem chk70 : row70.chk env G (defBody (top 44)) (defScope (top 44)) = true := by decide +kernel
theorem chk71 : row71.chk env G (defBody (top 42)) (defScope (top 42)) = true := by decide +kernel
theorem chk72 : row72.chk env G (defBody (top 43)) (defScope (top 43)) = true := by decide +kernel
theorem chk73 : row73.chk env G (defBody (top 84)) (defScope (top 84)) = true := by decide +kernel
theorem chk74 : row74.chk env G (defBody (top 85)) (defScope (top 85)) = true := by decide +kernel
theorem chk75 : row75.chk env G (defBody (top 81)) (defScope (top 81)) = true := by decide +kernel
theorem chk76 : row76.chk env G (defBody (top 82)) (defScope (top 82)) = true := by decide +kernel
theorem chk77 : row77.chk env G (defBody (top 83)) (defScope (top 83)) = true := by decide +kernel
theorem chkStart : (scB ["script"] ["script"] (defScope (top 46)) && startB (defScope (top 46)) "script" inits (defBody (top 46))) = true := by decide +kernel
def lawStmt : Stmt := (defBody (top 86)).headD (.Pass ⟨0, 0, 0, 0⟩)
def lawRest : List Stmt := (defBody (top 86)).tail
theorem lawBody : defBody (top 86) = lawStmt :: lawRest := by rfl
theorem chkLaw : (scB rowLaw.N ["script"] (defScope (top 86)) && lawB (rowLaw.cc env G (defScope (top 86))) 1 "_law_start" lawStmt && chkSs (rowLaw.cc env G (defScope (top 86))) rowLaw.ir lawRest) = true := by decide +kernel
end K78
end
section
set_option Elab.async false
set_option maxRecDepth 100000
set_option linter.all false
/-! DV20: how a reading is proved. -/
namespace DV
open PySem

theorem br_i {k : Bool} {A C : Prop} (a : k = true → A) (c : k = false → C) : br k A C := by cases k with
  | true => exact a rfl
  | false => exact c rfl
theorem br_d {p : Prop} [Decidable p] {A C : Prop} (a : p → A) (c : ¬ p → C) : br (decide p) A C := br_i (fun h => a (of_decide_eq_true h)) fun h => c (of_decide_eq_false h)
theorem br_n {p : Prop} [Decidable p] {A C : Prop} (a : ¬ p → A) (c : p → C) : br (!decide p) A C := by
  by_cases h : p
  · have : (!decide p) = false := by simp [h]
    rw [this]; exact c h
  · have : (!decide p) = true := by simp [h]
    rw [this]; exact a h
theorem br_t {k : Bool} {A C : Prop} (h : k = true) (a : A) : br k A C := by rw [h]; exact a
theorem br_f {k : Bool} {A C : Prop} (h : k = false) (c : C) : br k A C := by rw [h]; exact c
/-- a loop over things, by its rest -/
theorem for_by {f : D → Env → (Env → Prop) → Prop} {nx : Env → Prop} (I : List D → Env → Prop) (hn : ∀ ρ, I [] ρ → nx ρ) (hc : ∀ x xs ρ, I (x :: xs) ρ → ∀ k : Env → Prop, (∀ ρ', I xs ρ' → k ρ') → f x ρ k) : ∀ items ρ, I items ρ → forLoop f items ρ nx
  | [], ρ, h => hn ρ h
  | x :: xs, ρ, h => hc x xs ρ h _ fun ρ' h' => for_by I hn hc xs ρ' h'
/-- .. by the turn -/
theorem for_ix {f : D → Env → (Env → Prop) → Prop} {nx : Env → Prop} {items : List D} {ρ : Env} (I : Nat → Env → Prop) (h0 : I 0 ρ) (hs : ∀ i x ρ, i < items.length → items[i]? = some x → I i ρ → ∀ k : Env → Prop, (∀ ρ', I (i + 1) ρ' → k ρ') → f x ρ k) (he : ∀ ρ, I items.length ρ → nx ρ) : forLoop f items ρ nx := by
  have key : ∀ (n i : Nat) (ρ : Env), n = items.length - i → i ≤ items.length → I i ρ → forLoop f (items.drop i) ρ nx := by
    intro n
    induction n with
    | zero =>
      intro i ρ hn hi h
      have : i = items.length := by omega
      subst this
      rw [List.drop_length]
      exact he ρ h
    | succ n ih =>
      intro i ρ hn hi h
      have hlt : i < items.length := by omega
      rw [List.drop_eq_getElem_cons hlt]
      exact hs i _ ρ hlt (List.getElem?_eq_getElem hlt) h _ fun ρ' h' => ih (i + 1) ρ' (by omega) hlt h'
  exact key _ 0 ρ rfl (Nat.zero_le _) h0
theorem rngL_at {lo c : Int} {n i : Nat} {x : D} (h : (rngL lo n c)[i]? = some x) : i < n ∧ x = .int (lo + (i : Int) * c) := by
  unfold rngL at h
  rw [List.getElem?_map] at h
  by_cases hi : i < n
  · rw [List.getElem?_range hi] at h
    cases h
    exact ⟨hi, rfl⟩
  · rw [List.getElem?_eq_none (by simpa using Nat.le_of_not_lt hi)] at h
    cases h
theorem rngL_size {lo c : Int} {n : Nat} : (rngL lo n c).length = n := by unfold rngL; simp
/-- a loop over a range from 0 -/
theorem for_rng {f : D → Env → (Env → Prop) → Prop} {nx : Env → Prop} {lo c : Int} {n : Nat} {ρ : Env} (I : Nat → Env → Prop) (h0 : I 0 ρ) (hs : ∀ (i : Nat) ρ, i < n → I i ρ → ∀ k : Env → Prop, (∀ ρ', I (i + 1) ρ' → k ρ') → f (.int (lo + (i : Int) * c)) ρ k) (he : ∀ ρ, I n ρ → nx ρ) : forLoop f (rngL lo n c) ρ nx :=
  for_ix I h0 (fun i x ρ _ hx h k hk => by
    obtain ⟨h1, rfl⟩ := rngL_at hx
    exact hs i ρ h1 h k hk) fun ρ h => he ρ (by rw [rngL_size] at h; exact h)
/-- a comprehension, by the turn -/
theorem lc_ix {f : D → Env → (Option D → Env → Prop) → Prop} {items : List D} {ρ : Env} {Q : List D → Env → Prop} (I : Nat → List D → Env → Prop) (h0 : I 0 [] ρ)
    (hs : ∀ i x acc ρ, i < items.length → items[i]? = some x → I i acc ρ → ∀ k : Option D → Env → Prop, (∀ d ρ', I (i + 1) (acc ++ [d]) ρ' → k (some d) ρ') → (∀ ρ', I (i + 1) acc ρ' → k none ρ') → f x ρ k) (he : ∀ acc ρ, I items.length acc ρ → Q acc ρ) : lcLoop f items [] ρ Q := by
  have key : ∀ (n i : Nat) (acc : List D) (ρ : Env), n = items.length - i → i ≤ items.length → I i acc ρ → lcLoop f (items.drop i) acc ρ Q := by
    intro n
    induction n with
    | zero =>
      intro i acc ρ hn hi h
      have : i = items.length := by omega
      subst this
      rw [List.drop_length]
      exact he acc ρ h
    | succ n ih =>
      intro i acc ρ hn hi h
      have hlt : i < items.length := by omega
      rw [List.drop_eq_getElem_cons hlt]
      refine hs i _ acc ρ hlt (List.getElem?_eq_getElem hlt) h _ (fun d ρ' h' => ?_) (fun ρ' h' => ?_)
      · exact ih (i + 1) (acc ++ [d]) ρ' (by omega) hlt h'
      · exact ih (i + 1) acc ρ' (by omega) hlt h'
  exact key _ 0 [] ρ rfl (Nat.zero_le _) h0
/-- .. each thing by a function, the slots as they were -/
theorem lc_map {f : D → Env → (Option D → Env → Prop) → Prop} {items : List D} {ρ : Env} {Q : List D → Env → Prop} (g : D → D) (hs : ∀ x, x ∈ items → ∀ k : Option D → Env → Prop, k (some (g x)) ρ → f x ρ k) (he : Q (items.map g) ρ) : lcLoop f items [] ρ Q := by
  refine lc_ix (fun i acc ρ' => ρ' = ρ ∧ acc = (items.take i).map g) ⟨rfl, rfl⟩ (fun i x acc ρ' hi hx ⟨e1, e2⟩ k hk _ => ?_) (fun acc ρ' ⟨e1, e2⟩ => ?_)
  · subst e1
    refine hs x (List.mem_of_getElem? hx) k (hk _ _ ⟨rfl, ?_⟩)
    rw [e2, List.take_add_one, hx]
    simp
  · subst e1 e2
    rw [List.take_length]
    exact he
/-- .. each thing by a relation -/
theorem lc_rel {f : D → Env → (Option D → Env → Prop) → Prop} {items : List D} {ρ : Env} {Q : List D → Env → Prop} (R : D → D → Prop) (hs : ∀ x, x ∈ items → ∀ k : Option D → Env → Prop, (∀ d, R x d → k (some d) ρ) → f x ρ k)
    (he : ∀ ds : List D, ds.length = items.length → (∀ (i : Nat) (x d : D), items[i]? = some x → ds[i]? = some d → R x d) → Q ds ρ) : lcLoop f items [] ρ Q := by
  refine lc_ix (fun i acc ρ' => ρ' = ρ ∧ acc.length = i ∧ ∀ (j : Nat) (x d : D), items[j]? = some x → acc[j]? = some d → R x d) ⟨rfl, rfl, fun j x d _ h => by simp at h⟩ (fun i x acc ρ' hi hx ⟨e1, e2, e3⟩ k hk _ => ?_) (fun acc ρ' ⟨e1, e2, e3⟩ => ?_)
  · subst e1
    refine hs x (List.mem_of_getElem? hx) k fun d hd => hk _ _ ⟨rfl, by simp [e2], fun j y z h1 h2 => ?_⟩
    by_cases hj : j < acc.length
    · rw [List.getElem?_append_left hj] at h2
      exact e3 j y z h1 h2
    · rw [List.getElem?_append_right (Nat.le_of_not_lt hj)] at h2
      have hj0 : j - acc.length = 0 := by
        by_cases h : j - acc.length = 0
        · exact h
        · obtain ⟨m, hm⟩ := Nat.exists_eq_succ_of_ne_zero h
          rw [hm] at h2
          simp at h2
      have hji : j = i := by omega
      subst hji
      rw [hj0] at h2
      rw [hx] at h1
      cases h1
      simp at h2
      subst h2
      exact hd
  · subst e1
    exact he acc e2 e3
/-! sizes -/
theorem lg_lt {i : Int} {k : Nat} (h : i.natAbs < 2 ^ k) : lg i ≤ k := by
  unfold lg
  by_cases h0 : i.natAbs = 0
  · rw [h0]; simp
  · have := (Nat.log2_lt h0).mpr h
    omega
theorem lg_mul (i j : Int) : lg (i * j) ≤ lg i + lg j + 1 := by
  unfold lg
  rw [Int.natAbs_mul]
  by_cases h0 : i.natAbs * j.natAbs = 0
  · rw [h0]; simp
  · have h1 : i.natAbs < 2 ^ (i.natAbs.log2 + 1) := Nat.lt_log2_self
    have h2 : j.natAbs < 2 ^ (j.natAbs.log2 + 1) := Nat.lt_log2_self
    have : i.natAbs * j.natAbs < 2 ^ (i.natAbs.log2 + j.natAbs.log2 + 2) := by
      calc i.natAbs * j.natAbs < 2 ^ (i.natAbs.log2 + 1) * 2 ^ (j.natAbs.log2 + 1) := Nat.mul_lt_mul'' h1 h2
        _ = 2 ^ (i.natAbs.log2 + j.natAbs.log2 + 2) := by rw [← Nat.pow_add]; congr 1; omega
    have := (Nat.log2_lt h0).mpr this
    omega
theorem lg_add (i j : Int) : lg (i + j) ≤ max (lg i) (lg j) + 1 := by
  unfold lg
  by_cases h0 : (i + j).natAbs = 0
  · rw [h0]; simp
  · have h1 : i.natAbs < 2 ^ (i.natAbs.log2 + 1) := Nat.lt_log2_self
    have h2 : j.natAbs < 2 ^ (j.natAbs.log2 + 1) := Nat.lt_log2_self
    have h3 : 2 ^ (i.natAbs.log2 + 1) ≤ 2 ^ (max i.natAbs.log2 j.natAbs.log2 + 1) := Nat.pow_le_pow_right (by decide) (by omega)
    have h4 : 2 ^ (j.natAbs.log2 + 1) ≤ 2 ^ (max i.natAbs.log2 j.natAbs.log2 + 1) := Nat.pow_le_pow_right (by decide) (by omega)
    have h5 : (i + j).natAbs < 2 ^ (max i.natAbs.log2 j.natAbs.log2 + 2) := by
      have e : 2 ^ (max i.natAbs.log2 j.natAbs.log2 + 2) = 2 * 2 ^ (max i.natAbs.log2 j.natAbs.log2 + 1) := by rw [Nat.pow_succ]; omega
      omega
    have := (Nat.log2_lt h0).mpr h5
    omega
theorem lg_le {i j : Int} (h : i.natAbs ≤ j.natAbs) : lg i ≤ lg j := by
  unfold lg
  by_cases h0 : i.natAbs = 0
  · rw [h0]; simp
  · have hj : j.natAbs ≠ 0 := by omega
    rw [Nat.le_log2 hj]
    exact Nat.le_trans (Nat.log2_self_le h0) h
theorem fmod_ge {a b : Int} (h : 0 < b) : 0 ≤ a.fmod b := Int.fmod_nonneg_of_pos a h
theorem fmod_lt {a b : Int} (h : 0 < b) : a.fmod b < b := Int.fmod_lt_of_pos a h
theorem fdiv_ge {a b : Int} (ha : 0 ≤ a) (hb : 0 ≤ b) : 0 ≤ a.fdiv b := by
  rw [Int.fdiv_eq_ediv_of_nonneg _ hb]
  exact Int.ediv_nonneg ha hb
theorem mulOk_of {i j : Int} {p q : Nat} (hi : lg i ≤ p) (hj : lg j ≤ q) (h : p + q < 1000000 := by omega) : MulOk i j := by
  show lg i + lg j < 1000000
  omega
theorem lg_small {i : Int} {n : Nat} (k : Nat) (h0 : 0 ≤ i) (h : i < n) (hk : n ≤ 2 ^ k := by decide +kernel) : lg i ≤ k := lg_lt (by omega)
theorem fmod_e {a b : Int} (h : 0 < b := by decide) : a.fmod b = a % b := Int.fmod_eq_emod_of_nonneg _ (Int.le_of_lt h)
theorem fdiv_e {a b : Int} (h : 0 < b := by decide) : a.fdiv b = a / b := Int.fdiv_eq_ediv_of_nonneg _ (Int.le_of_lt h)
theorem noB {p : Prop} (h : false = true) : p := (Bool.false_ne_true h).elim
theorem ixN_in {n : Nat} {i : Int} (h0 : 0 ≤ i) (h1 : i < n) : L2.ixN n i = some i.toNat := by
  unfold L2.ixN
  rw [if_pos h0, if_pos h1]
theorem atI_in {α : Type} {xs : List α} {i : Int} (h0 : 0 ≤ i) (h1 : i < xs.length) : ∃ x, L2.atI xs i = some x ∧ xs[i.toNat]? = some x := by
  have hx : i.toNat < xs.length := by omega
  refine ⟨xs[i.toNat], ?_, List.getElem?_eq_getElem hx⟩
  unfold L2.atI
  rw [ixN_in h0 h1]
  exact List.getElem?_eq_getElem hx
theorem atI_ints {ns : List Int} {i : Int} (h0 : 0 ≤ i) (h1 : i < ns.length) : ∃ n : Int, L2.atI (ns.map D.int) i = some (.int n) ∧ ns[i.toNat]? = some n := by
  obtain ⟨x, e1, e2⟩ := atI_in (xs := ns.map D.int) h0 (by rw [List.length_map]; exact h1)
  rw [List.getElem?_map] at e2
  cases e : ns[i.toNat]? with
  | none => rw [e] at e2; cases e2
  | some n => rw [e] at e2; cases e2; exact ⟨n, e1, rfl⟩
/-- what stands behind a loop, proved once -/
theorem for_cut {f : D → Env → (Env → Prop) → Prop} {items : List D} {ρ : Env} {nx : Env → Prop} (J : Env → Prop) (hJ : ∀ ρ, J ρ → nx ρ) (hf : (∀ ρ, J ρ → nx ρ) → forLoop f items ρ nx) : forLoop f items ρ nx := hf hJ
/-- what stands behind a statement, proved once -/
theorem seq_cut {cx : Rx} {s : S} {r : Ss} {ρ : Env} {N : Dn} (J : Env → Prop) (hJ : ∀ ρ, J ρ → rdSs cx r ρ N) (hs : ∀ k : Env → Prop, (∀ ρ, J ρ → k ρ) → rdS cx s ρ ⟨k, N.rt, N.bk, N.ct, N.er⟩) : rdSs cx (.cons s r) ρ N := hs _ hJ
end DV
end
section
set_option Elab.async false
set_option maxRecDepth 100000
set_option linter.all false
/-! DV21: lists by a function of the place. -/
namespace DV
open PySem
def ls {α : Type} (n : Nat) (f : Nat → α) : List α := (List.range n).map f
section
variable {α β : Type} {n i : Nat} {f g : Nat → α}
theorem ls_len : (ls n f).length = n := by unfold ls; simp
theorem ls_get (h : i < n) : (ls n f)[i]? = some (f i) := by
  unfold ls
  rw [List.getElem?_map, List.getElem?_range h]
  rfl
theorem ls_ext {xs : List α} (hl : xs.length = n) (h : ∀ i, i < n → xs[i]? = some (f i)) : xs = ls n f := by
  apply List.ext_getElem?
  intro i
  by_cases hi : i < n
  · rw [h i hi, ls_get hi]
  · rw [List.getElem?_eq_none (by omega), List.getElem?_eq_none (by rw [ls_len]; omega)]
theorem ls_congr (h : ∀ i, i < n → f i = g i) : ls n f = ls n g := ls_ext ls_len fun i hi => by rw [ls_get hi, h i hi]
theorem ls_set {d : α} : (ls n f).set i d = ls n (fun j => if j = i then d else f j) := ls_ext (by rw [List.length_set, ls_len]) fun j hj => by
  rw [List.getElem?_set]
  by_cases h : i = j
  · subst h
    simp [ls_len, hj]
  · rw [if_neg h, ls_get hj, if_neg (fun e => h e.symm)]
theorem ls_snoc : ls n f ++ [f n] = ls (n + 1) f := by
  unfold ls
  rw [List.range_succ, List.map_append]
  rfl
theorem ls_zero : ls 0 f = [] := rfl
theorem ls_map {k : α → β} : (ls n f).map k = ls n fun i => k (f i) := by unfold ls; rw [List.map_map]; rfl
theorem ls_mem {x : α} : x ∈ ls n f ↔ ∃ i, i < n ∧ f i = x := by
  unfold ls
  simp
theorem ls_at {j : Int} (h0 : 0 ≤ j) (h1 : j < n) : L2.atI (ls n f) j = some (f j.toNat) := by
  unfold L2.atI
  rw [ls_len, ixN_in h0 h1]
  show (ls n f)[j.toNat]? = _
  exact ls_get (by omega)
theorem ls_ix {j : Int} (h0 : 0 ≤ j) (h1 : j < n) : L2.ixN (ls n f).length j = some j.toNat := ixN_in h0 (by rw [ls_len]; exact h1)
theorem ls_of (xs : List α) (d : α) : xs = ls xs.length fun i => xs.getD i d := ls_ext rfl fun i hi => by
  rw [List.getD_eq_getElem?_getD, List.getElem?_eq_getElem hi]
  rfl
theorem ls_at_ix {x : α} (h : (ls n f)[i]? = some x) : i < n ∧ x = f i := by
  by_cases hi : i < n
  · rw [ls_get hi] at h; cases h; exact ⟨hi, rfl⟩
  · rw [List.getElem?_eq_none (by rw [ls_len]; omega)] at h; cases h
end
/-- a loop over such a list -/
theorem for_ls {f : D → Env → (Env → Prop) → Prop} {nx : Env → Prop} {n : Nat} {a : Nat → D} {ρ : Env} (I : Nat → Env → Prop) (h0 : I 0 ρ) (hs : ∀ (i : Nat) ρ, i < n → I i ρ → ∀ k : Env → Prop, (∀ ρ', I (i + 1) ρ' → k ρ') → f (a i) ρ k) (he : ∀ ρ, I n ρ → nx ρ) : forLoop f (ls n a) ρ nx :=
  for_ix I h0 (fun i x ρ _ hx h k hk => by
    obtain ⟨h1, rfl⟩ := ls_at_ix hx
    exact hs i ρ h1 h k hk) fun ρ h => he ρ (by rw [ls_len] at h; exact h)
/-- a comprehension over such a list, the slots as they were -/
theorem lc_ls {f : D → Env → (Option D → Env → Prop) → Prop} {n : Nat} {a : Nat → D} {ρ : Env} {Q : List D → Env → Prop} (g : Nat → D) (hs : ∀ i, i < n → ∀ k : Option D → Env → Prop, k (some (g i)) ρ → f (a i) ρ k) (he : Q (ls n g) ρ) : lcLoop f (ls n a) [] ρ Q := by
  refine lc_ix (fun i acc ρ' => ρ' = ρ ∧ acc = ls i g) ⟨rfl, rfl⟩ (fun i x acc ρ' hi hx ⟨e1, e2⟩ k hk _ => ?_) (fun acc ρ' ⟨e1, e2⟩ => ?_)
  · subst e1 e2
    obtain ⟨h1, rfl⟩ := ls_at_ix hx
    exact hs i h1 k (hk _ _ ⟨rfl, ls_snoc⟩)
  · subst e1 e2
    rw [ls_len]
    exact he
theorem lc_rg {f : D → Env → (Option D → Env → Prop) → Prop} {lo c : Int} {n : Nat} {ρ : Env} {Q : List D → Env → Prop} (g : Nat → D) (hs : ∀ i : Nat, i < n → ∀ k : Option D → Env → Prop, k (some (g i)) ρ → f (.int (lo + (i : Int) * c)) ρ k) (he : Q (ls n g) ρ) : lcLoop f (rngL lo n c) [] ρ Q :=
  lc_ls (a := fun i => .int (lo + (i : Int) * c)) g hs he
/-- products -/
def prodN : Nat → (Nat → Int) → Int
  | 0, _ => 1
  | n + 1, f => prodN n f * f n
theorem prodN_congr {f g : Nat → Int} : ∀ {n : Nat}, (∀ i, i < n → f i = g i) → prodN n f = prodN n g
  | 0, _ => rfl
  | n + 1, h => by
    unfold prodN
    rw [prodN_congr (n := n) fun i hi => h i (by omega), h n (by omega)]
theorem prodN_pos {f : Nat → Int} : ∀ {n : Nat}, (∀ i, i < n → 1 ≤ f i) → 1 ≤ prodN n f
  | 0, _ => Int.le_refl 1
  | n + 1, h => by
    have h1 := prodN_pos (n := n) fun i hi => h i (by omega)
    have h2 := h n (by omega)
    have := Int.mul_le_mul h1 h2 (by omega) (by omega)
    unfold prodN
    omega
theorem prodN_mono {f : Nat → Int} {m n : Nat} (h : ∀ i, i < n → 1 ≤ f i) (hm : m ≤ n) : prodN m f ≤ prodN n f := by
  induction n with
  | zero =>
    have : m = 0 := by omega
    subst this
    exact Int.le_refl _
  | succ n ih =>
    by_cases e : m = n + 1
    · subst e; exact Int.le_refl _
    · have h1 := ih (fun i hi => h i (by omega)) (by omega)
      have h2 : 1 ≤ prodN n f := prodN_pos fun i hi => h i (by omega)
      have h3 := h n (by omega)
      have : prodN n f * 1 ≤ prodN n f * f n := Int.mul_le_mul_of_nonneg_left h3 (by omega)
      show prodN m f ≤ prodN n f * f n
      omega
end DV
end
section
set_option Elab.async false
set_option maxRecDepth 100000
set_option linter.all false
/-! K78V1: the draws. -/
namespace K78
open PySem DV
section
variable {G : Nat → DSp} {sub : Nat → Nat → Option Bool}
def sp_mixed : DSp := fun bs K => ∃ a b : Int, bs = [.val (.int a), .val (.int b)] ∧ lg a ≤ 400000 ∧ lg b ≤ 400000 ∧ ∀ r, 0 ≤ r → r ≤ 10 ^ 15 → K (.ok (.val (.int r))) []
theorem vc_mixed : ∀ bs K0, bs.length = 2 → sp_mixed bs K0 → ownPos 0 bs = [] ∧ rdDef ⟨G, [], none, sub⟩ ir_law_mixed 5 bs K0 := by
  rintro bs K hl ⟨a, b, rfl, ha, hb, hK⟩
  have c1 : ∀ x : Int, 0 ≤ x.fmod 2305843009213693951 ∧ x.fmod 2305843009213693951 < 2305843009213693951 := fun x => by rw [fmod_e]; omega
  refine ⟨rfl, rfl, mulOk_of ha (q := 64) (by decide +kernel), mulOk_of hb (q := 64) (by decide +kernel), by decide, rfl, ⟨by decide, by decide +kernel⟩, ?_, ?_, mulOk_of hb (q := 64) (by decide +kernel), by decide, rfl, ⟨by decide, by decide +kernel⟩, hK _ ?_ ?_⟩
  · obtain ⟨h1, h2⟩ := c1 (a * 6364136223846793005 + b * 1442695040888963407 + 1013904223)
    refine mulOk_of (p := 64) (q := 64) (lg_small (n := 2305843009213693951) 64 ?_ ?_) (by decide +kernel)
    · rw [fdiv_e]; omega
    · rw [fdiv_e]; omega
  · obtain ⟨h1, h2⟩ := c1 (a * 6364136223846793005 + b * 1442695040888963407 + 1013904223)
    have := lg_small (n := 2305843009213693951) 64 h1 (by omega)
    exact mulOk_of this this
  · rw [fdiv_e, fmod_e]; omega
  · rw [fdiv_e, fmod_e]; omega
def sp_wide : DSp := fun bs K => ∃ a b m : Int, bs = [.val (.int a), .val (.int b), .val (.int m)] ∧ lg a ≤ 300000 ∧ lg b ≤ 300000 ∧ 0 < m ∧ lg m ≤ 8000 ∧ ∀ r, 0 ≤ r → r < m → K (.ok (.val (.int r))) []
theorem vc_wide (hG : ∀ bs K, G 0 bs K = sp_mixed (bs ++ []) K) : ∀ bs K0, bs.length = 3 → sp_wide bs K0 → ownPos 0 bs = [] ∧ rdDef ⟨G, [], none, sub⟩ ir_law_wide 6 bs K0 := by
  rintro bs K hl ⟨a, b, m, rfl, ha, hb, hm, hm2, hK⟩
  refine ⟨rfl, rfl, noB, cl ((hG _ _).mpr ⟨_, _, rfl, by omega, by omega, fun d hd1 hd2 => ⟨noB, rfl, ?_⟩⟩)⟩
  refine ⟨⟨by decide, by decide +kernel⟩, rfl, ⟨by decide, by decide⟩, ?_⟩
  refine for_rng (fun i ρ => ∃ d r : Int, ∃ z, ρ = [some (.val (.int a)), some (.val (.int b)), some (.val (.int m)), some (.val (.int d)), some (.val (.int r)), z] ∧ lg d ≤ 100 + 60 * i ∧ lg r ≤ 100 + 60 * i) ⟨d, 10 ^ 15, none, rfl, ?_, by decide +kernel⟩ (fun i ρ hi ⟨d, r, z, e, h1, h2⟩ k hk => ?_) (fun ρ ⟨d, r, z, e, h1, h2⟩ => ?_)
  · exact Nat.le_trans (lg_small (n := 10 ^ 15 + 1) 64 hd1 (by omega)) (by omega)
  · subst e
    refine ⟨rfl, mulOk_of (p := 8000) (q := 10) hm2 (by decide +kernel), br_d (fun _ => ?_) (fun _ => ?_)⟩
    · exact ⟨by omega, hK _ (fmod_ge hm) (fmod_lt hm)⟩
    · refine ⟨⟨by decide, by decide +kernel⟩, mulOk_of (p := 5000) (q := 50) (by omega) (by decide +kernel), ?_⟩
      refine ⟨mulOk_of (p := 50) (q := 100) (by decide +kernel) (Nat.le_trans (lg_small (n := 10 ^ 15) 64 (by omega) (by omega)) (by omega)), rfl, noB, cl ((hG _ _).mpr ⟨_, _, rfl, by omega, ?_, fun e he1 he2 => ⟨noB, ?_⟩⟩)⟩
      · have e1 := lg_add b (1000003 * (0 + (i : Int) * 1 + 1))
        have e2 : lg (1000003 * (0 + (i : Int) * 1 + 1)) ≤ 64 := lg_small (n := 10 ^ 15) 64 (by omega) (by omega)
        omega
      · have e1 := lg_mul d (10 ^ Int.toNat 15)
        have e2 : lg (10 ^ Int.toNat 15) ≤ 50 := by decide +kernel
        have e3 := lg_add (d * 10 ^ Int.toNat 15) e
        have e4 := lg_small (n := 10 ^ 15 + 1) 64 he1 (by omega)
        have e5 := lg_mul r (10 ^ Int.toNat 15)
        exact ⟨rfl, ⟨by decide, by decide +kernel⟩, mulOk_of (p := 5000) (q := 50) (by omega) e2, rfl, hk _ ⟨_, _, _, rfl, by omega, by omega⟩⟩
  · subst e
    exact ⟨by omega, hK _ (fmod_ge hm) (fmod_lt hm)⟩
/-- the store: the script, the place in it, the pool, .. -/
structure Sto where
  ns : List Int
  p : Int
  pool : Int
  left : Int
  seed : Int
  cnt : Int
def Sto.l (s : Sto) : List D := [.lst (s.ns.map D.int), .int s.p, .int s.pool, .int s.left, .int s.seed, .int s.cnt]
structure Sto.Wf (s : Sto) (c : Int) : Prop where
  n : s.ns.length ≤ 63
  p0 : 0 ≤ s.p
  p1 : s.p ≤ s.ns.length
  pool : 0 ≤ s.pool
  s0 : 0 ≤ s.seed
  s1 : s.seed ≤ 10 ^ 15
  c0 : 0 ≤ s.cnt
  c1 : s.cnt ≤ c
theorem wf {ns : List Int} {p pool left seed cnt c : Int} (n : ns.length ≤ 63) (p0 : 0 ≤ p) (p1 : p ≤ ns.length) (pl : 0 ≤ pool) (s0 : 0 ≤ seed) (s1 : seed ≤ 10 ^ 15) (c0 : 0 ≤ cnt) (c1 : cnt ≤ c) : Sto.Wf ⟨ns, p, pool, left, seed, cnt⟩ c := ⟨n, p0, p1, pl, s0, s1, c0, c1⟩
def sp_move : DSp := fun bs K => ∃ (s : Sto) (c : Int), bs = [.own s.l] ∧ s.Wf c ∧ c ≤ 10 ^ 15 ∧ s.p < s.ns.length ∧ ∀ s' : Sto, s'.Wf c → s'.ns = s.ns → s'.p = s.p + 1 → s'.cnt = s.cnt → K (.ok (.val .non)) [s'.l]
theorem vc_move (hG : ∀ bs K, G 0 bs K = sp_mixed (bs ++ []) K) : ∀ bs K0, bs.length = 1 → sp_move bs K0 → ownPos 0 bs = [0] ∧ rdDef ⟨G, [0], none, sub⟩ ir_law_move 2 bs K0 := by
  rintro bs K hl ⟨s, c, rfl, hw, hc, hp, hK⟩
  obtain ⟨ns, p, pool, left, seed, cnt⟩ := s
  obtain ⟨w1, w2, w3, w4, w5, w6, w7, w8⟩ := hw
  dsimp only at w1 w2 w3 w4 w5 w6 w7 w8 hp hK
  obtain ⟨cell, hat, _⟩ := atI_ints w2 hp
  dsimp only [Sto.l]
  refine ⟨rfl, rfl, _, rfl, rfl, _, rfl, _, hat, rfl, rfl, _, rfl, by decide, rfl, _, rfl, rfl, noB, cl ((hG _ _).mpr ⟨_, _, rfl, ?_, ?_, fun d hd1 hd2 => ⟨noB, rfl, _, rfl, ?_⟩⟩)⟩
  · have e1 := lg_add seed (cell.fmod 2305843009213693951)
    have e2 : lg (cell.fmod 2305843009213693951) ≤ 64 := lg_small (n := 2305843009213693951) 64 (fmod_ge (by decide)) (fmod_lt (by decide))
    have e3 := lg_small (n := 10 ^ 15 + 1) 64 w5 (by omega)
    exact Nat.le_trans e1 (by omega)
  · exact Nat.le_trans (lg_small (n := 1000) 64 (by omega) (by omega)) (by omega)
  · refine ⟨rfl, _, rfl, rfl, _, rfl, ⟨by decide, by decide +kernel⟩, br_d (fun _ => ?_) (fun _ => ⟨⟨by decide, by decide +kernel⟩, br_d (fun _ => ?_) (fun _ => ?_)⟩)⟩
    · exact ⟨⟨by decide, by decide +kernel⟩, ⟨by decide, by decide +kernel⟩, by decide +kernel, rfl, _, rfl, hK ⟨ns, _, _, left, d, cnt⟩ (wf w1 (by omega) (by omega) (fmod_ge (by decide +kernel)) hd1 hd2 w7 w8) rfl rfl rfl⟩
    · exact ⟨⟨by decide, by decide +kernel⟩, ⟨by decide, by decide +kernel⟩, by decide +kernel, rfl, _, rfl, hK ⟨ns, _, _, left, d, cnt⟩ (wf w1 (by omega) (by omega) (fmod_ge (by decide +kernel)) hd1 hd2 w7 w8) rfl rfl rfl⟩
    · exact ⟨rfl, _, rfl, hK ⟨ns, _, pool, 2, d, cnt⟩ (wf w1 (by omega) (by omega) w4 hd1 hd2 w7 w8) rfl rfl rfl⟩
def sp_take : DSp := fun bs K => ∃ (s : Sto) (c m : Int), bs = [.own s.l, .val (.int m)] ∧ s.Wf c ∧ c < 10 ^ 15 ∧ lg m ≤ 8000 ∧ ∀ (r : Int) (s' : Sto), s'.Wf (c + 1) → 0 ≤ r → (m < 2 → r = 0) → (1 ≤ m → r < m) → K (.ok (.val (.int r))) [s'.l]
theorem vc_take (hG : ∀ bs K, G 1 bs K = sp_wide (bs ++ []) K) (hG2 : ∀ bs K, G 2 bs K = sp_move (bs ++ []) K) : ∀ bs K0, bs.length = 2 → sp_take bs K0 → ownPos 0 bs = [0] ∧ rdDef ⟨G, [0], none, sub⟩ ir_law_take 4 bs K0 := by
  rintro bs K hl ⟨s, c, m, rfl, hw, hc, hm, hK⟩
  refine ⟨rfl, br_d (fun h => hK 0 s ⟨hw.n, hw.p0, hw.p1, hw.pool, hw.s0, hw.s1, hw.c0, by have := hw.c1; omega⟩ (Int.le_refl 0) (fun _ => rfl) (by omega)) fun h => ?_⟩
  obtain ⟨ns, p, pool, left, seed, cnt⟩ := s
  obtain ⟨w1, w2, w3, w4, w5, w6, w7, w8⟩ := hw
  dsimp only at w1 w2 w3 w4 w5 w6 w7 w8 hK
  dsimp only [Sto.l]
  refine ⟨rfl, _, rfl, rfl, _, rfl, rfl, _, rfl, ?_⟩
  refine ⟨⟨by rw [List.length_map]; omega, by rw [List.length_map]; omega⟩, ?_⟩
  refine for_cut (fun ρ => ∃ (s : Sto) (z : Option B), ρ = [some (.own s.l), some (.val (.int m)), z, none] ∧ s.Wf (c + 1)) ?_ fun hr => ?_
  · rintro ρ ⟨s, z, rfl, hw⟩
    obtain ⟨ns, p, pool, left, seed, cnt⟩ := s
    obtain ⟨w1, w2, w3, w4, w5, w6, w7, w8⟩ := hw
    dsimp only at w1 w2 w3 w4 w5 w6 w7 w8
    dsimp only [Sto.l]
    refine ⟨rfl, _, rfl, br_d (fun h1 => ?_) (fun h1 => ?_)⟩
    · refine ⟨rfl, _, rfl, by omega, rfl, rfl, _, rfl, ⟨by omega, by omega⟩, rfl, _, rfl, ?_⟩
      exact hK _ ⟨ns, p, _, left, seed, cnt⟩ (wf w1 w2 w3 (fdiv_ge w4 (by omega)) w5 w6 w7 w8) (fmod_ge (by omega)) (fun _ => by omega) (fun _ => fmod_lt (by omega))
    · refine ⟨rfl, _, rfl, rfl, _, rfl, rfl, _, rfl, rfl, _, rfl, rfl, noB, cl ((hG _ _).mpr ⟨_, _, _, rfl, ?_, ?_, by omega, hm, fun r h1 h2 => ⟨noB, ?_⟩⟩)⟩
      · exact Nat.le_trans (lg_small (n := 10 ^ 15 + 1) 64 w5 (by omega)) (by omega)
      · exact Nat.le_trans (lg_small (n := 10 ^ 15 + 1) 64 w7 (by omega)) (by omega)
      · exact hK _ ⟨ns, p, pool, _, seed, cnt⟩ (wf w1 w2 w3 w4 w5 w6 w7 w8) h1 (fun _ => by omega) (fun _ => h2)
  · refine for_rng (fun i ρ => ∃ (s : Sto) (z : Option B), ρ = [some (.own s.l), some (.val (.int m)), z, none] ∧ s.Wf (c + 1)) ⟨⟨ns, p, pool, left, seed, cnt + 1⟩, none, rfl, wf w1 w2 w3 w4 w5 w6 (by omega) (by omega)⟩ ?_ hr
    rintro i ρ hi ⟨s, z, rfl, hw⟩ k hk
    have hw' := hw
    obtain ⟨ns, p, pool, left, seed, cnt⟩ := s
    obtain ⟨w1, w2, w3, w4, w5, w6, w7, w8⟩ := hw'
    dsimp only at w1 w2 w3 w4 w5 w6 w7 w8
    refine ⟨rfl, rfl, _, rfl, br_d (fun _ => hr _ ⟨_, _, rfl, hw⟩) (fun _ => ⟨rfl, _, rfl, br_d (fun _ => hr _ ⟨_, _, rfl, hw⟩) (fun _ => ⟨rfl, _, rfl, rfl, _, rfl, br_d (fun _ => hr _ ⟨_, _, rfl, hw⟩) (fun h => ?_)⟩)⟩)⟩
    have h : ¬ ((ns.map D.int).length : Int) ≤ p := h
    rw [List.length_map] at h
    refine ⟨rfl, rfl, noB, cl ((hG2 _ _).mpr ⟨⟨ns, p, pool, left, seed, cnt⟩, c + 1, rfl, hw, by omega, by show p < ns.length; omega, fun s' h1 _ _ _ => ⟨noB, ?_⟩⟩)⟩
    exact hk _ ⟨s', _, rfl, h1⟩
end
end K78
end
section
set_option Elab.async false
set_option maxRecDepth 100000
set_option linter.all false
/-! K78V2: small draws. -/
namespace K78
open PySem DV
abbrev Has (G : Nat → DSp) (i : Nat) (sp : DSp) : Prop := ∀ bs K, G i bs K = sp (bs ++ []) K
section
variable {G : Nat → DSp} {sub : Nat → Nat → Option Bool}
def sp_rare : DSp := fun bs K => ∃ (s : Sto) (c m : Int), bs = [.own s.l, .val (.int m)] ∧ s.Wf c ∧ c < 10 ^ 15 ∧ lg m ≤ 8000 ∧ ∀ (b : Bool) (s' : Sto), s'.Wf (c + 1) → K (.ok (.val (.bl b))) [s'.l]
theorem vc_rare (h3 : Has G 3 sp_take) : ∀ bs K0, bs.length = 2 → sp_rare bs K0 → ownPos 0 bs = [0] ∧ rdDef ⟨G, [0], none, sub⟩ ir_law_rare 2 bs K0 := by
  rintro bs K hl ⟨s, c, m, rfl, hw, hc, hm, hK⟩
  exact ⟨rfl, rfl, rfl, noB, cl ((h3 _ _).mpr ⟨s, c, m, rfl, hw, hc, hm, fun r s' w _ _ _ => ⟨noB, hK _ s' w⟩⟩)⟩
def sp_from : DSp := fun bs K => ∃ (s : Sto) (c lo hi : Int), bs = [.own s.l, .val (.int lo), .val (.int hi)] ∧ s.Wf c ∧ c < 10 ^ 15 ∧ lg (hi - lo + 1) ≤ 8000 ∧ ∀ (r : Int) (s' : Sto), s'.Wf (c + 1) → lo ≤ r → (lo ≤ hi → r ≤ hi) → K (.ok (.val (.int r))) [s'.l]
theorem vc_from (h3 : Has G 3 sp_take) : ∀ bs K0, bs.length = 3 → sp_from bs K0 → ownPos 0 bs = [0] ∧ rdDef ⟨G, [0], none, sub⟩ ir_law_from 3 bs K0 := by
  rintro bs K hl ⟨s, c, lo, hi, rfl, hw, hc, hm, hK⟩
  exact ⟨rfl, rfl, rfl, noB, cl ((h3 _ _).mpr ⟨s, c, _, rfl, hw, hc, hm, fun r s' w h1 h2 h4 => ⟨noB, hK _ s' w (by omega) (fun h => by have := h4 (by omega); omega)⟩⟩)⟩
def sp_pick : DSp := fun bs K => ∃ (s : Sto) (c : Int) (xs : List D), bs = [.own s.l, .val (.lst xs)] ∧ s.Wf c ∧ c < 10 ^ 15 ∧ 0 < xs.length ∧ xs.length < 10 ^ 6 ∧ ∀ (d : D) (s' : Sto), s'.Wf (c + 1) → d ∈ xs → K (.ok (.val d)) [s'.l]
theorem vc_pick (h3 : Has G 3 sp_take) : ∀ bs K0, bs.length = 2 → sp_pick bs K0 → ownPos 0 bs = [0] ∧ rdDef ⟨G, [0], none, sub⟩ ir_law_pick 2 bs K0 := by
  rintro bs K hl ⟨s, c, xs, rfl, hw, hc, h0, h1, hK⟩
  refine ⟨rfl, rfl, rfl, rfl, noB, cl ((h3 _ _).mpr ⟨s, c, _, rfl, hw, hc, ?_, fun r s' w k1 k2 k3 => ⟨noB, ?_⟩⟩)⟩
  · exact Nat.le_trans (lg_small (n := 10 ^ 6) 64 (by omega) (by omega)) (by omega)
  · obtain ⟨x, e1, e2⟩ := atI_in (xs := xs) (i := r) k1 (k3 (by omega))
    exact ⟨x, e1, hK x s' w (List.mem_of_getElem? e2)⟩
def sp_count : DSp := fun bs K => ∃ (s : Sto) (c m : Int), bs = [.own s.l, .val (.int m)] ∧ s.Wf c ∧ c < 10 ^ 14 ∧ 1 ≤ m ∧ m ≤ 10 ^ 60 ∧ ∀ (r : Int) (s' : Sto), s'.Wf (c + 2) → 1 ≤ r → r ≤ m → K (.ok (.val (.int r))) [s'.l]
theorem Sto.Wf.up {s : Sto} {c c' : Int} (w : s.Wf c) (h : c ≤ c') : s.Wf c' := ⟨w.n, w.p0, w.p1, w.pool, w.s0, w.s1, w.c0, Int.le_trans w.c1 h⟩
theorem lg60 {m : Int} (h0 : 0 ≤ m) (h : m ≤ 10 ^ 60) : lg m ≤ 8000 := Nat.le_trans (lg_small (n := 10 ^ 60 + 1) 256 h0 (by omega)) (by omega)
theorem vc_count (h3 : Has G 3 sp_take) (h7 : Has G 7 sp_from) : ∀ bs K0, bs.length = 2 → sp_count bs K0 → ownPos 0 bs = [0] ∧ rdDef ⟨G, [0], none, sub⟩ ir_law_count 3 bs K0 := by
  rintro bs K hl ⟨s, c, m, rfl, hw, hc, hm, hm2, hK⟩
  refine ⟨rfl, rfl, rfl, noB, cl ((h3 _ _).mpr ⟨s, c, _, rfl, hw, by omega, by decide +kernel, fun how s w1 k1 k2 k3 => ⟨noB, rfl, ?_⟩⟩)⟩
  refine br_d (fun _ => hK 1 s (w1.up (by omega)) (by omega) hm) fun _ => br_d (fun _ => ?_) fun _ => br_d (fun _ => ?_) fun _ => ?_
  · refine ⟨rfl, rfl, noB, cl ((h3 _ _).mpr ⟨s, _, _, rfl, w1, by omega, by decide +kernel, fun x s' w2 j1 j2 j3 => ⟨noB, ?_⟩⟩)⟩
    refine hK _ s' (w2.up (by omega)) ?_ ?_ <;> (split <;> omega)
  · refine ⟨rfl, rfl, noB, cl ((h7 _ _).mpr ⟨s, _, _, _, rfl, w1, by omega, lg60 (by omega) (by omega), fun x s' w2 j1 j2 => ⟨noB, ?_⟩⟩)⟩
    exact hK _ s' (w2.up (by omega)) j1 (j2 hm)
  · refine ⟨rfl, rfl, noB, cl ((h7 _ _).mpr ⟨s, _, _, _, rfl, w1, by omega, lg60 ?_ ?_, fun x s' w2 j1 j2 => ⟨noB, ?_⟩⟩)⟩
    · split <;> omega
    · split <;> omega
    · refine hK _ s' (w2.up (by omega)) j1 ?_
      split at j2 <;> omega
/-- places: whole numbers below m -/
def OrdL (m : Int) (xs : List D) : Prop := ∃ ns : List Int, xs = ns.map D.int ∧ ns.length = m.toNat ∧ ∀ n ∈ ns, 0 ≤ n ∧ n < m
theorem OrdL.len {m : Int} {xs : List D} (h : OrdL m xs) : xs.length = m.toNat := by
  obtain ⟨ns, rfl, h1, _⟩ := h
  rw [List.length_map, h1]
theorem OrdL.put {m v : Int} {xs : List D} (h : OrdL m xs) (j : Nat) (h0 : 0 ≤ v) (h1 : v < m) : OrdL m (xs.set j (.int v)) := by
  obtain ⟨ns, rfl, h2, h3⟩ := h
  refine ⟨ns.set j v, by rw [List.map_set], by rw [List.length_set, h2], fun n hn => ?_⟩
  rcases List.mem_or_eq_of_mem_set hn with h | h
  · exact h3 n h
  · rw [h]; exact ⟨h0, h1⟩
theorem OrdL.get {m i : Int} {xs : List D} (h : OrdL m xs) (h0 : 0 ≤ i) (h1 : i < m) : ∃ v : Int, L2.atI xs i = some (.int v) ∧ 0 ≤ v ∧ v < m := by
  obtain ⟨ns, rfl, h2, h3⟩ := h
  obtain ⟨v, e1, e2⟩ := atI_ints (ns := ns) h0 (by omega)
  exact ⟨v, e1, h3 v (List.mem_of_getElem? e2)⟩
theorem OrdL.ix {m i : Int} {xs : List D} (h : OrdL m xs) (h0 : 0 ≤ i) (h1 : i < m) : L2.ixN xs.length i = some i.toNat := ixN_in h0 (by rw [h.len]; omega)
def sp_order : DSp := fun bs K => ∃ (s : Sto) (c m : Int), bs = [.own s.l, .val (.int m)] ∧ s.Wf c ∧ c < 10 ^ 14 ∧ 0 ≤ m ∧ m ≤ 100 ∧ ∀ (xs : List D) (s' : Sto), s'.Wf (c + 200) → OrdL m xs → K (.ok (.val (.lst xs))) [s'.l]
theorem rng_ord (m : Int) : OrdL m (rngL 0 m.toNat 1) := by
  refine ⟨(List.range m.toNat).map fun (i : Nat) => (0 : Int) + (i : Int) * 1, by unfold rngL; rw [List.map_map]; rfl, by simp, fun n hn => ?_⟩
  obtain ⟨i, hi, rfl⟩ := List.mem_map.mp hn
  have := List.mem_range.mp hi
  omega
theorem vc_order (h3 : Has G 3 sp_take) : ∀ bs K0, bs.length = 2 → sp_order bs K0 → ownPos 0 bs = [0] ∧ rdDef ⟨G, [0], none, sub⟩ ir_law_order 7 bs K0 := by
  rintro bs K hl ⟨s, c, m, rfl, hw, hc, hm, hm2, hK⟩
  refine ⟨rfl, ⟨by omega, by omega⟩, rfl, rfl, rfl, noB, cl ((h3 _ _).mpr ⟨s, c, _, rfl, hw, by omega, by decide +kernel, fun how s w1 k1 k2 k3 => ⟨noB, rfl, ?_⟩⟩)⟩
  -- turned
  refine seq_cut (fun ρ => ∃ xs, OrdL m xs ∧ ρ = [some (.own s.l), some (.val (.int m)), some (.own xs), some (.val (.int how)), none, none, none]) ?_ fun k hk => br_d (fun _ => ?_) (fun _ => hk _ ⟨_, rng_ord m, rfl⟩)
  rotate_left
  · refine ⟨⟨by omega, by omega⟩, by rw [rngL_size]; show _ ≤ 16777216; omega, rfl, lc_ix (fun i acc ρ => ρ = [some (.own s.l), some (.val (.int m)), some (.own (rngL 0 m.toNat 1)), some (.val (.int how)), none, none, none] ∧ acc.length = i ∧ ∃ ns : List Int, acc = ns.map D.int ∧ ∀ n ∈ ns, 0 ≤ n ∧ n < m) ⟨rfl, rfl, [], rfl, fun _ h => by cases h⟩ ?_ ?_⟩
    · rintro i x acc ρ hi hx ⟨rfl, e1, ns, rfl, e2⟩ k' hk' _
      obtain ⟨h1, rfl⟩ := rngL_at hx
      refine ⟨rfl, hk' _ _ ⟨rfl, by simp [e1], ns ++ [m - 1 - (0 + (i : Int) * 1)], by simp, fun n hn => ?_⟩⟩
      rcases List.mem_append.mp hn with h | h
      · exact e2 n h
      · have := List.mem_singleton.mp h
        omega
    · rintro acc ρ ⟨rfl, e1, ns, rfl, e2⟩
      rw [rngL_size] at e1
      exact ⟨rfl, hk _ ⟨_, ⟨ns, rfl, by simpa using e1, e2⟩, rfl⟩⟩
  rintro ρ ⟨xs, ho, rfl⟩
  -- two swapped
  refine seq_cut (fun ρ => ∃ (s' : Sto) (xs : List D) (z : Option B), s'.Wf (c + 2) ∧ OrdL m xs ∧ ρ = [some (.own s'.l), some (.val (.int m)), some (.own xs), some (.val (.int how)), none, z, none]) ?_ fun k hk => br_d (fun _ => br_d (fun hgt => ?_) fun _ => hk _ ⟨s, xs, none, w1.up (by omega), ho, rfl⟩) fun _ => hk _ ⟨s, xs, none, w1.up (by omega), ho, rfl⟩
  rotate_left
  · refine ⟨rfl, rfl, noB, cl ((h3 _ _).mpr ⟨s, _, _, rfl, w1, by omega, lg60 (by omega) (by omega), fun r s' w2 j1 j2 j3 => ⟨noB, rfl, ?_⟩⟩)⟩
    have j4 := j3 (by omega)
    have ho2 := ho.put r.toNat (v := r + 1) (by omega) (by omega)
    exact ⟨rfl, _, ho.ix j1 (by omega), rfl, _, ho2.ix (by omega) (by omega), hk _ ⟨s', _, _, w2.up (by omega), ho2.put _ j1 (by omega), rfl⟩⟩
  rintro ρ ⟨s, xs, z, w2, ho, rfl⟩
  -- all drawn
  refine seq_cut (fun ρ => ∃ (s' : Sto) (xs : List D) (z4 z5 z6 : Option B), s'.Wf (c + 200) ∧ OrdL m xs ∧ ρ = [some (.own s'.l), some (.val (.int m)), some (.own xs), some (.val (.int how)), z4, z5, z6]) ?_ fun k hk => br_d (fun _ => ?_) fun _ => hk _ ⟨s, xs, none, z, none, w2.up (by omega), ho, rfl⟩
  · rintro ρ ⟨s, xs, z4, z5, z6, w, ho, rfl⟩
    exact ⟨rfl, hK _ _ w ho⟩
  · refine ⟨rfl, ⟨by omega, by omega⟩, ⟨by omega, by omega⟩, for_rng (fun i ρ => ∃ (s' : Sto) (xs : List D) (z4 z5 z6 : Option B), s'.Wf (c + 2 + i) ∧ OrdL m xs ∧ ρ = [some (.own s'.l), some (.val (.int m)), some (.own xs), some (.val (.int how)), z4, z5, z6]) ⟨s, xs, none, z, none, w2.up (by omega), ho, rfl⟩ ?_ ?_⟩
    · rintro i ρ hi ⟨s, xs, z4, z5, z6, w, ho, rfl⟩ k' hk'
      refine ⟨rfl, rfl, rfl, noB, cl ((h3 _ _).mpr ⟨s, _, _, rfl, w, by omega, lg60 (by omega) (by omega), fun r s' w3 j1 j2 j3 => ⟨noB, rfl, ?_⟩⟩)⟩
      have j4 := j3 (by omega)
      obtain ⟨v1, e1, b1, b2⟩ := ho.get (i := r) j1 (by omega)
      obtain ⟨v2, e2, b3, b4⟩ := ho.get (i := m - 1 + (i : Int) * (-1)) (by omega) (by omega)
      have ho2 := ho.put r.toNat b3 b4
      exact ⟨rfl, _, e1, rfl, rfl, _, e2, rfl, _, ho.ix j1 (by omega), rfl, _, ho2.ix (by omega) (by omega), hk' _ ⟨s', _, _, _, _, w3.up (by omega), ho2.put _ b1 b2, rfl⟩⟩
    · rintro ρ ⟨s, xs, z4, z5, z6, w, ho, rfl⟩
      exact hk _ ⟨s, xs, z4, z5, z6, w.up (by omega), ho, rfl⟩
end
end K78
end
section
set_option Elab.async false
set_option maxRecDepth 100000
set_option linter.all false
/-! K78D: screens, tones, colours as data. -/
namespace K78
open PySem DV
/-- a square of n rows -/
def sqD (n : Nat) (M : Nat → Nat → Int) : D := .tup (ls n fun i => .tup (ls n fun j => .int (M i j)))
structure Hnf (n : Nat) (M : Nat → Nat → Int) : Prop where
  pos : ∀ i, i < n → 1 ≤ M i i
  low : ∀ i j, i < n → j < i → M i j = 0
  up : ∀ i j, i < j → j < n → 0 ≤ M i j ∧ M i j < M j j
def detN (n : Nat) (M : Nat → Nat → Int) : Int := prodN n fun i => M i i
section
variable {G : Nat → DSp} {sub : Nat → Nat → Option Bool}
/-- the product of the diagonal, of any square with positive ones -/
def sp_index : DSp := fun bs K => ∃ (n : Nat) (M : Nat → Nat → Int), bs = [.val (sqD n M)] ∧ n ≤ 1000 ∧ (∀ i, i < n → 1 ≤ M i i) ∧ detN n M ≤ 10 ^ 60 ∧ K (.ok (.val (.int (detN n M)))) []
theorem vc_index : ∀ bs K0, bs.length = 1 → sp_index bs K0 → ownPos 0 bs = [] ∧ rdDef ⟨G, [], none, sub⟩ ir_law_index_of 3 bs K0 := by
  rintro bs K hl ⟨n, M, rfl, hn, hp, hd, hK⟩
  have hlen : ((ls n fun i => D.tup (ls n fun j => .int (M i j))).length : Int) = n := by rw [ls_len]
  refine ⟨rfl, rfl, ⟨by rw [ls_len]; omega, by rw [ls_len]; omega⟩, ?_⟩
  refine for_rng (fun i ρ => i ≤ n ∧ ∃ z, ρ = [some (.val (sqD n M)), some (.val (.int (prodN i fun i => M i i))), z]) ⟨Nat.zero_le _, none, rfl⟩ ?_ ?_
  · rintro i ρ hi ⟨hin, z, rfl⟩ k hk
    have hi' : i < n := by rw [ls_len] at hi; omega
    have e1 := ls_at (f := fun i => D.tup (ls n fun j => .int (M i j))) (j := 0 + (i : Int) * 1) (by omega) (by omega : 0 + (i : Int) * 1 < n)
    have e2 := ls_at (f := fun j => D.int (M (0 + (i : Int) * 1).toNat j)) (j := 0 + (i : Int) * 1) (by omega) (by omega : 0 + (i : Int) * 1 < n)
    have et : (0 + (i : Int) * 1).toNat = i := by omega
    have b1 := prodN_pos (n := i) (f := fun i => M i i) fun j hj => hp j (by omega)
    have b2 := prodN_mono (f := fun i => M i i) (m := i) (n := n) hp (by omega)
    have b3 := prodN_mono (f := fun i => M i i) (m := i + 1) (n := n) hp (by omega)
    have b4 : M i i ≤ prodN (i + 1) fun i => M i i := by
      have : 1 * M i i ≤ (prodN i fun i => M i i) * M i i := Int.mul_le_mul_of_nonneg_right b1 (by have := hp i hi'; omega)
      show M i i ≤ (prodN i fun i => M i i) * M i i
      omega
    have b5 := hp i hi'
    unfold detN at hd
    refine ⟨rfl, rfl, _, e1, _, e2, ?_, rfl, hk _ ⟨hi', _, by rw [et]; rfl⟩⟩
    rw [et]
    exact mulOk_of (lg60 (by omega) (by omega)) (lg60 (by omega) (by omega))
  · rintro ρ ⟨_, z, rfl⟩
    rw [ls_len, Int.toNat_natCast]
    exact hK
/-- sizes on the diagonal, the rest drawn or nothing -/
def sp_filled : DSp := fun bs K => ∃ (s : Sto) (c : Int) (n : Nat) (z : Nat → Int) (b : Bool), bs = [.own s.l, .val (.lst (ls n fun i => .int (z i))), .val (.bl b)] ∧ s.Wf c ∧ c < 10 ^ 14 ∧ n ≤ 100 ∧ (∀ i, i < n → 1 ≤ z i ∧ z i ≤ 10 ^ 60) ∧
  ∀ (M : Nat → Nat → Int) (s' : Sto), s'.Wf (c + 10000) → Hnf n M → (∀ i, i < n → M i i = z i) → K (.ok (.val (sqD n M))) [s'.l]
theorem vc_filled (h3 : Has G 3 sp_take) : ∀ bs K0, bs.length = 3 → sp_filled bs K0 → ownPos 0 bs = [0] ∧ rdDef ⟨G, [0], none, sub⟩ ir_law_filled 8 bs K0 := by
  rintro bs K hl ⟨s, c, n, z, b, rfl, hw, hc, hn, hz, hK⟩
  -- what a row is
  let RowOk (i : Nat) (r : Nat → Int) : Prop := (∀ j, j < i → r j = 0) ∧ r i = z i ∧ ∀ j, i < j → j < n → 0 ≤ r j ∧ r j < z j
  refine ⟨rfl, rfl, ⟨by rw [ls_len]; omega, by rw [ls_len]; omega⟩, ?_⟩
  refine for_rng (fun i ρ => ∃ (s' : Sto) (M : Nat → Nat → Int) (z4 z5 z7 : Option B), s'.Wf (c + 100 * i) ∧ (∀ k, k < i → RowOk k (M k)) ∧
    ρ = [some (.own s'.l), some (.val (.lst (ls n fun i => .int (z i)))), some (.val (.bl b)), some (.own (ls i fun k => .tup (ls n fun j => .int (M k j)))), z4, z5, none, z7]) ⟨s, fun _ _ => 0, none, none, none, hw.up (by omega), fun k hk => by omega, rfl⟩ ?_ ?_
  · rintro i ρ hi ⟨s1, M, z4, z5, z7, w1, hM, rfl⟩ k hk
    have hi' : i < n := by rw [ls_len] at hi; omega
    have e1 := ls_at (f := fun i => D.int (z i)) (j := 0 + (i : Int) * 1) (by omega) (by omega : 0 + (i : Int) * 1 < n)
    have et : (0 + (i : Int) * 1).toNat = i := by omega
    refine ⟨rfl, by rw [ls_len]; show n ≤ 16777216; omega, rfl, lc_ls (fun _ => .int 0) (fun j hj k' hk' => ⟨rfl, hk'⟩) ⟨rfl, rfl, _, e1, rfl, _, ls_ix (f := fun _ => D.int 0) (by omega) (by omega : 0 + (i : Int) * 1 < n), ?_⟩⟩
    rw [et, ls_set]
    have e0 : (ls n fun j => if j = i then D.int (z i) else .int 0) = ls n fun j => .int (if j = i then z i else 0) := ls_congr fun j hj => by split <;> rfl
    rw [e0]
    refine ⟨⟨by omega, by omega⟩, ⟨by rw [ls_len]; omega, by rw [ls_len]; omega⟩, ?_⟩
    rw [ls_len]
    refine for_rng (fun t ρ => ∃ (s' : Sto) (r : Nat → Int) (z7 : Option B), s'.Wf (c + 100 * i + t) ∧ RowOk i r ∧
      ρ = [some (.own s'.l), some (.val (.lst (ls n fun i => .int (z i)))), some (.val (.bl b)), some (.own (ls i fun k => .tup (ls n fun j => .int (M k j)))), some (.val (.int (0 + (i : Int) * 1))), some (.own (ls n fun j => .int (r j))), none, z7])
      ⟨s1, fun j => if j = i then z i else 0, z7, w1.up (by omega), ⟨fun j hj => if_neg (by omega), if_pos rfl, fun j hj hn => by show 0 ≤ (if j = i then z i else 0) ∧ (if j = i then z i else 0) < z j; rw [if_neg (by omega)]; have := (hz j hn).1; omega⟩, rfl⟩ ?_ ?_
    · rintro t ρ ht ⟨s2, r, z7, w2, hr, rfl⟩ k' hk'
      refine ⟨rfl, trivial, br_i (fun _ => ?_) (fun _ => hk' _ ⟨s2, r, _, w2.up (by omega), hr, rfl⟩)⟩
      have hjn : (0 + (i : Int) * 1 + 1 + (t : Int) * 1) < n := by omega
      have e2 := ls_at (f := fun i => D.int (z i)) (j := 0 + (i : Int) * 1 + 1 + (t : Int) * 1) (by omega) hjn
      have hzj := hz (0 + (i : Int) * 1 + 1 + (t : Int) * 1).toNat (by omega)
      refine ⟨rfl, rfl, _, e2, rfl, noB, cl ((h3 _ _).mpr ⟨s2, _, _, rfl, w2, by omega, lg60 (by omega) hzj.2, fun v s3 w3 k1 k2 k3 => ⟨noB, rfl, _, ls_ix (f := fun j => D.int (r j)) (by omega) hjn, ?_⟩⟩)⟩
      have k4 := k3 hzj.1
      rw [ls_set]
      have e3 : (ls n fun j => if j = (0 + (i : Int) * 1 + 1 + (t : Int) * 1).toNat then D.int v else .int (r j)) = ls n fun j => .int (if j = (0 + (i : Int) * 1 + 1 + (t : Int) * 1).toNat then v else r j) := ls_congr fun j hj => by split <;> rfl
      rw [e3]
      refine hk' _ ⟨s3, _, _, w3.up (by omega), ⟨fun j hj => ?_, ?_, fun j hj hjn' => ?_⟩, rfl⟩
      · rw [if_neg (by omega)]; exact hr.1 j hj
      · rw [if_neg (by omega)]; exact hr.2.1
      · split
        · rename_i q
          subst q
          exact ⟨k1, k4⟩
        · exact hr.2.2 j hj hjn'
    · rintro ρ ⟨s2, r, z7, w2, hr, rfl⟩
      have e4 : (ls i fun k => D.tup (ls n fun j => .int (M k j))) ++ [D.tup (ls n fun j => .int (r j))] = ls (i + 1) fun k => .tup (ls n fun j => .int ((if k = i then r else M k) j)) := by
        rw [← ls_snoc]
        congr 1
        · exact ls_congr fun k hk => by rw [if_neg (by omega)]
        · rw [if_pos rfl]
      refine ⟨rfl, rfl, by rw [ls_len]; show i < 16777216; omega, hk _ ⟨s2, fun k => if k = i then r else M k, some (.val (.int (0 + (i : Int) * 1))), some (.val (.lst (ls n fun j => .int (r j)))), z7, w2.up (by omega), fun k hk' => ?_, ?_⟩⟩
      · by_cases e : k = i
        · subst e
          simp only [if_pos]
          exact hr
        · simp only [if_neg e]
          exact hM k (by omega)
      · show _ = [_, _, _, some (B.own (ls (i + 1) fun k => D.tup (ls n fun j => .int ((if k = i then r else M k) j)))), _, _, _, _]
        rw [← e4]
        rfl
  · rintro ρ ⟨s1, M, z4, z5, z7, w1, hM, rfl⟩
    rw [ls_len, Int.toNat_natCast] at *
    refine ⟨rfl, hK M s1 (w1.up (by omega)) ⟨fun i hi => ?_, fun i j hi hj => (hM i hi).1 j hj, fun i j hij hj => ?_⟩ fun i hi => (hM i hi).2.1⟩
    · rw [(hM i hi).2.1]; exact (hz i hi).1
    · rw [(hM j hj).2.1]; exact (hM i (by omega)).2.2 j hij hj
end
end K78
end
section
set_option Elab.async false
set_option maxRecDepth 100000
set_option linter.all false
/-! K78D2: colours, tones. -/
namespace K78
open PySem DV
section
variable {G : Nat → DSp} {sub : Nat → Nat → Option Bool}
def sp_power : DSp := fun bs K => ∃ (m : Nat), bs = [.val (.int 2), .val (.int m)] ∧ m ≤ 100 ∧ K (.ok (.val (.int (2 ^ m)))) []
theorem lg_two (i : Nat) : lg (2 ^ i) ≤ i + 1 := lg_lt (by
  rw [Int.natAbs_pow]
  exact Nat.pow_lt_pow_right (by decide) (Nat.lt_succ_self i))
theorem vc_power : ∀ bs K0, bs.length = 2 → sp_power bs K0 → ownPos 0 bs = [] ∧ rdDef ⟨G, [], none, sub⟩ ir_law_power 4 bs K0 := by
  rintro bs K hl ⟨m, rfl, hm, hK⟩
  refine ⟨rfl, rfl, ⟨by omega, by omega⟩, for_rng (fun i ρ => ∃ z, ρ = [some (.val (.int 2)), some (.val (.int m)), some (.val (.int (2 ^ i))), z]) ⟨none, rfl⟩ ?_ ?_⟩
  · rintro i ρ hi ⟨z, rfl⟩ k hk
    refine ⟨rfl, mulOk_of (lg_two i) (q := 2) (by decide +kernel) (by omega), rfl, hk _ ⟨_, rfl⟩⟩
  · rintro ρ ⟨z, rfl⟩
    rw [Int.toNat_natCast]
    exact hK
/-- three parts of a thousand -/
def colD (f : Nat → Int) : D := .tup (ls 3 fun i => .int (f i))
def ColOk (f : Nat → Int) : Prop := ∀ i, i < 3 → 0 ≤ f i ∧ f i ≤ 1000
def sp_colour : DSp := fun bs K => ∃ (s : Sto) (c : Int), bs = [.own s.l] ∧ s.Wf c ∧ c < 10 ^ 14 ∧ ∀ (f : Nat → Int) (s' : Sto), s'.Wf (c + 4) → ColOk f → K (.ok (.val (colD f))) [s'.l]
/-- what a comprehension of draws has got so far -/
def Got (acc : List D) (i : Nat) (P : Nat → Int → Prop) : Prop := ∃ f : Nat → Int, acc = ls i (fun k => D.int (f k)) ∧ ∀ k, k < i → P k (f k)
theorem Got.more {acc : List D} {i : Nat} {P : Nat → Int → Prop} {v : Int} (h : Got acc i P) (p : P i v) : Got (acc ++ [.int v]) (i + 1) P := by
  obtain ⟨f, rfl, h⟩ := h
  refine ⟨fun k => if k = i then v else f k, ?_, fun k hk => ?_⟩
  · rw [← ls_snoc]
    congr 1
    · exact ls_congr fun k hk => by show D.int (f k) = .int (if k = i then v else f k); rw [if_neg (by omega)]
    · simp
  · by_cases e : k = i
    · subst e; simpa using p
    · simpa [e] using h k (by omega)
theorem vc_colour (h3 : Has G 3 sp_take) (h4 : Has G 4 sp_rare) (h12 : Has G 12 sp_pick) : ∀ bs K0, bs.length = 1 → sp_colour bs K0 → ownPos 0 bs = [0] ∧ rdDef ⟨G, [0], none, sub⟩ ir_law_colour 2 bs K0 := by
  rintro bs K hl ⟨s, c, rfl, hw, hc, hK⟩
  refine ⟨rfl, rfl, rfl, noB, cl ((h4 _ _).mpr ⟨s, c, _, rfl, hw, by omega, by decide +kernel, fun b s1 w1 => ⟨noB, trivial, ?_⟩⟩)⟩
  refine br_i (fun _ => ?_) (fun _ => ?_)
  · refine ⟨⟨by decide, by decide⟩, by rw [rngL_size]; decide, rfl, lc_ix (fun i acc ρ => ∃ s' : Sto, ρ = [some (.own s'.l), none] ∧ s'.Wf (c + 1 + i) ∧ Got acc i fun _ v => 0 ≤ v ∧ v ≤ 1000) ⟨s1, rfl, w1.up (by omega), fun _ => 0, rfl, fun k hk => by omega⟩ ?_ ?_⟩
    · rintro i x acc ρ hi hx ⟨s2, rfl, w2, hg⟩ k hk _
      rw [rngL_size] at hi
      have hi3 : i < 3 := hi
      refine ⟨rfl, rfl, rfl, noB, cl ((h12 _ _).mpr ⟨s2, _, _, rfl, w2, by omega, by decide, by decide, fun d s3 w3 hd => ⟨noB, ?_⟩⟩)⟩
      have : ∃ v : Int, d = .int v ∧ 0 ≤ v ∧ v ≤ 1000 := by
        simp only [List.mem_cons, List.not_mem_nil, or_false] at hd
        rcases hd with rfl | rfl | rfl | rfl
        · exact ⟨0, rfl, by omega, by omega⟩
        · exact ⟨1000, rfl, by omega, by omega⟩
        · exact ⟨1, rfl, by omega, by omega⟩
        · exact ⟨999, rfl, by omega, by omega⟩
      obtain ⟨v, rfl, hv⟩ := this
      exact hk _ _ ⟨s3, rfl, w3.up (by omega), hg.more hv⟩
    · rintro acc ρ ⟨s2, rfl, w2, f, rfl, hf⟩
      exact hK f s2 (w2.up (by rw [rngL_size]; show c + 1 + ((3 : Nat) : Int) ≤ c + 4; omega)) hf
  · refine ⟨⟨by decide, by decide⟩, by rw [rngL_size]; decide, rfl, lc_ix (fun i acc ρ => ∃ s' : Sto, ρ = [some (.own s'.l), none] ∧ s'.Wf (c + 1 + i) ∧ Got acc i fun _ v => 0 ≤ v ∧ v ≤ 1000) ⟨s1, rfl, w1.up (by omega), fun _ => 0, rfl, fun k hk => by omega⟩ ?_ ?_⟩
    · rintro i x acc ρ hi hx ⟨s2, rfl, w2, hg⟩ k hk _
      rw [rngL_size] at hi
      have hi3 : i < 3 := hi
      refine ⟨rfl, rfl, rfl, noB, cl ((h3 _ _).mpr ⟨s2, _, _, rfl, w2, by omega, by decide +kernel, fun v s3 w3 k1 k2 k3 => ⟨noB, ?_⟩⟩)⟩
      have k4 := k3 (by decide)
      exact hk _ _ ⟨s3, rfl, w3.up (by omega), hg.more ⟨k1, by omega⟩⟩
    · rintro acc ρ ⟨s2, rfl, w2, f, rfl, hf⟩
      exact hK f s2 (w2.up (by rw [rngL_size]; show c + 1 + ((3 : Nat) : Int) ≤ c + 4; omega)) hf
def sp_colours : DSp := fun bs K => ∃ (s : Sto) (c : Int) (m : Nat), bs = [.own s.l, .val (.int m)] ∧ s.Wf c ∧ c < 10 ^ 13 ∧ m ≤ 6 ∧ ∀ (F : Nat → Nat → Int) (s' : Sto), s'.Wf (c + 1000) → (∀ k, k < 2 ^ m → ColOk (F k)) → K (.ok (.val (.lst (ls (2 ^ m) fun k => colD (F k))))) [s'.l]
theorem vc_colours (h4 : Has G 4 sp_rare) (h15 : Has G 15 sp_power) (h16 : Has G 16 sp_colour) : ∀ bs K0, bs.length = 2 → sp_colours bs K0 → ownPos 0 bs = [0] ∧ rdDef ⟨G, [0], none, sub⟩ ir_law_colours 4 bs K0 := by
  rintro bs K hl ⟨s, c, m, rfl, hw, hc, hm, hK⟩
  have hm64 : 2 ^ m ≤ 64 := by
    have : 2 ^ m ≤ 2 ^ 6 := Nat.pow_le_pow_right (by decide) hm
    omega
  have e2 : ((2 : Int) ^ m).toNat = 2 ^ m := by
    have : ((2 : Int) ^ m) = ((2 ^ m : Nat) : Int) := by simp
    rw [this, Int.toNat_natCast]
  have e3 : (2 : Int) ^ m ≤ 64 ∧ 0 ≤ (2 : Int) ^ m := by
    have : ((2 : Int) ^ m) = ((2 ^ m : Nat) : Int) := by simp
    omega
  refine ⟨rfl, rfl, rfl, noB, cl ((h15 _ _).mpr ⟨m, rfl, by omega, noB, ⟨by omega, by omega⟩, ?_⟩)⟩
  rw [e2]
  refine for_rng (fun i ρ => ∃ (s' : Sto) (F : Nat → Nat → Int) (z : Option B), s'.Wf (c + 6 * i) ∧ (∀ k, k < i → ColOk (F k)) ∧ ρ = [some (.own s'.l), some (.val (.int m)), some (.own (ls i fun k => colD (F k))), z]) ⟨s, fun _ _ => 0, none, hw.up (by omega), fun k hk => by omega, rfl⟩ ?_ ?_
  · rintro i ρ hi ⟨s1, F, z, w1, hF, rfl⟩ k hk
    have fin : ∀ (s2 : Sto) (g : Nat → Int), s2.Wf (c + 6 * i + 6) → ColOk g → k [some (.own s2.l), some (.val (.int m)), some (.own ((ls i fun k => colD (F k)) ++ [colD g])), some (.val (.int (0 + (i : Int) * 1)))] := fun s2 g w2 hg => by
      have e4 : (ls i fun k => colD (F k)) ++ [colD g] = ls (i + 1) fun k => colD (if k = i then g else F k) := by
        rw [← ls_snoc]
        congr 1
        · exact ls_congr fun k hk => by show colD (F k) = colD (if k = i then g else F k); rw [if_neg (by omega)]
        · simp
      rw [e4]
      refine hk _ ⟨s2, fun k => if k = i then g else F k, _, w2.up (by omega), fun k hk' => ?_, rfl⟩
      by_cases e : k = i
      · simpa [e] using hg
      · simpa [e] using hF k (by omega)
    have hlen : (ls i fun k => colD (F k)).length < LINE := by rw [ls_len]; show i < 16777216; omega
    have col : ∀ (s2 : Sto), s2.Wf (c + 6 * i + 1) → _ := fun s2 w2 => (h16 [.own s2.l] fun o os => ∃ f s', o = .ok (.val (colD f)) ∧ os = [s'.l] ∧ s'.Wf (c + 6 * i + 5) ∧ ColOk f).mpr ⟨s2, _, rfl, w2, by omega, fun f s' w3 hf => ⟨f, s', rfl, rfl, w3.up (by omega), hf⟩⟩
    refine ⟨rfl, rfl, br_d (fun h0 => ?_) (fun _ => ⟨rfl, rfl, noB, _, col s1 (w1.up (by omega)), ?_⟩)⟩
    · refine ⟨rfl, rfl, noB, cl ((h4 _ _).mpr ⟨s1, _, _, rfl, w1, by omega, by decide +kernel, fun b s2 w2 => ⟨noB, trivial, br_i (fun _ => ?_) (fun _ => ⟨rfl, rfl, noB, _, col s2 w2, ?_⟩)⟩⟩)⟩
      · exact ⟨rfl, _, ls_at (f := fun k => colD (F k)) (j := 0) (by omega) (by omega), hlen, fin s2 _ (w2.up (by omega)) (hF 0 (by omega))⟩
      · rintro o os ⟨f, s3, rfl, rfl, w3, hf⟩
        exact ⟨noB, hlen, fin s3 f (w3.up (by omega)) hf⟩
    · rintro o os ⟨f, s3, rfl, rfl, w3, hf⟩
      exact ⟨noB, hlen, fin s3 f (w3.up (by omega)) hf⟩
  · rintro ρ ⟨s1, F, z, w1, hF, rfl⟩
    exact ⟨rfl, hK F s1 (w1.up (by omega)) hF⟩
def sp_tones : DSp := fun bs K => ∃ (s : Sto) (c : Int) (n d : Nat) (M : Nat → Nat → Nat → Int), bs = [.own s.l, .val (.lst (ls n fun k => sqD d (M k)))] ∧ s.Wf c ∧ c < 10 ^ 14 ∧ n ≤ 100 ∧ d ≤ 100 ∧ (∀ k, k < n → Hnf d (M k) ∧ detN d (M k) ≤ 10 ^ 60) ∧
  ∀ (t : Nat → Int) (s' : Sto), s'.Wf (c + 1000) → (∀ k, k < n → 0 ≤ t k ∧ t k ≤ detN d (M k)) → K (.ok (.val (.lst (ls n fun k => .int (t k))))) [s'.l]
theorem vc_tones (h3 : Has G 3 sp_take) (h10 : Has G 10 sp_index) : ∀ bs K0, bs.length = 2 → sp_tones bs K0 → ownPos 0 bs = [0] ∧ rdDef ⟨G, [0], none, sub⟩ ir_law_tones 6 bs K0 := by
  rintro bs K hl ⟨s, c, n, d, M, rfl, hw, hc, hn, hd, hM, hK⟩
  refine ⟨rfl, rfl, for_ls (fun i ρ => ∃ (s' : Sto) (acc : List D) (z3 z4 z5 : Option B), s'.Wf (c + 2 * i) ∧ Got acc i (fun k v => 0 ≤ v ∧ v ≤ detN d (M k)) ∧ ρ = [some (.own s'.l), some (.val (.lst (ls n fun k => sqD d (M k)))), some (.own acc), z3, z4, z5]) ⟨s, [], none, none, none, hw.up (by omega), ⟨fun _ => 0, rfl, fun k hk => by omega⟩, rfl⟩ ?_ ?_⟩
  · rintro i ρ hi ⟨s1, acc, z3, z4, z5, w1, hg, rfl⟩ k hk
    obtain ⟨hh, hdt⟩ := hM i hi
    have hp : 1 ≤ detN d (M i) := prodN_pos fun j hj => hh.pos j hj
    have hlen : acc.length < LINE := by
      obtain ⟨f, rfl, _⟩ := hg
      rw [ls_len]
      show i < 16777216
      omega
    refine ⟨rfl, rfl, noB, cl ((h10 _ _).mpr ⟨d, M i, rfl, by omega, fun j hj => hh.pos j hj, hdt, noB, rfl, rfl, rfl, noB, cl ((h3 _ _).mpr ⟨s1, _, _, rfl, w1, by omega, by decide +kernel, fun how s2 w2 _ _ _ => ⟨noB, rfl, rfl, ?_⟩⟩)⟩)⟩
    refine br_d (fun _ => ⟨hlen, hk _ ⟨s2, _, _, _, _, w2.up (by omega), hg.more ⟨by omega, by omega⟩, rfl⟩⟩) fun _ => br_d (fun _ => ⟨hlen, hk _ ⟨s2, _, _, _, _, w2.up (by omega), hg.more ⟨by omega, by omega⟩, rfl⟩⟩) fun _ => ?_
    refine ⟨rfl, rfl, noB, cl ((h3 _ _).mpr ⟨s2, _, _, rfl, w2, by omega, ?_, fun v s3 w3 k1 k2 k3 => ⟨noB, hlen, hk _ ⟨s3, _, _, _, _, w3.up (by omega), hg.more ⟨k1, by have := k3 (by omega); omega⟩, rfl⟩⟩⟩)⟩
    exact Nat.le_trans (lg_small (n := 10 ^ 60 + 2) 256 (by omega) (by omega)) (by omega)
  · rintro ρ ⟨s1, acc, z3, z4, z5, w1, ⟨f, rfl, hf⟩, rfl⟩
    exact ⟨rfl, hK f s1 (w1.up (by omega)) hf⟩
end
end K78
end
section
set_option Elab.async false
set_option maxRecDepth 100000
set_option linter.all false
/-! K78D3: the drawn stacks. -/
namespace K78
open PySem DV
theorem prodN_upd {z : Nat → Int} {a : Nat} {v : Int} (hv : 1 ≤ v) : ∀ {n : Nat}, (∀ i, i < n → 1 ≤ z i) → prodN n (fun j => if j = a then v else z j) ≤ prodN n z * v
  | 0, _ => by show (1 : Int) ≤ 1 * v; omega
  | n + 1, h => by
    have ih := prodN_upd (a := a) hv (n := n) fun i hi => h i (by omega)
    have h1 : 1 ≤ prodN n z := prodN_pos fun i hi => h i (by omega)
    have h2 := h n (by omega)
    show prodN n (fun j => if j = a then v else z j) * (if n = a then v else z n) ≤ prodN n z * z n * v
    by_cases e : n = a
    · rw [if_pos e]
      have e1 : prodN n (fun j => if j = a then v else z j) = prodN n z := prodN_congr fun i hi => if_neg (by omega)
      rw [e1]
      have : prodN n z * 1 ≤ prodN n z * z n := Int.mul_le_mul_of_nonneg_left h2 (by omega)
      exact Int.mul_le_mul_of_nonneg_right (by omega) (by omega)
    · rw [if_neg e]
      have := Int.mul_le_mul_of_nonneg_right ih (c := z n) (by omega)
      have e2 : prodN n z * v * z n = prodN n z * z n * v := by rw [Int.mul_assoc, Int.mul_comm v, ← Int.mul_assoc]
      omega
theorem prodN_one : ∀ {n : Nat}, prodN n (fun _ => 1) = 1
  | 0 => rfl
  | n + 1 => by
    show prodN n (fun _ => 1) * 1 = 1
    rw [prodN_one]; rfl
theorem prodN_part {z : Nat → Int} : ∀ {n : Nat} {j : Nat}, (∀ i, i < n → 1 ≤ z i) → j < n → z j ≤ prodN n z
  | n + 1, j, h, hj => by
    have h1 := prodN_pos (n := n) (f := z) fun i hi => h i (by omega)
    have h2 := h n (by omega)
    show z j ≤ prodN n z * z n
    by_cases e : j = n
    · subst e
      have : 1 * z j ≤ prodN j z * z j := Int.mul_le_mul_of_nonneg_right h1 (by omega)
      omega
    · have h3 := prodN_part (n := n) (j := j) (fun i hi => h i (by omega)) (by omega)
      have : prodN n z * 1 ≤ prodN n z * z n := Int.mul_le_mul_of_nonneg_left h2 (by omega)
      omega
section
variable {G : Nat → DSp} {sub : Nat → Nat → Option Bool}
def sp_gscreen : DSp := fun bs K => ∃ (s : Sto) (c : Int) (d : Nat) (m : Int), bs = [.own s.l, .val (.int d), .val (.int m)] ∧ s.Wf c ∧ c < 10 ^ 12 ∧ d ≤ 100 ∧ 1 ≤ m ∧ m ≤ 10 ^ 60 ∧
  ∀ (M : Nat → Nat → Int) (s' : Sto), s'.Wf (c + 20000) → Hnf d M → detN d M ≤ m → K (.ok (.val (sqD d M))) [s'.l]
theorem vc_gscreen (h4 : Has G 4 sp_rare) (h5 : Has G 5 sp_order) (h6 : Has G 6 sp_filled) (h8 : Has G 8 sp_count) : ∀ bs K0, bs.length = 3 → sp_gscreen bs K0 → ownPos 0 bs = [0] ∧ rdDef ⟨G, [0], none, sub⟩ ir_law_great_screen 7 bs K0 := by
  rintro bs K hl ⟨s, c, d, m, rfl, hw, hc, hd, hm, hm2, hK⟩
  refine ⟨rfl, ⟨by omega, by omega⟩, by rw [rngL_size, Int.toNat_natCast]; show d ≤ 16777216; omega, rfl, lc_rg (fun _ => .int 1) (fun j hj k' hk' => ⟨rfl, hk'⟩) ?_⟩
  rw [Int.toNat_natCast]
  refine ⟨rfl, rfl, rfl, rfl, noB, cl ((h5 _ _).mpr ⟨s, _, _, rfl, hw, by omega, by omega, by omega, fun xs s1 w1 ho => ⟨noB, ?_⟩⟩)⟩
  obtain ⟨ns, rfl, hl2, hns⟩ := ho
  refine for_ix (fun i ρ => ∃ (s' : Sto) (z : Nat → Int) (room : Int) (z6 : Option B), s'.Wf (c + 200 + 3 * i) ∧ (∀ j, j < d → 1 ≤ z j) ∧ 0 ≤ room ∧ room ≤ m ∧ prodN d z ≤ m ∧ prodN d z * room ≤ m ∧
    ρ = [some (.own s'.l), some (.val (.int d)), some (.val (.int m)), some (.own (ls d fun j => .int (z j))), none, some (.val (.int room)), z6]) ⟨s1, fun _ => 1, m, none, w1.up (by omega), fun _ _ => Int.le_refl 1, by omega, by omega, ?_, ?_, rfl⟩ ?_ ?_
  · rw [prodN_one]; omega
  · rw [prodN_one]; omega
  · rintro i x ρ hi hx ⟨s2, z, room, z6, w2, hz, r0, r1, p1, p2, rfl⟩ k hk
    rw [List.length_map, hl2, Int.toNat_natCast] at hi
    obtain ⟨a, rfl, ha⟩ : ∃ a : Int, x = .int a ∧ (0 ≤ a ∧ a < d) := by
      rw [List.getElem?_map] at hx
      cases e : ns[i]? with
      | none => rw [e] at hx; cases hx
      | some a => rw [e] at hx; cases hx; exact ⟨a, rfl, hns a (List.mem_of_getElem? e)⟩
    refine ⟨rfl, rfl, rfl, noB, cl ((h4 _ _).mpr ⟨s2, _, _, rfl, w2, by omega, by decide +kernel, fun b s3 w3 => ⟨noB, trivial, br_i (fun _ => ?_) (fun _ => br_d (fun _ => ?_) (fun _ => hk _ ⟨s3, z, room, _, w3.up (by omega), hz, r0, r1, p1, p2, rfl⟩))⟩⟩)⟩
    all_goals
      refine ⟨rfl, rfl, noB, cl ((h8 _ _).mpr ⟨s3, _, _, rfl, w3, by omega, by split <;> omega, by split <;> omega, fun v s4 w4 k1 k2 => ⟨noB, rfl, _, ls_ix (f := fun j => D.int (z j)) ha.1 ha.2, ?_⟩⟩)⟩
      have e0 : (ls d fun j => if j = a.toNat then D.int v else .int (z j)) = ls d fun j => .int (if j = a.toNat then v else z j) := ls_congr fun j hj => by split <;> rfl
      have e1 := ls_at (n := d) (f := fun j => D.int (if j = a.toNat then v else z j)) ha.1 ha.2
      rw [ls_set, e0]
      have e2 : (if a.toNat = a.toNat then v else z a.toNat) = v := if_pos rfl
      have hv : v ≤ 10 ^ 60 := by split at k2 <;> omega
      have q1 := prodN_upd (z := z) (a := a.toNat) k1 hz
      have q0 := prodN_pos (n := d) hz
      refine ⟨rfl, _, e1, ⟨by rw [e2]; omega, by rw [e2]; have := lg60 (by omega) hv; omega⟩, rfl, ?_⟩
      rw [e2]
      have q2 : room.fdiv v * v ≤ room := by rw [Int.fdiv_eq_ediv_of_nonneg _ (by omega)]; exact Int.ediv_mul_le _ (by omega)
      have q3 : 0 ≤ room.fdiv v := fdiv_ge r0 (by omega)
      have q4 : room.fdiv v ≤ room := by rw [Int.fdiv_eq_ediv_of_nonneg _ (by omega)]; exact Int.ediv_le_self _ r0
      refine hk _ ⟨s4, fun j => if j = a.toNat then v else z j, room.fdiv v, _, w4.up (by omega), fun j hj => ?_, q3, by omega, ?_, ?_, rfl⟩
      · show 1 ≤ if j = a.toNat then v else z j
        split
        · exact k1
        · exact hz j hj
      · refine Int.le_trans q1 ?_
        split at k2
        · have : prodN d z * v ≤ prodN d z * room := Int.mul_le_mul_of_nonneg_left k2 (by omega)
          omega
        · have : v = 1 := by omega
          subst this
          omega
      · have q5 := Int.mul_le_mul_of_nonneg_right q1 q3
        have q6 : prodN d z * (room.fdiv v * v) ≤ prodN d z * room := Int.mul_le_mul_of_nonneg_left q2 (by omega)
        have q7 : prodN d z * v * room.fdiv v = prodN d z * (room.fdiv v * v) := by rw [Int.mul_assoc, Int.mul_comm v]
        omega
  · rintro ρ ⟨s2, z, room, z6, w2, hz, r0, r1, p1, p2, rfl⟩
    rw [List.length_map, hl2, Int.toNat_natCast] at w2
    have hzb : ∀ j, j < d → 1 ≤ z j ∧ z j ≤ 10 ^ 60 := fun j hj => by
      refine ⟨hz j hj, ?_⟩
      have := prodN_part hz hj
      omega
    refine ⟨rfl, rfl, rfl, rfl, noB, cl ((h4 _ _).mpr ⟨s2, _, _, rfl, w2, by omega, by decide +kernel, fun b s3 w3 => ⟨noB, rfl, noB, cl ((h6 _ _).mpr ⟨s3, _, d, z, _, rfl, w3, by omega, hd, hzb, fun M s4 w4 hM hMz => ⟨noB, hK M s4 (w4.up (by omega)) hM ?_⟩⟩)⟩⟩)⟩
    unfold detN
    rw [prodN_congr hMz]
    exact p1
def sp_gstack : DSp := fun bs K => ∃ (s : Sto) (c : Int) (d m : Nat), bs = [.own s.l, .val (.int d), .val (.int m)] ∧ s.Wf c ∧ c < 10 ^ 11 ∧ d ≤ 100 ∧ m ≤ 10 ∧
  ∀ (M : Nat → Nat → Nat → Int) (s' : Sto), s'.Wf (c + 300000) → (∀ k, k < m → Hnf d (M k)) → prodN m (fun k => detN d (M k)) ≤ 10 ^ 60 → K (.ok (.val (.lst (ls m fun k => sqD d (M k))))) [s'.l]
theorem vc_gstack (h4 : Has G 4 sp_rare) (h9 : Has G 9 sp_gscreen) (h10 : Has G 10 sp_index) : ∀ bs K0, bs.length = 3 → sp_gstack bs K0 → ownPos 0 bs = [0] ∧ rdDef ⟨G, [0], none, sub⟩ ir_law_great_stack 7 bs K0 := by
  rintro bs K hl ⟨s, c, d, m, rfl, hw, hc, hd, hm, hK⟩
  refine ⟨rfl, rfl, ⟨by decide, by decide +kernel⟩, rfl, ⟨by omega, by omega⟩, ?_⟩
  rw [Int.toNat_natCast]
  refine for_rng (fun i ρ => ∃ (s' : Sto) (M : Nat → Nat → Nat → Int) (room : Int) (z5 z6 : Option B), s'.Wf (c + 20010 * i) ∧ (∀ k, k < i → Hnf d (M k)) ∧ 1 ≤ room ∧ room ≤ 10 ^ 60 ∧ (prodN i fun k => detN d (M k)) * room ≤ 10 ^ 60 ∧
    ρ = [some (.own s'.l), some (.val (.int d)), some (.val (.int m)), some (.own (ls i fun k => sqD d (M k))), some (.val (.int room)), z5, z6]) ⟨s, fun _ _ _ => 0, 10 ^ 60, none, none, hw.up (by omega), fun k hk => by omega, by decide, by decide, by show (1 : Int) * 10 ^ 60 ≤ 10 ^ 60; omega, rfl⟩ ?_ ?_
  · rintro i ρ hi ⟨s2, M, room, z5, z6, w2, hM, r1, r2, p1, rfl⟩ k hk
    have ten : (10 : Int) ^ Int.toNat 12 = 1000000000000 := by decide +kernel
    have pp : 1 ≤ prodN i fun k => detN d (M k) := prodN_pos fun j hj => prodN_pos fun t ht => (hM j hj).pos t ht
    refine ⟨rfl, seq_cut (fun ρ => ∃ (s' : Sto) (N : Nat → Nat → Int), s'.Wf (c + 20010 * i + 20005) ∧ Hnf d N ∧ detN d N ≤ room ∧ ρ = [some (.own s'.l), some (.val (.int d)), some (.val (.int m)), some (.own (ls i fun k => sqD d (M k))), some (.val (.int room)), some (.val (.int (0 + (i : Int) * 1))), some (.val (sqD d N))]) ?_ fun k' hk' => ?_⟩
    · rintro ρ ⟨s3, N, w3, hN, hdt, rfl⟩
      have q0 : 1 ≤ detN d N := prodN_pos fun t ht => hN.pos t ht
      have q2 : room.fdiv (detN d N) * detN d N ≤ room := by rw [Int.fdiv_eq_ediv_of_nonneg _ (by omega)]; exact Int.ediv_mul_le _ (by omega)
      have q4 : room.fdiv (detN d N) ≤ room := by rw [Int.fdiv_eq_ediv_of_nonneg _ (by omega)]; exact Int.ediv_le_self _ (by omega)
      have q5 : 1 ≤ room.fdiv (detN d N) := by rw [Int.fdiv_eq_ediv_of_nonneg _ (by omega)]; exact (Int.le_ediv_iff_mul_le (by omega)).mpr (by omega)
      refine ⟨rfl, noB, cl ((h10 _ _).mpr ⟨d, N, rfl, by omega, fun t ht => hN.pos t ht, by omega, noB, ⟨by omega, by have := lg60 (m := detN d N) (by omega) (by omega); omega⟩, rfl, rfl, by rw [ls_len]; show i < 16777216; omega, ?_⟩)⟩
      have e4 : (ls i fun k => sqD d (M k)) ++ [sqD d N] = ls (i + 1) fun k => sqD d (if k = i then N else M k) := by
        rw [← ls_snoc]
        congr 1
        · exact ls_congr fun k hk => by rw [if_neg (by omega)]
        · simp
      refine hk _ ⟨s3, fun k => if k = i then N else M k, room.fdiv (detN d N), some (.val (.int (0 + (i : Int) * 1))), some (.val (sqD d N)), w3.up (by omega), fun k hk' => ?_, q5, by omega, ?_, ?_⟩
      · by_cases e : k = i
        · simpa [e] using hN
        · simpa [e] using hM k (by omega)
      · show (prodN i fun k => detN d (if k = i then N else M k)) * detN d (if i = i then N else M i) * room.fdiv (detN d N) ≤ 10 ^ 60
        rw [if_pos rfl, prodN_congr (g := fun k => detN d (M k)) fun j hj => by rw [if_neg (by omega)]]
        have q6 : (prodN i fun k => detN d (M k)) * (room.fdiv (detN d N) * detN d N) ≤ (prodN i fun k => detN d (M k)) * room := Int.mul_le_mul_of_nonneg_left q2 (by omega)
        rw [Int.mul_assoc, Int.mul_comm (detN d N)]
        omega
      · rw [← e4]; rfl
    · refine br_d (fun h0 => ⟨rfl, rfl, noB, cl ((h4 _ _).mpr ⟨s2, _, _, rfl, w2, by omega, by decide +kernel, fun b s2 w2 => ⟨noB, trivial, br_i (fun _ => ?_) (fun _ => ?_)⟩⟩)⟩) (fun h0 => ?_)
      · have hi0 : 0 < i := by omega
        have hM0 := hM 0 hi0
        have e1 := ls_at (n := i) (f := fun k => sqD d (M k)) (j := 0) (by omega) (by omega)
        have b1 : detN d (M 0) ≤ 10 ^ 60 := by
          have h1 := prodN_part (z := fun k => detN d (M k)) (n := i) (fun j hj => prodN_pos fun t ht => (hM j hj).pos t ht) hi0
          have h2 : (prodN i fun k => detN d (M k)) * 1 ≤ (prodN i fun k => detN d (M k)) * room := Int.mul_le_mul_of_nonneg_left r1 (by omega)
          omega
        refine ⟨rfl, _, e1, rfl, noB, cl ((h10 _ _).mpr ⟨d, M 0, rfl, by omega, fun t ht => hM0.pos t ht, b1, noB, br_d (fun hle => ⟨rfl, _, e1, rfl, hk' _ ⟨s2, M 0, w2.up (by omega), hM0, hle, rfl⟩⟩) (fun _ => ?_)⟩)⟩
        refine ⟨rfl, rfl, rfl, noB, cl ((h4 _ _).mpr ⟨s2, _, _, rfl, w2, by omega, by decide +kernel, fun b s2 w2 => ⟨noB, trivial, br_i (fun _ => ⟨rfl, noB, cl ((h9 _ _).mpr ⟨s2, _, d, _, rfl, w2, by omega, hd, r1, r2, fun N s3 w3 hN hdt => ⟨noB, rfl, hk' _ ⟨s3, N, w3.up (by omega), hN, hdt, rfl⟩⟩⟩)⟩)
          (fun _ => ⟨⟨by decide, by decide +kernel⟩, rfl, noB, cl ((h9 _ _).mpr ⟨s2, _, d, _, rfl, w2, by omega, hd, by split <;> omega, by split <;> omega, fun N s3 w3 hN hdt => ⟨noB, rfl, hk' _ ⟨s3, N, w3.up (by omega), hN, by split at hdt <;> omega, rfl⟩⟩⟩)⟩)⟩⟩)⟩
      · refine ⟨rfl, rfl, rfl, noB, cl ((h4 _ _).mpr ⟨s2, _, _, rfl, w2, by omega, by decide +kernel, fun b s2 w2 => ⟨noB, trivial, br_i (fun _ => ⟨rfl, noB, cl ((h9 _ _).mpr ⟨s2, _, d, _, rfl, w2, by omega, hd, r1, r2, fun N s3 w3 hN hdt => ⟨noB, rfl, hk' _ ⟨s3, N, w3.up (by omega), hN, hdt, rfl⟩⟩⟩)⟩)
          (fun _ => ⟨⟨by decide, by decide +kernel⟩, rfl, noB, cl ((h9 _ _).mpr ⟨s2, _, d, _, rfl, w2, by omega, hd, by split <;> omega, by split <;> omega, fun N s3 w3 hN hdt => ⟨noB, rfl, hk' _ ⟨s3, N, w3.up (by omega), hN, by split at hdt <;> omega, rfl⟩⟩⟩)⟩)⟩⟩)⟩
      · refine ⟨rfl, rfl, rfl, noB, cl ((h4 _ _).mpr ⟨s2, _, _, rfl, w2, by omega, by decide +kernel, fun b s2 w2 => ⟨noB, trivial, br_i (fun _ => ⟨rfl, noB, cl ((h9 _ _).mpr ⟨s2, _, d, _, rfl, w2, by omega, hd, r1, r2, fun N s3 w3 hN hdt => ⟨noB, rfl, hk' _ ⟨s3, N, w3.up (by omega), hN, hdt, rfl⟩⟩⟩)⟩)
          (fun _ => ⟨⟨by decide, by decide +kernel⟩, rfl, noB, cl ((h9 _ _).mpr ⟨s2, _, d, _, rfl, w2, by omega, hd, by split <;> omega, by split <;> omega, fun N s3 w3 hN hdt => ⟨noB, rfl, hk' _ ⟨s3, N, w3.up (by omega), hN, by split at hdt <;> omega, rfl⟩⟩⟩)⟩)⟩⟩)⟩
  · rintro ρ ⟨s1, M, room, z5, z6, w1, hM, r1, r2, p1, rfl⟩
    refine ⟨rfl, hK M s1 (w1.up (by omega)) hM ?_⟩
    have pp : 1 ≤ prodN m fun k => detN d (M k) := prodN_pos fun j hj => prodN_pos fun t ht => (hM j hj).pos t ht
    have : (prodN m fun k => detN d (M k)) * 1 ≤ (prodN m fun k => detN d (M k)) * room := Int.mul_le_mul_of_nonneg_left r1 (by omega)
    omega
end
end K78
end
section
set_option Elab.async false
set_option maxRecDepth 100000
set_option linter.all false
/-! K78D4: the stack that is drawn. -/
namespace K78
open PySem DV
theorem prodN_mulat {z : Nat → Int} {a : Nat} {v : Int} : ∀ {n : Nat}, a < n → prodN n (fun j => if j = a then z a * v else z j) = prodN n z * v
  | n + 1, h => by
    show prodN n (fun j => if j = a then z a * v else z j) * (if n = a then z a * v else z n) = prodN n z * z n * v
    by_cases e : n = a
    · subst e
      rw [if_pos rfl, prodN_congr (g := z) fun i hi => if_neg (by omega), Int.mul_assoc]
    · rw [if_neg e, prodN_mulat (n := n) (by omega), Int.mul_assoc, Int.mul_comm v, ← Int.mul_assoc]
section
variable {G : Nat → DSp} {sub : Nat → Nat → Option Bool}
def sp_dstack : DSp := fun bs K => ∃ (s : Sto) (c : Int) (d : Nat), bs = [.own s.l, .val (.int d)] ∧ s.Wf c ∧ c < 10 ^ 10 ∧ 1 ≤ d ∧ d ≤ 100 ∧
  ∀ (m : Nat) (M : Nat → Nat → Nat → Int) (b : B) (s' : Sto), s'.Wf (c + 400000) → 1 ≤ m → m ≤ 6 → (∀ k, k < m → Hnf d (M k)) → prodN m (fun k => detN d (M k)) ≤ 10 ^ 60 → K (.ok (.val (.lst (ls m fun k => sqD d (M k))))) [s'.l]
theorem vc_dstack (h3 : Has G 3 sp_take) (h6 : Has G 6 sp_filled) (h11 : Has G 11 sp_gstack) (h12 : Has G 12 sp_pick) : ∀ bs K0, bs.length = 2 → sp_dstack bs K0 → ownPos 0 bs = [0] ∧ rdDef ⟨G, [0], none, sub⟩ ir_law_drawn_stack 10 bs K0 := by
  rintro bs K hl ⟨s, c, d, rfl, hw, hc, hd1, hd, hK⟩
  have bnd : ∀ (l : List Int) (x : D), x ∈ l.map D.int → ∃ v : Int, x = .int v ∧ v ∈ l := fun l x hx => by
    obtain ⟨v, hv, rfl⟩ := List.mem_map.mp hx
    exact ⟨v, rfl, hv⟩
  refine ⟨rfl, rfl, rfl, noB, cl ((h3 _ _).mpr ⟨s, _, _, rfl, hw, by omega, by decide +kernel, fun how s2 w2 _ _ _ => ⟨noB, br_d (fun _ => ?_) (fun _ => ?_)⟩⟩)⟩
  · refine ⟨rfl, rfl, rfl, noB, cl ((h12 _ _).mpr ⟨s2, _, _, rfl, w2, by omega, by decide, by decide, fun x s3 w3 hx => ⟨noB, ?_⟩⟩)⟩
    obtain ⟨v, rfl, hv⟩ := bnd [1, 2, 2, 3, 6] x hx
    obtain ⟨m, rfl, hm1, hm⟩ : ∃ m : Nat, v = m ∧ 1 ≤ m ∧ m ≤ 6 := by
      simp only [List.mem_cons, List.not_mem_nil, or_false] at hv
      exact ⟨v.toNat, by omega, by omega, by omega⟩
    exact ⟨rfl, noB, cl ((h11 _ _).mpr ⟨s3, _, d, m, rfl, w3, by omega, hd, by omega, fun M s4 w4 hM hp => ⟨noB, hK m M (.val .non) s4 (w4.up (by omega)) hm1 hm hM hp⟩⟩)⟩
  · refine ⟨rfl, rfl, rfl, rfl, noB, cl ((h12 _ _).mpr ⟨s2, _, _, rfl, w2, by omega, by decide, by decide, fun x s3 w3 hx => ⟨noB, ?_⟩⟩)⟩
    obtain ⟨v, rfl, hv⟩ := bnd [2, 2, 3, 1, 4, 6] x hx
    obtain ⟨m, rfl, hm1, hm⟩ : ∃ m : Nat, v = m ∧ 1 ≤ m ∧ m ≤ 6 := by
      simp only [List.mem_cons, List.not_mem_nil, or_false] at hv
      exact ⟨v.toNat, by omega, by omega, by omega⟩
    refine ⟨⟨by omega, by omega⟩, ?_⟩
    rw [Int.toNat_natCast]
    refine for_rng (fun i ρ => ∃ (s' : Sto) (M : Nat → Nat → Nat → Int) (room : Int) (z4 z5 z7 z8 z9 : Option B), s'.Wf (c + 2 + 20000 * i) ∧ (∀ k, k < i → Hnf d (M k)) ∧ 1 ≤ room ∧ (prodN i fun k => detN d (M k)) * room ≤ 60 ∧
      ρ = [some (.own s'.l), some (.val (.int d)), some (.own (ls i fun k => sqD d (M k))), some (.val (.int room)), z4, z5, none, z7, z8, z9]) ⟨s3, fun _ _ _ => 0, 60, none, none, none, none, none, w3.up (by omega), fun k hk => by omega, by decide, by show (1 : Int) * 60 ≤ 60; omega, rfl⟩ ?_ ?_
    · rintro i ρ hi ⟨s3, M, room, z4, z5, z7, z8, z9, w3, hM, r1, p1, rfl⟩ k hk
      have pp : 1 ≤ prodN i fun k => detN d (M k) := prodN_pos fun j hj => prodN_pos fun t ht => (hM j hj).pos t ht
      refine ⟨rfl, ⟨by omega, by omega⟩, by rw [rngL_size, Int.toNat_natCast]; show d ≤ 16777216; omega, rfl, lc_rg (fun _ => .int 1) (fun j hj k' hk' => ⟨rfl, hk'⟩) ?_⟩
      rw [Int.toNat_natCast]
      refine ⟨rfl, rfl, rfl, noB, cl ((h3 _ _).mpr ⟨s3, _, _, rfl, w3, by omega, by decide +kernel, fun t s4 w4 t1 _ t3 => ⟨noB, ⟨by decide, by decide +kernel⟩, ?_⟩⟩)⟩
      have t4 := t3 (by decide)
      rw [fdiv_e]
      refine ⟨⟨by omega, by omega⟩, for_rng (fun t ρ => ∃ (s' : Sto) (z : Nat → Int) (room : Int) (z7 z8 z9 : Option B), s'.Wf (c + 2 + 20000 * i + 1 + 2 * t) ∧ (∀ j, j < d → 1 ≤ z j) ∧ 1 ≤ room ∧ (prodN i fun k => detN d (M k)) * (prodN d z * room) ≤ 60 ∧
        ρ = [some (.own s'.l), some (.val (.int d)), some (.own (ls i fun k => sqD d (M k))), some (.val (.int room)), some (.val (.int (0 + (i : Int) * 1))), some (.own (ls d fun j => .int (z j))), none, z7, z8, z9]) ⟨s4, fun _ => 1, room, z7, z8, z9, w4.up (by omega), fun _ _ => Int.le_refl 1, r1, by rw [prodN_one, Int.one_mul]; exact p1, rfl⟩ ?_ ?_⟩
      · rintro q ρ hq ⟨s4, z, room, z7, z8, z9, w4, hz, r1, p1, rfl⟩ k' hk'
        have hq2 : q < 2 := by omega
        refine ⟨rfl, rfl, rfl, noB, cl ((h3 _ _).mpr ⟨s4, _, _, rfl, w4, by omega, lg60 (by omega) (by omega), fun a s5 w5 a1 _ a3 => ⟨noB, rfl, rfl, rfl, noB, cl ((h12 _ _).mpr ⟨s5, _, _, rfl, w5, by omega, by decide, by decide, fun y s6 w6 hy => ⟨noB, ?_⟩⟩)⟩⟩)⟩
        have a4 := a3 (by omega)
        obtain ⟨v, rfl, hv⟩ := bnd [2, 2, 4, 3, 5, 1] y hy
        have hv1 : 1 ≤ v ∧ v ≤ 5 := by
          simp only [List.mem_cons, List.not_mem_nil, or_false] at hv
          omega
        obtain ⟨u, hu⟩ : ∃ u : Int, u = if v < room then v else room := ⟨_, rfl⟩
        have hu1 : 1 ≤ u ∧ u ≤ 5 ∧ u ≤ room := by rw [hu]; split <;> omega
        have zp : 1 ≤ prodN d z := prodN_pos hz
        have b1 : prodN d z * 1 ≤ prodN d z * room := Int.mul_le_mul_of_nonneg_left r1 (by omega)
        have b2 : 1 * (prodN d z * room) ≤ (prodN i fun k => detN d (M k)) * (prodN d z * room) := Int.mul_le_mul_of_nonneg_right pp (by omega)
        have e1 := ls_at (n := d) (f := fun j => D.int (z j)) (j := a) a1 (by omega)
        have hza := prodN_part hz (j := a.toNat) (by omega)
        have hza1 := hz a.toNat (by omega)
        show _ ∧ _
        rw [← hu]
        refine ⟨rfl, rfl, _, e1, mulOk_of (lg60 (by omega) (by omega)) (lg60 (m := u) (by omega) (by omega)), rfl, _, ls_ix (f := fun j => D.int (z j)) a1 (by omega), ⟨by omega, by have := lg60 (m := u) (by omega) (by omega); omega⟩, rfl, ?_⟩
        have e0 : (ls d fun j => if j = a.toNat then D.int (z a.toNat * u) else .int (z j)) = ls d fun j => .int (if j = a.toNat then z a.toNat * u else z j) := ls_congr fun j hj => by split <;> rfl
        rw [ls_set, e0]
        have q1 := prodN_mulat (z := z) (a := a.toNat) (v := u) (n := d) (by omega)
        have q2 : room.fdiv u * u ≤ room := by rw [Int.fdiv_eq_ediv_of_nonneg _ (by omega)]; exact Int.ediv_mul_le _ (by omega)
        have q5 : 1 ≤ room.fdiv u := by rw [Int.fdiv_eq_ediv_of_nonneg _ (by omega)]; exact (Int.le_ediv_iff_mul_le (by omega)).mpr (by omega)
        refine hk' _ ⟨s6, fun j => if j = a.toNat then z a.toNat * u else z j, room.fdiv u, some (.val (.int (0 + (q : Int) * 1))), some (.val (.int a)), some (.val (.int u)), w6.up (by omega), fun j hj => ?_, q5, ?_, rfl⟩
        · show 1 ≤ if j = a.toNat then z a.toNat * u else z j
          split
          · have : 1 * u ≤ z a.toNat * u := Int.mul_le_mul_of_nonneg_right hza1 (by omega)
            omega
          · exact hz j hj
        · rw [q1]
          have q6 : prodN d z * (room.fdiv u * u) ≤ prodN d z * room := Int.mul_le_mul_of_nonneg_left q2 (by omega)
          have q7 : prodN d z * u * room.fdiv u = prodN d z * (room.fdiv u * u) := by rw [Int.mul_assoc, Int.mul_comm u]
          rw [q7]
          exact Int.le_trans (Int.mul_le_mul_of_nonneg_left q6 (by omega)) p1
      · rintro ρ ⟨s4, z, room, z7, z8, z9, w4, hz, r1, p1, rfl⟩
        have zp : 1 ≤ prodN d z := prodN_pos hz
        have b1 : prodN d z * 1 ≤ prodN d z * room := Int.mul_le_mul_of_nonneg_left r1 (by omega)
        have b2 : 1 * (prodN d z * room) ≤ (prodN i fun k => detN d (M k)) * (prodN d z * room) := Int.mul_le_mul_of_nonneg_right pp (by omega)
        have hzb : ∀ j, j < d → 1 ≤ z j ∧ z j ≤ 10 ^ 60 := fun j hj => ⟨hz j hj, by have := prodN_part hz hj; omega⟩
        refine ⟨rfl, rfl, rfl, rfl, rfl, noB, cl ((h3 _ _).mpr ⟨s4, _, _, rfl, w4, by omega, by decide +kernel, fun y s5 w5 _ _ _ => ⟨noB, rfl, noB, cl ((h6 _ _).mpr ⟨s5, _, d, z, _, rfl, w5, by omega, hd, hzb, fun N s6 w6 hN hNz => ⟨noB, by rw [ls_len]; show i < 16777216; omega, ?_⟩⟩)⟩⟩)⟩
        have e4 : (ls i fun k => sqD d (M k)) ++ [sqD d N] = ls (i + 1) fun k => sqD d (if k = i then N else M k) := by
          rw [← ls_snoc]
          congr 1
          · exact ls_congr fun k hk => by rw [if_neg (by omega)]
          · simp
        have eN : detN d N = prodN d z := by unfold detN; rw [prodN_congr hNz]
        refine hk _ ⟨s6, fun k => if k = i then N else M k, room, some (.val (.int (0 + (i : Int) * 1))), some (.val (.lst (ls d fun j => .int (z j)))), z7, z8, z9, w6.up (by omega), fun k hk' => ?_, r1, ?_, ?_⟩
        · by_cases e : k = i
          · simpa [e] using hN
          · simpa [e] using hM k (by omega)
        · show (prodN i fun k => detN d (if k = i then N else M k)) * detN d (if i = i then N else M i) * room ≤ 60
          rw [if_pos rfl, prodN_congr (g := fun k => detN d (M k)) fun j hj => by rw [if_neg (by omega)], eN, Int.mul_assoc]
          exact p1
        · rw [← e4]; rfl
    · rintro ρ ⟨s4, M, room, z4, z5, z7, z8, z9, w4, hM, r1, p1, rfl⟩
      have pp : 1 ≤ prodN m fun k => detN d (M k) := prodN_pos fun j hj => prodN_pos fun t ht => (hM j hj).pos t ht
      have : (prodN m fun k => detN d (M k)) * 1 ≤ (prodN m fun k => detN d (M k)) * room := Int.mul_le_mul_of_nonneg_left r1 (by omega)
      exact ⟨rfl, hK m M (.val .non) s4 (w4.up (by omega)) hm1 hm hM (by omega)⟩
end
end K78
end
section
set_option Elab.async false
set_option maxRecDepth 100000
set_option linter.all false
/-! K78D5: copies. -/
namespace K78
open PySem DV
/-- lists down to depth n are no longer than the line -/
def Sm : Nat → D → Prop
  | 0, _ => True
  | n + 1, .lst xs => xs.length ≤ LINE ∧ ∀ x ∈ xs, Sm n x
  | n + 1, .tup xs => xs.length ≤ LINE ∧ ∀ x ∈ xs, Sm n x
  | _ + 1, .int i => lg i ≤ 8000
  | _ + 1, _ => True
def copyB : Nat → D → B
  | 0, d => .val d
  | _ + 1, .lst xs => .own xs
  | _ + 1, d => .val d
theorem copyB_d : ∀ (j : Nat) (d : D), (copyB j d).d = d
  | 0, _ => rfl
  | _ + 1, .lst _ => rfl
  | _ + 1, .non => rfl
  | _ + 1, .bl _ => rfl
  | _ + 1, .int _ => rfl
  | _ + 1, .str _ => rfl
  | _ + 1, .tup _ => rfl
section
variable {G : Nat → DSp} {sub : Nat → Nat → Option Bool}
def sp_copy (j : Nat) : DSp := fun bs K => ∃ d : D, bs = [.val d, .val (.int j)] ∧ Sm j d ∧ K (.ok (copyB j d)) []
theorem vc_copy0 (f : Nat) : ∀ bs K0, bs.length = 2 → sp_copy 0 bs K0 → ownPos 0 bs = [] ∧ rdDef ⟨G, [], none, sub⟩ (ir_law_copy f) 3 bs K0 := by
  rintro bs K hl ⟨d, rfl, hs, hK⟩
  refine ⟨rfl, ?_⟩
  unfold ir_law_copy
  exact hK
theorem vc_copy (f j : Nat) (h : Has G f (sp_copy j)) : ∀ bs K0, bs.length = 2 → sp_copy (j + 1) bs K0 → ownPos 0 bs = [] ∧ rdDef ⟨G, [], none, sub⟩ (ir_law_copy f) 3 bs K0 := by
  rintro bs K hl ⟨d, rfl, hs, hK⟩
  refine ⟨rfl, ?_⟩
  unfold ir_law_copy
  refine ⟨trivial, ?_⟩
  have ej : ((j + 1 : Nat) : Int) - 1 = j := by omega
  have el : ∀ (x : D) (ρ : DV.Env) (k : Option D → DV.Env → Prop), Sm j x → k (some x) ρ → G f [.val x, .val (.int (((j + 1 : Nat) : Int) - 1))] (fun o _ => match o with | .ok b => k (some b.d) ρ | .err _ => False) := fun x ρ k hx hk => (h _ _).mpr ⟨x, by rw [ej]; rfl, hx, by
    show k (some (copyB j x).d) ρ
    rw [copyB_d]
    exact hk⟩
  cases d with
  | lst xs =>
    refine ⟨hs.1, rfl, lc_map (fun x => x) (fun x hx k hk => ⟨rfl, rfl, noB, _, el x _ k (hs.2 x hx) hk, ?_⟩) ?_⟩
    · rintro (b | c) os ho
      · exact ⟨noB, ho⟩
      · exact ho.elim
    · rw [List.map_id']
      exact hK
  | tup xs =>
    refine ⟨trivial, hs.1, rfl, lc_map (fun x => x) (fun x hx k hk => ⟨rfl, rfl, noB, _, el x _ k (hs.2 x hx) hk, ?_⟩) ?_⟩
    · rintro (b | c) os ho
      · exact ⟨noB, ho⟩
      · exact ho.elim
    · rw [List.map_id']
      exact hK
  | _ => exact ⟨trivial, hK⟩
end
end K78
end
section
set_option Elab.async false
set_option maxRecDepth 100000
set_option linter.all false
/-! K78D6: small makers. -/
namespace K78
open PySem DV
def isNum : D → Bool
  | .int _ => true
  | _ => false
def sq : Bool → List D → D
  | true, xs => .tup xs
  | false, xs => .lst xs
section
variable {G : Nat → DSp} {sub : Nat → Nat → Option Bool}
def sp_isnum : DSp := fun bs K => ∃ d : D, bs = [.val d] ∧ K (.ok (.val (.bl (isNum d)))) []
theorem vc_isnum : ∀ bs K0, bs.length = 1 → sp_isnum bs K0 → ownPos 0 bs = [] ∧ rdDef ⟨G, [], none, sub⟩ ir_law_is_number 1 bs K0 := by
  rintro bs K hl ⟨d, rfl, hK⟩
  refine ⟨rfl, ?_⟩
  cases d <;> exact hK
def sp_with : DSp := fun bs K => ∃ (t : Bool) (xs : List D) (p : Int) (d : D), bs = [.val (sq t xs), .val (.int p), .val d] ∧ 0 ≤ p ∧ p < xs.length ∧ K (.ok (.val (sq t (xs.set p.toNat d)))) []
theorem vc_with : ∀ bs K0, bs.length = 3 → sp_with bs K0 → ownPos 0 bs = [] ∧ rdDef ⟨G, [], none, sub⟩ ir_law_with 4 bs K0 := by
  rintro bs K hl ⟨t, xs, p, d, rfl, h0, h1, hK⟩
  refine ⟨rfl, ?_⟩
  cases t with
  | true => exact ⟨rfl, rfl, _, ixN_in h0 h1, trivial, rfl, hK⟩
  | false => exact ⟨rfl, rfl, _, ixN_in h0 h1, trivial, rfl, hK⟩
def sp_ucell : DSp := fun bs K => ∃ (n : Nat) (j : Int), bs = [.val (.int n), .val (.int j)] ∧ n ≤ 1000 ∧ K (.ok (.val (.tup (ls n fun k => .int (if (k : Int) = j then 1 else 0))))) []
theorem vc_ucell : ∀ bs K0, bs.length = 2 → sp_ucell bs K0 → ownPos 0 bs = [] ∧ rdDef ⟨G, [], none, sub⟩ ir_law_unit_cell 3 bs K0 := by
  rintro bs K hl ⟨n, j, rfl, hn, hK⟩
  refine ⟨rfl, ⟨by omega, by omega⟩, by rw [rngL_size, Int.toNat_natCast]; show n ≤ 16777216; omega, rfl, lc_rg (fun k => .int (if (k : Int) = j then 1 else 0)) (fun k hk k' hk' => ?_) ?_⟩
  · refine ⟨rfl, ?_⟩
    show k' (some (.int (if decide ((0 : Int) + (k : Int) * 1 = j) = true then 1 else 0))) _
    have e : (if decide ((0 : Int) + (k : Int) * 1 = j) = true then (1 : Int) else 0) = if (k : Int) = j then 1 else 0 := by
      by_cases h : (k : Int) = j
      · rw [if_pos h, if_pos (decide_eq_true (by omega))]
      · rw [if_neg h, if_neg (by simp; omega)]
    rw [e]
    exact hk'
  · rw [Int.toNat_natCast]
    exact hK
end
end K78
end
section
set_option Elab.async false
set_option maxRecDepth 100000
set_option linter.all false
/-! K78F1: the checks of numbers. -/
namespace K78
open PySem DV
def within (lo hi : Int) : D → Bool
  | .int i => decide (lo ≤ i) && decide (i ≤ hi)
  | _ => false
section
variable {G : Nat → DSp} {sub : Nat → Nat → Option Bool}
theorem vc_whole_c : ∀ bs K0, bs.length = 1 → sp_isnum bs K0 → ownPos 0 bs = [] ∧ rdDef ⟨G, [], none, sub⟩ ir_is_whole_checks 1 bs K0 := by
  rintro bs K hl ⟨d, rfl, hK⟩
  refine ⟨rfl, ?_⟩
  cases d <;> exact hK
theorem vc_whole_t : ∀ bs K0, bs.length = 1 → sp_isnum bs K0 → ownPos 0 bs = [] ∧ rdDef ⟨G, [], none, sub⟩ ir_is_whole_tints 1 bs K0 := by
  rintro bs K hl ⟨d, rfl, hK⟩
  refine ⟨rfl, ?_⟩
  cases d <;> exact hK
def sp_within : DSp := fun bs K => ∃ (d : D) (lo hi : Int), bs = [.val d, .val (.int lo), .val (.int hi)] ∧ K (.ok (.val (.bl (within lo hi d)))) []
theorem vc_within (h45 : Has G 45 sp_isnum) : ∀ bs K0, bs.length = 3 → sp_within bs K0 → ownPos 0 bs = [] ∧ rdDef ⟨G, [], none, sub⟩ ir_is_within 3 bs K0 := by
  rintro bs K hl ⟨d, lo, hi, rfl, hK⟩
  refine ⟨rfl, rfl, noB, cl ((h45 _ _).mpr ⟨d, rfl, noB, ?_⟩)⟩
  cases d with
  | int i =>
    have hK : K (.ok (.val (.bl (decide (lo ≤ i) && decide (i ≤ hi))))) [] := hK
    refine br_d (fun h => ?_) (fun h => ?_)
    · have e : (decide (lo ≤ i) && decide (i ≤ hi)) = decide (i ≤ hi) := by simp [h]
      rw [e] at hK
      exact hK
    · have e : (decide (lo ≤ i) && decide (i ≤ hi)) = false := by simp [h]
      rw [e] at hK
      exact hK
  | _ => exact hK
def BndOk (lo hi : Int) : Prop := -(10 ^ 60) ≤ lo ∧ lo ≤ 10 ^ 60 ∧ -(10 ^ 60) ≤ hi ∧ hi ≤ 10 ^ 60
def sp_bounds : DSp := fun bs K => ∃ lo hi : Int, bs = [.val (.int lo), .val (.int hi)] ∧ BndOk lo hi ∧ K (.ok (.val .non)) []
theorem within_t {lo hi i : Int} (h1 : lo ≤ i) (h2 : i ≤ hi) : within lo hi (.int i) = true := by
  show (decide (lo ≤ i) && decide (i ≤ hi)) = true
  simp [h1, h2]
theorem vc_bounds (h55 : Has G 55 sp_within) : ∀ bs K0, bs.length = 2 → sp_bounds bs K0 → ownPos 0 bs = [] ∧ rdDef ⟨G, [], none, sub⟩ ir_check_bounds 2 bs K0 := by
  rintro bs K hl ⟨lo, hi, rfl, ⟨b1, b2, b3, b4⟩, hK⟩
  refine ⟨rfl, rfl, noB, cl ((h55 _ _).mpr ⟨.int lo, _, _, rfl, noB, trivial, br_f (by rw [within_t (by omega) (by omega)]; rfl) ?_⟩)⟩
  exact ⟨rfl, noB, cl ((h55 _ _).mpr ⟨.int hi, _, _, rfl, noB, trivial, br_f (by rw [within_t (by omega) (by omega)]; rfl) hK⟩)⟩
def sp_number : DSp := fun bs K => ∃ (d : D) (lo hi : Int), bs = [.val d, .val (.int lo), .val (.int hi)] ∧ BndOk lo hi ∧ K (.ok (.val (.bl (within lo hi d)))) []
theorem vc_number (h55 : Has G 55 sp_within) (h56 : Has G 56 sp_bounds) : ∀ bs K0, bs.length = 3 → sp_number bs K0 → ownPos 0 bs = [] ∧ rdDef ⟨G, [], none, sub⟩ ir_is_number 3 bs K0 := by
  rintro bs K hl ⟨d, lo, hi, rfl, hb, hK⟩
  exact ⟨rfl, rfl, noB, cl ((h56 _ _).mpr ⟨lo, hi, rfl, hb, noB, rfl, noB, cl ((h55 _ _).mpr ⟨d, lo, hi, rfl, noB, hK⟩)⟩)⟩
def refuse (ok : Bool) (c : Nat) : Out := if ok then .ok (.val .non) else .err c
def sp_cnumber : DSp := fun bs K => ∃ (d : D) (lo hi : Int), bs = [.val d, .val (.int lo), .val (.int hi)] ∧ BndOk lo hi ∧ K (refuse (within lo hi d) 1) []
theorem vc_cnumber (h57 : Has G 57 sp_number) : ∀ bs K0, bs.length = 3 → sp_cnumber bs K0 → ownPos 0 bs = [] ∧ rdDef ⟨G, [], none, sub⟩ ir_check_number 3 bs K0 := by
  rintro bs K hl ⟨d, lo, hi, rfl, hb, hK⟩
  refine ⟨rfl, rfl, noB, cl ((h57 _ _).mpr ⟨d, lo, hi, rfl, hb, noB, trivial, ?_⟩)⟩
  cases e : within lo hi d with
  | true => rw [e] at hK; exact hK
  | false => rw [e] at hK; exact hK
end
end K78
end
section
set_option Elab.async false
set_option maxRecDepth 100000
set_option linter.all false
/-! K78F2: the checks of colours. -/
namespace K78
open PySem DV
def colB : D → Bool
  | .tup xs => decide (xs.length = 3) && xs.all (within 0 1000)
  | _ => false
section
variable {G : Nat → DSp} {sub : Nat → Nat → Option Bool}
def sp_iscol : DSp := fun bs K => ∃ d : D, bs = [.val d] ∧ K (.ok (.val (.bl (colB d)))) []
theorem vc_iscol (h52 : Has G 52 sp_isnum) : ∀ bs K0, bs.length = 1 → sp_iscol bs K0 → ownPos 0 bs = [] ∧ rdDef ⟨G, [], none, sub⟩ ir_is_colour 2 bs K0 := by
  rintro bs K hl ⟨d, rfl, hK⟩
  refine ⟨rfl, trivial, ?_⟩
  cases d with
  | tup xs =>
    refine br_n (fun h => ?_) (fun h => ?_)
    · have e : colB (.tup xs) = false := by
        show (decide (xs.length = 3) && _) = false
        rw [decide_eq_false (by omega), Bool.false_and]
      rw [e] at hK
      exact hK
    · have hx : xs.length = 3 := by omega
      refine ⟨by rw [hx]; decide, rfl, lc_map (fun x => .bl (within 0 1000 x)) (fun x _ k hk => ?_) ?_⟩
      · refine ⟨rfl, rfl, noB, cl ((h52 _ _).mpr ⟨x, rfl, noB, ?_⟩)⟩
        cases x with
        | int i =>
          have hk : k (some (.bl (decide ((0 : Int) ≤ i) && decide (i ≤ 1000)))) _ := hk
          refine br_d (fun h => ?_) (fun h => ?_)
          · have e : (decide ((0 : Int) ≤ i) && decide (i ≤ 1000)) = decide (i ≤ 1000) := by simp [h]
            rw [e] at hk
            exact hk
          · have e : (decide ((0 : Int) ≤ i) && decide (i ≤ 1000)) = false := by simp [h]
            rw [e] at hk
            exact hk
        | _ => exact hk
      · refine ⟨xs.map (within 0 1000), by rw [List.map_map]; rfl, ?_⟩
        have e : colB (.tup xs) = (xs.map (within 0 1000)).all id := by
          show (decide (xs.length = 3) && xs.all (within 0 1000)) = _
          rw [decide_eq_true hx, Bool.true_and, List.all_map]
          rfl
        rw [e] at hK
        exact hK
  | _ => exact hK
def colsB (m : Int) : D → Bool
  | .lst xs => decide ((xs.length : Int) = m) && xs.all colB
  | _ => false
def sp_hascols : DSp := fun bs K => ∃ (m : Int) (d : D), bs = [.val (.int m), .val d] ∧ m ≤ 1000 ∧ K (.ok (.val (.bl (colsB m d)))) []
theorem vc_hascols (h59 : Has G 59 sp_iscol) : ∀ bs K0, bs.length = 2 → sp_hascols bs K0 → ownPos 0 bs = [] ∧ rdDef ⟨G, [], none, sub⟩ ir_has_colours 3 bs K0 := by
  rintro bs K hl ⟨m, d, rfl, hm, hK⟩
  refine ⟨rfl, trivial, ?_⟩
  cases d with
  | lst xs =>
    refine br_n (fun h => ?_) (fun h => ?_)
    · have e : colsB m (.lst xs) = false := by
        show (decide ((xs.length : Int) = m) && _) = false
        rw [decide_eq_false h, Bool.false_and]
      rw [e] at hK
      exact hK
    · refine ⟨by show xs.length ≤ 16777216; omega, rfl, lc_map (fun x => .bl (colB x)) (fun x _ k hk => ⟨rfl, rfl, noB, cl ((h59 _ _).mpr ⟨x, rfl, noB, hk⟩)⟩) ?_⟩
      refine ⟨xs.map colB, by rw [List.map_map]; rfl, ?_⟩
      have e : colsB m (.lst xs) = (xs.map colB).all id := by
        show (decide ((xs.length : Int) = m) && xs.all colB) = _
        rw [decide_eq_true h, Bool.true_and, List.all_map]
        rfl
      rw [e] at hK
      exact hK
  | _ => exact hK
def sp_ccols : DSp := fun bs K => ∃ (m : Int) (d : D), bs = [.val (.int m), .val d] ∧ m ≤ 1000 ∧ K (refuse (colsB m d) 6) []
theorem vc_ccols (h60 : Has G 60 sp_hascols) : ∀ bs K0, bs.length = 2 → sp_ccols bs K0 → ownPos 0 bs = [] ∧ rdDef ⟨G, [], none, sub⟩ ir_check_colours 2 bs K0 := by
  rintro bs K hl ⟨m, d, rfl, hm, hK⟩
  refine ⟨rfl, rfl, noB, cl ((h60 _ _).mpr ⟨m, d, rfl, hm, noB, trivial, ?_⟩)⟩
  cases e : colsB m d with
  | true => rw [e] at hK; exact hK
  | false => rw [e] at hK; exact hK
def sp_cwish : DSp := fun bs K => ∃ d : D, bs = [.val d] ∧ K (refuse (colB d) 6) []
theorem vc_cwish (h59 : Has G 59 sp_iscol) : ∀ bs K0, bs.length = 1 → sp_cwish bs K0 → ownPos 0 bs = [] ∧ rdDef ⟨G, [], none, sub⟩ ir_check_wish 1 bs K0 := by
  rintro bs K hl ⟨d, rfl, hK⟩
  refine ⟨rfl, rfl, noB, cl ((h59 _ _).mpr ⟨d, rfl, noB, trivial, ?_⟩)⟩
  cases e : colB d with
  | true => rw [e] at hK; exact hK
  | false => rw [e] at hK; exact hK
end
end K78
end
section
set_option Elab.async false
set_option maxRecDepth 100000
set_option linter.all false
/-! K78F3: the checks of tones. -/
namespace K78
open PySem DV
def tonesB (n : Nat) (w : Nat → Int) : D → Bool
  | .lst xs => decide (xs.length = n) && (List.range n).all fun i => within 0 (w i) (xs.getD i .non)
  | _ => false
section
variable {G : Nat → DSp} {sub : Nat → Nat → Option Bool}
theorem zip_ls {n : Nat} {f g : Nat → D} : zipL (ls n f) (ls n g) = ls n fun i => .tup [f i, g i] := ls_ext (by unfold zipL; rw [List.length_zipWith, ls_len, ls_len]; omega) fun i hi => by
  unfold zipL
  rw [List.getElem?_zipWith, ls_get hi, ls_get hi]
def sp_hastones : DSp := fun bs K => ∃ (n : Nat) (w : Nat → Int) (d : D), bs = [.val (.lst (ls n fun i => .int (w i))), .val d] ∧ n ≤ 1000 ∧ K (.ok (.val (.bl (tonesB n w d)))) []
theorem vc_hastones (h52 : Has G 52 sp_isnum) : ∀ bs K0, bs.length = 2 → sp_hastones bs K0 → ownPos 0 bs = [] ∧ rdDef ⟨G, [], none, sub⟩ ir_has_tones 4 bs K0 := by
  rintro bs K hl ⟨n, w, d, rfl, hn, hK⟩
  refine ⟨rfl, trivial, ?_⟩
  cases d with
  | lst xs =>
    refine br_n (fun h => ?_) (fun h => ?_)
    · rw [ls_len] at h
      have e : tonesB n w (.lst xs) = false := by
        show (decide (xs.length = n) && _) = false
        rw [decide_eq_false (by omega), Bool.false_and]
      rw [e] at hK
      exact hK
    · rw [ls_len] at h
      have hx : xs.length = n := by omega
      have ex : xs = ls n fun i => xs.getD i .non := by
        have := ls_of xs D.non
        rw [hx] at this
        exact this
      obtain ⟨f, hf⟩ : ∃ f : Nat → D, xs = ls n f := ⟨_, ex⟩
      subst hf
      refine ⟨?_, rfl, ?_⟩
      · rw [zip_ls, ls_len]; show n ≤ 16777216; omega
      rw [zip_ls]
      refine lc_ls (fun i => .bl (within 0 (w i) (f i))) (fun i hi k hk => ?_) ?_
      · refine ⟨rfl, rfl, rfl, noB, cl ((h52 _ _).mpr ⟨f i, rfl, noB, ?_⟩)⟩
        have hk2 : k (some (.bl (within 0 (w i) (f i)))) _ := hk
        generalize f i = x at hk2
        cases x with
        | int v =>
          have hk2 : k (some (.bl (decide ((0 : Int) ≤ v) && decide (v ≤ w i)))) _ := hk2
          refine br_d (fun h => ?_) (fun h => ?_)
          · have e : (decide ((0 : Int) ≤ v) && decide (v ≤ w i)) = decide (v ≤ w i) := by simp [h]
            rw [e] at hk2
            exact hk2
          · have e : (decide ((0 : Int) ≤ v) && decide (v ≤ w i)) = false := by simp [h]
            rw [e] at hk2
            exact hk2
        | _ => exact hk2
      · refine ⟨ls n fun i => within 0 (w i) (f i), by rw [ls_map], ?_⟩
        have e : tonesB n w (.lst (ls n f)) = (ls n fun i => within 0 (w i) (f i)).all id := by
          show (decide ((ls n f).length = n) && (List.range n).all fun i => within 0 (w i) ((ls n f).getD i .non)) = _
          rw [decide_eq_true ls_len, Bool.true_and, Bool.eq_iff_iff, List.all_eq_true, List.all_eq_true]
          constructor
          · intro hh b hb
            obtain ⟨i, hi, rfl⟩ := ls_mem.mp hb
            have := hh i (List.mem_range.mpr hi)
            rw [List.getD_eq_getElem?_getD, ls_get hi] at this
            exact this
          · intro hh i hi
            have hi := List.mem_range.mp hi
            rw [List.getD_eq_getElem?_getD, ls_get hi]
            exact hh _ (ls_mem.mpr ⟨i, hi, rfl⟩)
        rw [e] at hK
        exact hK
  | _ => exact hK
def sp_ctones : DSp := fun bs K => ∃ (n : Nat) (w : Nat → Int) (d : D), bs = [.val (.lst (ls n fun i => .int (w i))), .val d] ∧ n ≤ 1000 ∧ K (refuse (tonesB n w d) 1) []
theorem vc_ctones (h53 : Has G 53 sp_hastones) : ∀ bs K0, bs.length = 2 → sp_ctones bs K0 → ownPos 0 bs = [] ∧ rdDef ⟨G, [], none, sub⟩ ir_check_tones 2 bs K0 := by
  rintro bs K hl ⟨n, w, d, rfl, hn, hK⟩
  refine ⟨rfl, rfl, noB, cl ((h53 _ _).mpr ⟨n, w, d, rfl, hn, noB, trivial, ?_⟩)⟩
  cases e : tonesB n w d with
  | true => rw [e] at hK; exact hK
  | false => rw [e] at hK; exact hK
end
end K78
end
section
set_option Elab.async false
set_option maxRecDepth 100000
set_option linter.all false
/-! K78F4: the checks of screens. -/
namespace K78
open PySem DV
def rowB (n : Nat) : D → Bool
  | .tup es => decide (es.length = n) && es.all isNum
  | _ => false
def squareB : D → Bool
  | .tup rows => (decide (1 ≤ rows.length) && decide (rows.length ≤ 18)) && rows.all (rowB rows.length)
  | _ => false
section
variable {G : Nat → DSp} {sub : Nat → Nat → Option Bool}
def sp_issq : DSp := fun bs K => ∃ d : D, bs = [.val d] ∧ K (.ok (.val (.bl (squareB d)))) []
theorem vc_issq (h45 : Has G 45 sp_isnum) : ∀ bs K0, bs.length = 1 → sp_issq bs K0 → ownPos 0 bs = [] ∧ rdDef ⟨G, [], none, sub⟩ ir_is_square 3 bs K0 := by
  rintro bs K hl ⟨d, rfl, hK⟩
  refine ⟨rfl, trivial, ?_⟩
  cases d with
  | tup rows =>
    have no : (decide (1 ≤ rows.length) && decide (rows.length ≤ 18)) = false → K (.ok (.val (.bl false))) [] := fun e => by
      have : squareB (.tup rows) = false := by
        show ((decide (1 ≤ rows.length) && decide (rows.length ≤ 18)) && _) = false
        rw [e, Bool.false_and]
      rw [this] at hK
      exact hK
    refine br_d (fun h1 => ?_) (fun h1 => no (by rw [decide_eq_false (by omega), Bool.false_and]))
    refine br_n (fun h2 => no (by rw [decide_eq_false (p := rows.length ≤ 18) (by omega), Bool.and_false])) (fun h2 => ?_)
    refine for_by (fun rest ρ => (∃ z : Option B, ρ = [some (.val (.tup rows)), z, none]) ∧ squareB (.tup rows) = rest.all (rowB rows.length)) ?_ ?_ rows _ ⟨⟨none, rfl⟩, ?_⟩
    · rintro ρ ⟨⟨z, rfl⟩, e⟩
      rw [e] at hK
      exact hK
    · rintro x xs ρ ⟨⟨z, rfl⟩, e⟩ k hk
      have bad : rowB rows.length x = false → K (.ok (.val (.bl false))) [] := fun hb => by
        rw [e, List.all_cons, hb, Bool.false_and] at hK
        exact hK
      refine ⟨rfl, trivial, ?_⟩
      cases x with
      | tup es =>
        refine br_n (fun h => bad ?_) (fun h => ?_)
        · show (decide (es.length = rows.length) && _) = false
          rw [decide_eq_false (by omega), Bool.false_and]
        · have hes : es.length = rows.length := by omega
          refine ⟨by show es.length ≤ 16777216; omega, rfl, lc_map (fun x => .bl (isNum x)) (fun y _ k hk => ⟨rfl, rfl, noB, cl ((h45 _ _).mpr ⟨y, rfl, noB, hk⟩)⟩) ⟨es.map isNum, by rw [List.map_map]; rfl, trivial, ?_⟩⟩
          have er : rowB rows.length (.tup es) = (es.map isNum).all id := by
            show (decide (es.length = rows.length) && es.all isNum) = _
            rw [decide_eq_true hes, Bool.true_and, List.all_map]
            rfl
          cases ea : (es.map isNum).all id with
          | true =>
            refine br_f rfl (hk _ ⟨⟨_, rfl⟩, ?_⟩)
            rw [e, List.all_cons, er, ea, Bool.true_and]
          | false => exact br_t rfl (bad (er.trans ea))
      | _ => exact bad rfl
    · show ((decide (1 ≤ rows.length) && decide (rows.length ≤ 18)) && rows.all (rowB rows.length)) = _
      rw [decide_eq_true (by omega : 1 ≤ rows.length), decide_eq_true (by omega : rows.length ≤ 18)]
      rfl
  | _ => exact hK
def RowH (n : Nat) (M : Nat → Nat → Int) (i : Nat) : Prop := 1 ≤ M i i ∧ (∀ j, j < i → M i j = 0) ∧ ∀ j, i < j → j < n → 0 ≤ M i j ∧ M i j < M j j
def sp_isbrow : DSp := fun bs K => ∃ (n : Nat) (M : Nat → Nat → Int) (i : Nat), bs = [.val (sqD n M), .val (.int i)] ∧ n ≤ 100 ∧ i < n ∧ ∀ b : Bool, (b = true ↔ RowH n M i) → K (.ok (.val (.bl b))) []
theorem vc_isbrow : ∀ bs K0, bs.length = 2 → sp_isbrow bs K0 → ownPos 0 bs = [] ∧ rdDef ⟨G, [], none, sub⟩ ir_is_basis_row 4 bs K0 := by
  rintro bs K hl ⟨n, M, i, rfl, hn, hi, hK⟩
  have row : ∀ {j : Int}, 0 ≤ j → j < n → L2.atI (ls n fun i => D.tup (ls n fun j => .int (M i j))) j = some (.tup (ls n fun k => .int (M j.toNat k))) := fun {j} h0 h1 => ls_at (f := fun i => D.tup (ls n fun j => .int (M i j))) h0 h1
  have ent : ∀ {r : Nat} {j : Int}, 0 ≤ j → j < n → L2.atI (ls n fun k => D.int (M r k)) j = some (.int (M r j.toNat)) := fun {r j} h0 h1 => ls_at (f := fun k => D.int (M r k)) h0 h1
  have no : ¬ RowH n M i → K (.ok (.val (.bl false))) [] := fun h => hK false ⟨fun e => (Bool.false_ne_true e).elim, fun q => absurd q h⟩
  have ei : ((i : Nat) : Int).toNat = i := Int.toNat_natCast i
  have e1 := row (j := (i : Int)) (by omega) (by omega)
  rw [ei] at e1
  have e2 := ent (r := i) (j := (i : Int)) (by omega) (by omega)
  rw [ei] at e2
  refine ⟨rfl, rfl, _, e1, rfl, rfl, _, e2, br_d (fun h => no fun q => by have := q.1; omega) (fun h => ?_)⟩
  refine ⟨⟨by omega, by omega⟩, ?_⟩
  rw [ei]
  refine for_rng (fun t ρ => (∃ z : Option B, ρ = [some (.val (sqD n M)), some (.val (.int i)), some (.val (.tup (ls n fun k => .int (M i k)))), z]) ∧ ∀ j, j < t → M i j = 0) ⟨⟨none, rfl⟩, fun j hj => by omega⟩ ?_ ?_
  · rintro t ρ ht ⟨⟨z, rfl⟩, hz⟩ k hk
    have e3 := ent (r := i) (j := 0 + (t : Int) * 1) (by omega) (by omega)
    have et : (0 + (t : Int) * 1).toNat = t := by omega
    rw [et] at e3
    refine ⟨rfl, rfl, _, e3, br_n (fun h0 => no fun q => h0 (q.2.1 t ht)) (fun h0 => hk _ ⟨⟨_, rfl⟩, fun j hj => ?_⟩)⟩
    by_cases e : j = t
    · rw [e]; exact h0
    · exact hz j (by omega)
  · rintro ρ ⟨⟨z, rfl⟩, hz⟩
    refine ⟨⟨by omega, by omega⟩, ⟨by rw [ls_len]; omega, by rw [ls_len]; omega⟩, ?_⟩
    rw [ls_len]
    refine for_rng (fun t ρ => (∃ z : Option B, ρ = [some (.val (sqD n M)), some (.val (.int i)), some (.val (.tup (ls n fun k => .int (M i k)))), z]) ∧ ∀ j, i < j → j < i + 1 + t → 0 ≤ M i j ∧ M i j < M j j) ⟨⟨z, rfl⟩, fun j h1 h2 => by omega⟩ ?_ ?_
    · rintro t ρ ht ⟨⟨z, rfl⟩, hu⟩ k hk
      have et : ((i : Int) + 1 + (t : Int) * 1).toNat = i + 1 + t := by omega
      have e3 := ent (r := i) (j := (i : Int) + 1 + (t : Int) * 1) (by omega) (by omega)
      have e4 := row (j := (i : Int) + 1 + (t : Int) * 1) (by omega) (by omega)
      have e5 := ent (r := i + 1 + t) (j := (i : Int) + 1 + (t : Int) * 1) (by omega) (by omega)
      rw [et] at e3 e4 e5
      refine ⟨rfl, rfl, _, e3, br_d (fun h0 => ⟨rfl, _, e4, _, e5, br_n (fun h1 => no fun q => h1 (q.2.2 (i + 1 + t) (by omega) (by omega)).2) (fun h1 => hk _ ⟨⟨_, rfl⟩, fun j j1 j2 => ?_⟩)⟩) (fun h0 => no fun q => h0 (q.2.2 (i + 1 + t) (by omega) (by omega)).1)⟩
      by_cases e : j = i + 1 + t
      · rw [e]; exact ⟨h0, h1⟩
      · exact hu j j1 (by omega)
    · rintro ρ ⟨⟨z, rfl⟩, hu⟩
      exact hK true ⟨fun _ => ⟨by omega, hz, fun j j1 j2 => hu j j1 (by omega)⟩, fun _ => rfl⟩
end
end K78
end
section
set_option Elab.async false
set_option maxRecDepth 100000
set_option linter.all false
/-! K78F5: the checks of stacks. -/
namespace K78
open PySem DV
section
variable {G : Nat → DSp} {sub : Nat → Nat → Option Bool}
/-- screens of n rows each with positive diagonals: is the whole product at most 10^60? -/
def sp_ixb : DSp := fun bs K => ∃ (m : Nat) (n : Nat → Nat) (M : Nat → Nat → Nat → Int), bs = [.val (.lst (ls m fun k => sqD (n k) (M k)))] ∧ m ≤ 100 ∧ (∀ k, k < m → n k ≤ 100 ∧ ∀ i, i < n k → 1 ≤ M k i i ∧ lg (M k i i) ≤ 8000) ∧
  ∀ b : Bool, (b = true ↔ prodN m (fun k => detN (n k) (M k)) ≤ 10 ^ 60) → K (.ok (.val (.bl b))) []
theorem vc_ixb : ∀ bs K0, bs.length = 1 → sp_ixb bs K0 → ownPos 0 bs = [] ∧ rdDef ⟨G, [], none, sub⟩ ir_index_bounded 4 bs K0 := by
  rintro bs K hl ⟨m, n, M, rfl, hm, hM, hK⟩
  have hd : ∀ k, k < m → 1 ≤ detN (n k) (M k) := fun k hk => prodN_pos fun i hi => ((hM k hk).2 i hi).1
  refine ⟨rfl, rfl, ?_⟩
  refine for_ls (fun k ρ => (∃ z2 z3 : Option B, ρ = [some (.val (.lst (ls m fun k => sqD (n k) (M k)))), some (.val (.int (prodN k fun k => detN (n k) (M k)))), z2, z3]) ∧ prodN k (fun k => detN (n k) (M k)) ≤ 10 ^ 60) ⟨⟨none, none, rfl⟩, by show (1 : Int) ≤ 10 ^ 60; omega⟩ ?_ ?_
  · rintro k ρ hk ⟨⟨z2, z3, rfl⟩, hp⟩ kk hkk
    obtain ⟨hn, hr⟩ := hM k hk
    have p1 : 1 ≤ prodN k (fun k => detN (n k) (M k)) := prodN_pos fun j hj => hd j (by omega)
    refine ⟨rfl, ⟨by rw [ls_len]; omega, by rw [ls_len]; omega⟩, ?_⟩
    rw [ls_len, Int.toNat_natCast]
    refine for_rng (fun t ρ => (∃ z3 : Option B, ρ = [some (.val (.lst (ls m fun k => sqD (n k) (M k)))), some (.val (.int (prodN k (fun k => detN (n k) (M k)) * prodN t fun i => M k i i))), some (.val (sqD (n k) (M k))), z3]) ∧ prodN k (fun k => detN (n k) (M k)) * (prodN t fun i => M k i i) ≤ 10 ^ 60)
      ⟨⟨z3, by show _ = [_, some (B.val (D.int (prodN k (fun k => detN (n k) (M k)) * 1))), _, _]; rw [Int.mul_one]; rfl⟩, by show _ * (1 : Int) ≤ _; rw [Int.mul_one]; exact hp⟩ ?_ ?_
    · rintro t ρ ht ⟨⟨z3, rfl⟩, hq⟩ k' hk'
      have et : (0 + (t : Int) * 1).toNat = t := by omega
      have e1 := ls_at (n := n k) (f := fun i => D.tup (ls (n k) fun j => .int (M k i j))) (j := 0 + (t : Int) * 1) (by omega) (by omega)
      have e2 := ls_at (n := n k) (f := fun j => D.int (M k t j)) (j := 0 + (t : Int) * 1) (by omega) (by omega)
      rw [et] at e1 e2
      have q1 : 1 ≤ prodN t fun i => M k i i := prodN_pos fun i hi => (hr i (by omega)).1
      have q0 : 1 * 1 ≤ prodN k (fun k => detN (n k) (M k)) * prodN t fun i => M k i i := Int.mul_le_mul p1 q1 (by omega) (by omega)
      refine ⟨rfl, rfl, _, e1, _, e2, mulOk_of (lg60 (by omega) hq) (hr t ht).2, rfl, ?_⟩
      have e3 : prodN k (fun k => detN (n k) (M k)) * (prodN t fun i => M k i i) * M k t t = prodN k (fun k => detN (n k) (M k)) * prodN (t + 1) fun i => M k i i := by rw [Int.mul_assoc]; rfl
      rw [e3]
      refine br_d (fun h => hK false ⟨fun e => (Bool.false_ne_true e).elim, fun hall => ?_⟩) (fun h => hk' _ ⟨⟨_, rfl⟩, by omega⟩)
      have r1 := prodN_mono (f := fun k => detN (n k) (M k)) (m := k + 1) (n := m) hd (by omega)
      have r2 := prodN_mono (f := fun i => M k i i) (m := t + 1) (n := n k) (fun i hi => (hr i hi).1) (by omega)
      have r3 : prodN k (fun k => detN (n k) (M k)) * (prodN (t + 1) fun i => M k i i) ≤ prodN k (fun k => detN (n k) (M k)) * detN (n k) (M k) := Int.mul_le_mul_of_nonneg_left r2 (by omega)
      have r4 : prodN k (fun k => detN (n k) (M k)) * detN (n k) (M k) = prodN (k + 1) fun k => detN (n k) (M k) := rfl
      omega
    · rintro ρ ⟨⟨z3, rfl⟩, hq⟩
      exact hkk _ ⟨⟨_, _, rfl⟩, hq⟩
  · rintro ρ ⟨⟨z2, z3, rfl⟩, hp⟩
    exact hK true ⟨fun _ => hp, fun _ => rfl⟩
end
end K78
end
section
set_option Elab.async false
set_option maxRecDepth 100000
set_option linter.all false
/-! K78F6: what a checked square is. -/
namespace K78
open PySem DV
def entI : D → Int
  | .int i => i
  | _ => 0
def cells : D → List D
  | .tup xs => xs
  | _ => []
theorem ints_of {es : List D} (h : es.all isNum = true) : es = ls es.length fun j => .int (entI (es.getD j .non)) := ls_ext rfl fun j hj => by
  rw [List.getD_eq_getElem?_getD, List.getElem?_eq_getElem hj]
  have := List.all_eq_true.mp h _ (List.getElem_mem hj)
  show some es[j] = some (.int (entI es[j]))
  generalize es[j] = x at this
  cases x with
  | int i => rfl
  | _ => cases this
theorem square_of {d : D} (h : squareB d = true) : ∃ (n : Nat) (M : Nat → Nat → Int), d = sqD n M ∧ 1 ≤ n ∧ n ≤ 18 := by
  cases d with
  | tup rows =>
    have h : ((decide (1 ≤ rows.length) && decide (rows.length ≤ 18)) && rows.all (rowB rows.length)) = true := h
    simp only [Bool.and_eq_true, decide_eq_true_eq] at h
    obtain ⟨⟨h1, h2⟩, h3⟩ := h
    refine ⟨rows.length, fun i j => entI ((cells (rows.getD i .non)).getD j .non), ?_, h1, h2⟩
    show D.tup rows = .tup _
    congr 1
    refine ls_ext rfl fun i hi => ?_
    rw [List.getElem?_eq_getElem hi]
    have hr := List.all_eq_true.mp h3 _ (List.getElem_mem hi)
    have hg : rows.getD i .non = rows[i] := by rw [List.getD_eq_getElem?_getD, List.getElem?_eq_getElem hi]; rfl
    show some rows[i] = some (D.tup (ls rows.length fun j => D.int (entI ((cells (rows.getD i .non)).getD j .non))))
    rw [hg]
    generalize rows[i] = r at hr
    cases r with
    | tup es =>
      have hr : (decide (es.length = rows.length) && es.all isNum) = true := hr
      simp only [Bool.and_eq_true, decide_eq_true_eq] at hr
      have := ints_of hr.2
      rw [hr.1] at this
      exact congrArg (fun z => some (D.tup z)) this
    | _ => cases hr
  | _ => cases h
theorem square_is {n : Nat} {M : Nat → Nat → Int} (h1 : 1 ≤ n) (h2 : n ≤ 18) : squareB (sqD n M) = true := by
  show ((decide (1 ≤ (ls n fun i => D.tup (ls n fun j => .int (M i j))).length) && decide ((ls n fun i => D.tup (ls n fun j => .int (M i j))).length ≤ 18)) && (ls n fun i => D.tup (ls n fun j => .int (M i j))).all (rowB (ls n fun i => D.tup (ls n fun j => .int (M i j))).length)) = true
  rw [ls_len, decide_eq_true h1, decide_eq_true h2]
  refine List.all_eq_true.mpr fun r hr => ?_
  obtain ⟨i, hi, rfl⟩ := ls_mem.mp hr
  show (decide ((ls n fun j => D.int (M i j)).length = n) && (ls n fun j => D.int (M i j)).all isNum) = true
  rw [ls_len, decide_eq_true rfl, Bool.true_and]
  refine List.all_eq_true.mpr fun e he => ?_
  obtain ⟨j, hj, rfl⟩ := ls_mem.mp he
  rfl
theorem sqD_inj {n m : Nat} {M N : Nat → Nat → Int} (h : sqD n M = sqD m N) : n = m ∧ ∀ i j, i < n → j < n → M i j = N i j := by
  have h1 : (ls n fun i => D.tup (ls n fun j => .int (M i j))) = ls m fun i => D.tup (ls m fun j => .int (N i j)) := D.tup.inj h
  have hl := congrArg List.length h1
  rw [ls_len, ls_len] at hl
  subst hl
  refine ⟨rfl, fun i j hi hj => ?_⟩
  have h2 := congrArg (·[i]?) h1
  simp only [ls_get hi] at h2
  have h3 := congrArg (·[j]?) (D.tup.inj (Option.some.inj h2))
  simp only [ls_get hj] at h3
  exact D.int.inj (Option.some.inj h3)
def IsScr (d : D) : Prop := ∃ (n : Nat) (M : Nat → Nat → Int), d = sqD n M ∧ 1 ≤ n ∧ n ≤ 18 ∧ Hnf n M ∧ detN n M ≤ 10 ^ 60
theorem hnf_iff {n : Nat} {M : Nat → Nat → Int} : Hnf n M ↔ ∀ i, i < n → RowH n M i :=
  ⟨fun h i hi => ⟨h.pos i hi, fun j hj => h.low i j hi hj, fun j h1 h2 => h.up i j h1 h2⟩, fun h => ⟨fun i hi => (h i hi).1, fun i j hi hj => (h i hi).2.1 j hj, fun i j h1 h2 => (h i (by omega)).2.2 j h1 h2⟩⟩
theorem isScr_sq {n : Nat} {M : Nat → Nat → Int} : IsScr (sqD n M) ↔ 1 ≤ n ∧ n ≤ 18 ∧ Hnf n M ∧ detN n M ≤ 10 ^ 60 := by
  constructor
  · rintro ⟨m, N, e, h1, h2, h3, h4⟩
    obtain ⟨rfl, he⟩ := sqD_inj e
    refine ⟨h1, h2, ⟨fun i hi => by rw [he i i hi hi]; exact h3.pos i hi, fun i j hi hj => by rw [he i j hi (by omega)]; exact h3.low i j hi hj, fun i j hij hj => by rw [he i j (by omega) hj, he j j hj hj]; exact h3.up i j hij hj⟩, ?_⟩
    have : detN n M = detN n N := prodN_congr fun i hi => he i i hi hi
    rw [this]
    exact h4
  · rintro ⟨h1, h2, h3, h4⟩
    exact ⟨n, M, rfl, h1, h2, h3, h4⟩
end K78
end
section
set_option Elab.async false
set_option maxRecDepth 100000
set_option linter.all false
/-! K78F7: is_screen, is_catalog, is_stack. -/
namespace K78
open PySem DV
open Classical in
theorem dec_iff {p : Prop} {b : Bool} (h : b = true ↔ p) : b = decide p := by
  by_cases hp : p
  · rw [decide_eq_true hp]; exact h.mpr hp
  · rw [decide_eq_false hp]
    cases b with
    | true => exact absurd (h.mp rfl) hp
    | false => rfl
theorem all_ls {n : Nat} {f : Nat → Bool} : (ls n f).all id = true ↔ ∀ i, i < n → f i = true := by
  rw [List.all_eq_true]
  constructor
  · intro h i hi
    exact h _ (ls_mem.mpr ⟨i, hi, rfl⟩)
  · intro h b hb
    obtain ⟨i, hi, rfl⟩ := ls_mem.mp hb
    exact h i hi
theorem sm_sq {n : Nat} {M : Nat → Nat → Int} {i : Nat} {k : Nat} (h : Sm (k + 3) (sqD n M)) (hi : i < n) : lg (M i i) ≤ 8000 := by
  have h1 := h.2 _ (ls_mem.mpr ⟨i, hi, rfl⟩)
  exact h1.2 (.int (M i i)) (ls_mem.mpr ⟨i, hi, rfl⟩)
section
variable {G : Nat → DSp} {sub : Nat → Nat → Option Bool}
def sp_isscr : DSp := fun bs K => ∃ d : D, bs = [.val d] ∧ Sm 3 d ∧ ∀ b : Bool, (b = true ↔ IsScr d) → K (.ok (.val (.bl b))) []
open Classical in
theorem vc_isscr (h44 : Has G 44 sp_ixb) (h46 : Has G 46 sp_issq) (h47 : Has G 47 sp_isbrow) : ∀ bs K0, bs.length = 1 → sp_isscr bs K0 → ownPos 0 bs = [] ∧ rdDef ⟨G, [], none, sub⟩ ir_is_screen 2 bs K0 := by
  rintro bs K hl ⟨d, rfl, ht, hK⟩
  have no : ¬ IsScr d → K (.ok (.val (.bl false))) [] := fun h => hK false ⟨fun e => (Bool.false_ne_true e).elim, fun q => absurd q h⟩
  refine ⟨rfl, rfl, noB, cl ((h46 _ _).mpr ⟨d, rfl, noB, trivial, ?_⟩)⟩
  cases es : squareB d with
  | false =>
    refine br_t rfl (no ?_)
    rintro ⟨n, M, rfl, h1, h2, _⟩
    rw [square_is h1 h2] at es
    cases es
  | true =>
    obtain ⟨n, M, rfl, h1, h2⟩ := square_of es
    refine br_f rfl ⟨⟨by rw [ls_len]; omega, by rw [ls_len]; omega⟩, by rw [rngL_size, ls_len, Int.toNat_natCast]; show n ≤ 16777216; omega, rfl, ?_⟩
    rw [ls_len, Int.toNat_natCast]
    refine lc_rg (fun i => .bl (decide (RowH n M i))) (fun i hi k hk => ?_) ?_
    · have ei : (0 + (i : Int) * 1) = (i : Int) := by omega
      rw [ei]
      exact ⟨rfl, rfl, noB, cl ((h47 _ _).mpr ⟨n, M, i, rfl, by omega, hi, fun b hb => ⟨noB, by rw [dec_iff hb]; exact hk⟩⟩)⟩
    · refine ⟨ls n fun i => decide (RowH n M i), by rw [ls_map], trivial, ?_⟩
      cases ea : (ls n fun i => decide (RowH n M i)).all id with
      | false =>
        refine br_t rfl (no fun q => ?_)
        have h3 := (isScr_sq.mp q).2.2.1
        rw [all_ls.mpr fun i hi => decide_eq_true (hnf_iff.mp h3 i hi)] at ea
        cases ea
      | true =>
        have h3 : Hnf n M := hnf_iff.mpr fun i hi => of_decide_eq_true (all_ls.mp ea i hi)
        refine br_f rfl ⟨rfl, noB, cl ((h44 _ _).mpr ⟨1, fun _ => n, fun _ => M, rfl, by omega, fun k hk => ⟨by show n ≤ 100; omega, fun i hi => ⟨h3.pos i hi, sm_sq ht hi⟩⟩, fun b hb => ⟨noB, hK b (hb.trans ?_)⟩⟩)⟩
        have e1 : prodN 1 (fun k => detN n M) = detN n M := Int.one_mul _
        rw [e1, isScr_sq]
        exact ⟨fun h => ⟨h1, h2, h3, h⟩, fun h => h.2.2.2⟩
/-- a catalog -/
structure Cat (d : D) (m n : Nat) (M : Nat → Nat → Nat → Int) : Prop where
  e : d = .lst (ls m fun k => sqD n (M k))
  m1 : 1 ≤ m
  m2 : m ≤ 8
  n1 : 1 ≤ n
  n2 : n ≤ 18
  h : ∀ k, k < m → Hnf n (M k)
  p : prodN m (fun k => detN n (M k)) ≤ 10 ^ 60
def IsCat (d : D) : Prop := ∃ m n M, Cat d m n M
theorem Cat.det {d : D} {m n : Nat} {M : Nat → Nat → Nat → Int} (c : Cat d m n M) {k : Nat} (hk : k < m) : 1 ≤ detN n (M k) ∧ detN n (M k) ≤ 10 ^ 60 := by
  have h1 : ∀ j, j < m → 1 ≤ detN n (M j) := fun j hj => prodN_pos fun i hi => (c.h j hj).pos i hi
  have h2 := prodN_part (z := fun k => detN n (M k)) h1 hk
  have := c.p
  exact ⟨h1 k hk, by omega⟩
theorem Cat.scr {d : D} {m n : Nat} {M : Nat → Nat → Nat → Int} (c : Cat d m n M) {k : Nat} (hk : k < m) : IsScr (sqD n (M k)) := ⟨n, M k, rfl, c.n1, c.n2, c.h k hk, (c.det hk).2⟩
def sp_iscat : DSp := fun bs K => ∃ d : D, bs = [.val d] ∧ Sm 4 d ∧ ∀ b : Bool, (b = true ↔ IsCat d) → K (.ok (.val (.bl b))) []
theorem scr_fam {m : Nat} {f : Nat → D} (h : ∀ k, k < m → IsScr (f k)) : ∃ (n : Nat → Nat) (M : Nat → Nat → Nat → Int), ∀ k, k < m → f k = sqD (n k) (M k) ∧ 1 ≤ n k ∧ n k ≤ 18 ∧ Hnf (n k) (M k) ∧ detN (n k) (M k) ≤ 10 ^ 60 := by
  have : ∀ k, ∃ (n : Nat) (M : Nat → Nat → Int), k < m → f k = sqD n M ∧ 1 ≤ n ∧ n ≤ 18 ∧ Hnf n M ∧ detN n M ≤ 10 ^ 60 := fun k => by
    by_cases hk : k < m
    · obtain ⟨n, M, h⟩ := h k hk
      exact ⟨n, M, fun _ => h⟩
    · exact ⟨0, fun _ _ => 0, fun h => absurd h hk⟩
  exact ⟨fun k => Classical.choose (this k), fun k => Classical.choose (Classical.choose_spec (this k)), fun k hk => Classical.choose_spec (Classical.choose_spec (this k)) hk⟩
theorem sqD_len {n : Nat} {M : Nat → Nat → Int} : lenD (sqD n M) = fun K => K ((n : Nat) : Int) := by
  show (fun K : Int → Prop => K (((ls n fun i => D.tup (ls n fun j => .int (M i j))).length : Nat) : Int)) = _
  rw [ls_len]
open Classical in
theorem vc_iscat (h44 : Has G 44 sp_ixb) (h48 : Has G 48 sp_isscr) : ∀ bs K0, bs.length = 1 → sp_iscat bs K0 → ownPos 0 bs = [] ∧ rdDef ⟨G, [], none, sub⟩ ir_is_catalog 2 bs K0 := by
  rintro bs K hl ⟨d, rfl, ht, hK⟩
  have no : ¬ IsCat d → K (.ok (.val (.bl false))) [] := fun h => hK false ⟨fun e => (Bool.false_ne_true e).elim, fun q => absurd q h⟩
  refine ⟨rfl, trivial, ?_⟩
  cases d with
  | lst xs =>
    refine br_d (fun h1 => br_n (fun h2 => no ?_) (fun h2 => ?_)) (fun h1 => no ?_)
    · rintro ⟨m, n, M, c⟩
      have := congrArg (fun d => match d with | D.lst xs => xs.length | _ => 0) c.e
      simp only [ls_len] at this
      have := c.m2
      omega
    rotate_left
    · rintro ⟨m, n, M, c⟩
      have := congrArg (fun d => match d with | D.lst xs => xs.length | _ => 0) c.e
      simp only [ls_len] at this
      have := c.m1
      omega
    obtain ⟨m, hm⟩ : ∃ m, m = xs.length := ⟨_, rfl⟩
    have ex : xs = ls m fun i => xs.getD i .non := by rw [hm]; exact ls_of xs .non
    obtain ⟨f, hf⟩ : ∃ f : Nat → D, xs = ls m f := ⟨_, ex⟩
    clear ex
    subst hf
    rw [ls_len] at h1 h2
    have hsm : ∀ k, k < m → Sm 3 (f k) := fun k hk => ht.2 _ (ls_mem.mpr ⟨k, hk, rfl⟩)
    refine ⟨by rw [ls_len]; show m ≤ 16777216; omega, rfl, lc_ls (fun k => .bl (decide (IsScr (f k)))) (fun k hk kk hkk => ?_) ?_⟩
    · exact ⟨rfl, rfl, noB, cl ((h48 _ _).mpr ⟨f k, rfl, hsm k hk, fun b hb => ⟨noB, by rw [dec_iff hb]; exact hkk⟩⟩)⟩
    refine ⟨ls m fun k => decide (IsScr (f k)), by rw [ls_map], trivial, ?_⟩
    cases ea : (ls m fun k => decide (IsScr (f k))).all id with
    | false =>
      refine br_t rfl (no ?_)
      rintro ⟨m', n, M, c⟩
      have e1 : ls m f = ls m' fun k => sqD n (M k) := D.lst.inj c.e
      have e2 := congrArg List.length e1
      rw [ls_len, ls_len] at e2
      subst e2
      rw [all_ls.mpr fun k hk => decide_eq_true ?_] at ea
      · cases ea
      · have e3 := congrArg (·[k]?) e1
        simp only [ls_get hk] at e3
        rw [Option.some.inj e3]
        exact c.scr hk
    | true =>
      obtain ⟨n, M, hM⟩ := scr_fam fun k hk => of_decide_eq_true (all_ls.mp ea k hk)
      have ef : ls m f = ls m fun k => sqD (n k) (M k) := ls_congr fun k hk => (hM k hk).1
      rw [ef] at hK no ht ⊢
      refine br_f rfl ⟨by rw [ls_len]; show m ≤ 16777216; omega, rfl, lc_ls (fun k => .bl (decide ((n k : Int) = (n 0 : Int)))) (fun k hk kk hkk => ?_) ?_⟩
      · have e9 : decide ((((ls (n k) fun i => D.tup (ls (n k) fun j => .int (M k i j))).length : Nat) : Int) = (((ls (n 0) fun i => D.tup (ls (n 0) fun j => .int (M 0 i j))).length : Nat) : Int)) = decide ((n k : Int) = (n 0 : Int)) := by rw [ls_len, ls_len]
        have hkk : kk (some (.bl (decide ((n k : Int) = (n 0 : Int))))) _ := hkk
        rw [← e9] at hkk
        exact ⟨rfl, rfl, _, ls_at (n := m) (f := fun k => sqD (n k) (M k)) (j := 0) (by omega) (by omega), hkk⟩
      refine ⟨ls m fun k => decide ((n k : Int) = (n 0 : Int)), by rw [ls_map], trivial, ?_⟩
      cases eb : (ls m fun k => decide ((n k : Int) = (n 0 : Int))).all id with
      | false =>
        refine br_t rfl (no ?_)
        rintro ⟨m', n', M', c⟩
        have e1 : (ls m fun k => sqD (n k) (M k)) = ls m' fun k => sqD n' (M' k) := D.lst.inj c.e
        have e2 := congrArg List.length e1
        rw [ls_len, ls_len] at e2
        subst e2
        have e4 : ∀ k, k < m → n k = n' := fun k hk => by
          have e3 := congrArg (·[k]?) e1
          simp only [ls_get hk] at e3
          exact (sqD_inj (Option.some.inj e3)).1
        rw [all_ls.mpr fun k hk => decide_eq_true (by rw [e4 k hk, e4 0 (by omega)])] at eb
        cases eb
      | true =>
        have en : ∀ k, k < m → n k = n 0 := fun k hk => by
          have := of_decide_eq_true (all_ls.mp eb k hk)
          omega
        refine br_f rfl ⟨rfl, noB, cl ((h44 _ _).mpr ⟨m, n, M, rfl, by omega, fun k hk => ⟨by have := (hM k hk).2.2.1; omega, fun i hi => ⟨(hM k hk).2.2.2.1.pos i hi, sm_sq (by have := ht.2 _ (ls_mem.mpr ⟨k, hk, rfl⟩); exact this) hi⟩⟩, fun b hb => ⟨noB, hK b (hb.trans ?_)⟩⟩)⟩
        constructor
        · intro hp
          refine ⟨m, n 0, M, ?_, by omega, by omega, (hM 0 (by omega)).2.1, (hM 0 (by omega)).2.2.1, fun k hk => by rw [← en k hk]; exact (hM k hk).2.2.2.1, ?_⟩
          · congr 1
            exact ls_congr fun k hk => by rw [en k hk]
          · rw [prodN_congr (g := fun k => detN (n k) (M k)) fun k hk => by rw [en k hk]]
            exact hp
        · rintro ⟨m', n', M', c⟩
          have e1 : (ls m fun k => sqD (n k) (M k)) = ls m' fun k => sqD n' (M' k) := D.lst.inj c.e
          have e2 := congrArg List.length e1
          rw [ls_len, ls_len] at e2
          subst e2
          rw [prodN_congr (g := fun k => detN n' (M' k)) fun k hk => ?_]
          · exact c.p
          · have e3 := congrArg (·[k]?) e1
            simp only [ls_get hk] at e3
            obtain ⟨q1, q2⟩ := sqD_inj (Option.some.inj e3)
            rw [q1] at q2 ⊢
            exact prodN_congr fun i hi => q2 i i hi hi
  | _ => exact no (by rintro ⟨m, n, M, c⟩; exact D.noConfusion c.e)
/-- a stack -/
structure Stk (d : D) (m n : Nat) (M : Nat → Nat → Nat → Int) : Prop where
  c : Cat d m n M
  m6 : m ≤ 6
  n3 : n ≤ 3
def IsStk (d : D) : Prop := ∃ m n M, Stk d m n M
def sp_isstk : DSp := fun bs K => ∃ d : D, bs = [.val d] ∧ Sm 4 d ∧ ∀ b : Bool, (b = true ↔ IsStk d) → K (.ok (.val (.bl b))) []
theorem vc_isstk (h49 : Has G 49 sp_iscat) : ∀ bs K0, bs.length = 1 → sp_isstk bs K0 → ownPos 0 bs = [] ∧ rdDef ⟨G, [], none, sub⟩ ir_is_stack 1 bs K0 := by
  rintro bs K hl ⟨d, rfl, ht, hK⟩
  have no : ¬ IsStk d → K (.ok (.val (.bl false))) [] := fun h => hK false ⟨fun e => (Bool.false_ne_true e).elim, fun q => absurd q h⟩
  refine ⟨rfl, rfl, noB, cl ((h49 _ _).mpr ⟨d, rfl, ht, fun b hb => ⟨noB, trivial, ?_⟩⟩)⟩
  cases b with
  | false =>
    refine br_t rfl (no ?_)
    rintro ⟨m, n, M, s⟩
    exact Bool.false_ne_true (hb.mpr ⟨m, n, M, s.c⟩)
  | true =>
    obtain ⟨m, n, M, c⟩ := hb.mp rfl
    have same : ∀ {m' n' : Nat} {M' : Nat → Nat → Nat → Int}, Cat d m' n' M' → m' = m ∧ n' = n := fun {m' n' M'} c' => by
      have e1 : (ls m fun k => sqD n (M k)) = ls m' fun k => sqD n' (M' k) := D.lst.inj (c.e.symm.trans c'.e)
      have e2 := congrArg List.length e1
      rw [ls_len, ls_len] at e2
      subst e2
      have e3 := congrArg (·[0]?) e1
      have := c.m1
      simp only [ls_get (show 0 < m by omega)] at e3
      exact ⟨rfl, (sqD_inj (Option.some.inj e3)).1.symm⟩
    have hs : ∀ b : Bool, (b = true ↔ m ≤ 6 ∧ n ≤ 3) → K (.ok (.val (.bl b))) [] := fun b hb => hK b (hb.trans ⟨fun h => ⟨m, n, M, c, h.1, h.2⟩, fun ⟨m', n', M', s⟩ => by
      obtain ⟨e1, e2⟩ := same s.c
      have := s.m6; have := s.n3
      omega⟩)
    clear hK no same
    have ce := c.e
    subst ce
    have := c.m1
    refine br_f rfl ?_
    show br (decide (((ls m fun k => sqD n (M k)).length : Int) ≤ 6)) _ _
    rw [ls_len]
    refine br_d (fun h6 => ⟨rfl, _, ls_at (n := m) (f := fun k => sqD n (M k)) (j := 0) (by omega) (by omega), ?_⟩) (fun h6 => hs false ⟨fun e => (Bool.false_ne_true e).elim, fun q => by omega⟩)
    show lenD (sqD n (M 0)) _
    rw [sqD_len]
    refine hs _ ?_
    rw [decide_eq_true_iff]
    constructor
    · intro h; omega
    · intro h; omega
def sp_cstk : DSp := fun bs K => ∃ d : D, bs = [.val d] ∧ Sm 4 d ∧ (IsStk d → K (.ok (.val .non)) []) ∧ (¬ IsStk d → K (.err 5) [])
theorem vc_cstk (h50 : Has G 50 sp_isstk) : ∀ bs K0, bs.length = 1 → sp_cstk bs K0 → ownPos 0 bs = [] ∧ rdDef ⟨G, [], none, sub⟩ ir_check_stack 1 bs K0 := by
  rintro bs K hl ⟨d, rfl, ht, h1, h2⟩
  refine ⟨rfl, rfl, noB, cl ((h50 _ _).mpr ⟨d, rfl, ht, fun b hb => ⟨noB, trivial, ?_⟩⟩)⟩
  cases b with
  | false => exact br_t rfl (h2 fun q => Bool.false_ne_true (hb.mpr q))
  | true => exact br_f rfl (h1 (hb.mp rfl))
def sp_cscr : DSp := fun bs K => ∃ d : D, bs = [.val d] ∧ Sm 3 d ∧ IsScr d ∧ K (.ok (.val .non)) []
theorem vc_cscr (h48 : Has G 48 sp_isscr) : ∀ bs K0, bs.length = 1 → sp_cscr bs K0 → ownPos 0 bs = [] ∧ rdDef ⟨G, [], none, sub⟩ ir_check_screen 1 bs K0 := by
  rintro bs K hl ⟨d, rfl, ht, h1, h2⟩
  refine ⟨rfl, rfl, noB, cl ((h48 _ _).mpr ⟨d, rfl, ht, fun b hb => ⟨noB, trivial, ?_⟩⟩)⟩
  cases b with
  | false => exact absurd (hb.mpr h1) Bool.false_ne_true
  | true => exact br_f rfl h2
end
end K78
end
section
set_option Elab.async false
set_option maxRecDepth 100000
set_option linter.all false
/-! K78G1: what is bent. -/
namespace K78
open PySem DV
theorem sq_or (d : D) : (∃ b xs, d = sq b xs) ∨ ∀ b xs, d ≠ sq b xs := by
  cases d with
  | lst xs => exact .inl ⟨false, xs, rfl⟩
  | tup xs => exact .inl ⟨true, xs, rfl⟩
  | _ => exact .inr fun b xs h => by cases b <;> cases h
theorem sq_inj {b b' : Bool} {xs xs' : List D} (h : sq b xs = sq b' xs') : b = b' ∧ xs = xs' := by
  cases b <;> cases b' <;> cases h <;> exact ⟨rfl, rfl⟩
theorem sm_sqi {n : Nat} {b : Bool} {xs : List D} : Sm (n + 1) (sq b xs) ↔ xs.length ≤ LINE ∧ ∀ x ∈ xs, Sm n x := by cases b <;> exact Iff.rfl
inductive Bent : D → D → Prop
  | flip {d e : D} (b : Bool) (xs : List D) : d = sq b xs → e = sq (!b) xs → Bent d e
  | odd {d e : D} : (∀ b xs, d ≠ sq b xs) → isNum e = false → (∀ n, Sm n d → Sm n e) → Bent d e
  | kid {d e x y : D} {b : Bool} {xs : List D} {p : Nat} : d = sq b xs → e = sq b (xs.set p y) → xs[p]? = some x → Bent x y → Bent d e
theorem Bent.sm {d e : D} (h : Bent d e) : ∀ n, Sm n d → Sm n e := by
  induction h with
  | flip b xs h1 h2 =>
    intro n hn
    subst h1 h2
    cases n with
    | zero => trivial
    | succ n => exact sm_sqi.mpr (sm_sqi.mp hn)
  | odd h1 h2 h3 => exact h3
  | @kid d e x y b xs p h1 h2 h3 h4 ih =>
    intro n hn
    subst h1 h2
    cases n with
    | zero => trivial
    | succ n =>
      obtain ⟨q1, q2⟩ := sm_sqi.mp hn
      refine sm_sqi.mpr ⟨by rw [List.length_set]; exact q1, fun z hz => ?_⟩
      rcases List.mem_or_eq_of_mem_set hz with h | h
      · exact q2 z h
      · rw [h]; exact ih n (q2 x (List.mem_of_getElem? h3))
theorem Bent.inv {b : Bool} {xs : List D} {e : D} (h : Bent (sq b xs) e) : e = sq (!b) xs ∨ ∃ (p : Nat) (x y : D), xs[p]? = some x ∧ Bent x y ∧ e = sq b (xs.set p y) := by
  cases h with
  | flip b' xs' h1 h2 =>
    obtain ⟨rfl, rfl⟩ := sq_inj h1
    exact .inl h2
  | odd h1 h2 h3 => exact absurd rfl (h1 _ _)
  | kid h1 h2 h3 h4 =>
    obtain ⟨rfl, rfl⟩ := sq_inj h1
    exact .inr ⟨_, _, _, h3, h4, h2⟩
theorem Bent.int {i : Int} {e : D} (h : Bent (.int i) e) : isNum e = false := by
  cases h with
  | flip b xs h1 h2 => cases b <;> cases h1
  | odd h1 h2 h3 => exact h2
  | kid h1 h2 h3 h4 => rename_i b xs p; cases b <;> cases h1
theorem within_no {lo hi : Int} {e : D} (h : isNum e = false) : within lo hi e = false := by
  cases e <;> first | rfl | cases h
theorem all_set {xs : List D} {p : Nat} {x y : D} {f : D → Bool} (h : xs[p]? = some x) (hf : f y = false) : (xs.set p y).all f = false := by
  have hp : p < xs.length := by
    by_cases hp : p < xs.length
    · exact hp
    · rw [List.getElem?_eq_none (Nat.le_of_not_lt hp)] at h; cases h
  cases e : (xs.set p y).all f with
  | false => rfl
  | true =>
    have := List.all_eq_true.mp e y (List.mem_of_getElem? (List.getElem?_set_self hp))
    rw [hf] at this
    cases this
theorem bent_col {f : Nat → Int} {e : D} (h : Bent (colD f) e) : colB e = false := by
  rcases Bent.inv (b := true) h with rfl | ⟨p, x, y, h1, h2, rfl⟩
  · rfl
  · obtain ⟨hp, rfl⟩ := ls_at_ix h1
    show (decide (((ls 3 fun i => D.int (f i)).set p y).length = 3) && ((ls 3 fun i => D.int (f i)).set p y).all (within 0 1000)) = false
    rw [all_set h1 (within_no h2.int), Bool.and_false]
theorem bent_cols {m : Int} {n : Nat} {F : Nat → Nat → Int} {e : D} (h : Bent (.lst (ls n fun k => colD (F k))) e) : colsB m e = false := by
  rcases Bent.inv (b := false) h with rfl | ⟨p, x, y, h1, h2, rfl⟩
  · rfl
  · obtain ⟨hp, rfl⟩ := ls_at_ix h1
    show (_ && ((ls n fun k => colD (F k)).set p y).all colB) = false
    rw [all_set h1 (bent_col h2), Bool.and_false]
theorem tones_no {n : Nat} {w : Nat → Int} {xs : List D} {p : Nat} {y : D} (hp : p < n) (hx : xs[p]? = some y) (hy : within 0 (w p) y = false) : tonesB n w (.lst xs) = false := by
  show (_ && (List.range n).all fun i => within 0 (w i) (xs.getD i .non)) = false
  have : ((List.range n).all fun i => within 0 (w i) (xs.getD i .non)) = false := by
    cases e : ((List.range n).all fun i => within 0 (w i) (xs.getD i .non)) with
    | false => rfl
    | true =>
      have := List.all_eq_true.mp e p (List.mem_range.mpr hp)
      rw [List.getD_eq_getElem?_getD, hx] at this
      have : within 0 (w p) y = true := this
      rw [hy] at this
      cases this
  rw [this, Bool.and_false]
theorem bent_tones {n : Nat} {w t : Nat → Int} {e : D} (h : Bent (.lst (ls n fun k => .int (t k))) e) : tonesB n w e = false := by
  rcases Bent.inv (b := false) h with rfl | ⟨p, x, y, h1, h2, rfl⟩
  · rfl
  · obtain ⟨hp, rfl⟩ := ls_at_ix h1
    exact tones_no hp (List.getElem?_set_self (by rw [ls_len]; exact hp)) (within_no h2.int)
theorem bent_row {n m : Nat} {f : Nat → Int} {e : D} (h : Bent (.tup (ls n fun j => .int (f j))) e) : rowB m e = false := by
  rcases Bent.inv (b := true) h with rfl | ⟨p, x, y, h1, h2, rfl⟩
  · rfl
  · obtain ⟨hp, rfl⟩ := ls_at_ix h1
    show (_ && ((ls n fun j => D.int (f j)).set p y).all isNum) = false
    rw [all_set h1 h2.int, Bool.and_false]
theorem bent_sq {n : Nat} {M : Nat → Nat → Int} {e : D} (h : Bent (sqD n M) e) : squareB e = false := by
  rcases Bent.inv (b := true) h with rfl | ⟨p, x, y, h1, h2, rfl⟩
  · rfl
  · obtain ⟨hp, rfl⟩ := ls_at_ix h1
    show (_ && ((ls n fun i => D.tup (ls n fun j => .int (M i j))).set p y).all (rowB _)) = false
    rw [all_set h1 (bent_row h2), Bool.and_false]
theorem scr_square {d : D} (h : IsScr d) : squareB d = true := by
  obtain ⟨n, M, rfl, h1, h2, _⟩ := h
  exact square_is h1 h2
theorem no_scr {d : D} (h : squareB d = false) : ¬ IsScr d := fun q => by
  rw [scr_square q] at h
  cases h
theorem stk_lst {d : D} (h : IsStk d) : ∃ xs, d = .lst xs ∧ 1 ≤ xs.length ∧ xs.length ≤ 6 ∧ (∀ x ∈ xs, IsScr x) ∧ ∀ (n n' : Nat) (M M' : Nat → Nat → Int), sqD n M ∈ xs → sqD n' M' ∈ xs → n = n' ∧ n ≤ 3 := by
  obtain ⟨m, n, M, s⟩ := h
  refine ⟨_, s.c.e, by rw [ls_len]; exact s.c.m1, by rw [ls_len]; exact s.m6, fun x hx => ?_, fun n1 n2 M1 M2 h1 h2 => ?_⟩
  · obtain ⟨k, hk, rfl⟩ := ls_mem.mp hx
    exact s.c.scr hk
  · obtain ⟨k1, hk1, e1⟩ := ls_mem.mp h1
    obtain ⟨k2, hk2, e2⟩ := ls_mem.mp h2
    have q1 := (sqD_inj e1).1
    have q2 := (sqD_inj e2).1
    have := s.n3
    omega
theorem no_stk_mem {xs : List D} {x : D} (hx : x ∈ xs) (h : ¬ IsScr x) : ¬ IsStk (.lst xs) := fun q => by
  obtain ⟨ys, e, _, _, h1, _⟩ := stk_lst q
  cases e
  exact h (h1 x hx)
theorem no_stk_sq {d : D} (h : ∀ xs, d ≠ .lst xs) : ¬ IsStk d := fun q => by
  obtain ⟨ys, e, _⟩ := stk_lst q
  exact h ys e
theorem bent_stk {m n : Nat} {M : Nat → Nat → Nat → Int} {e : D} (h : Bent (.lst (ls m fun k => sqD n (M k))) e) : ¬ IsStk e := by
  rcases Bent.inv (b := false) h with rfl | ⟨p, x, y, h1, h2, rfl⟩
  · exact no_stk_sq fun xs h => by cases h
  · obtain ⟨hp, rfl⟩ := ls_at_ix h1
    exact no_stk_mem (List.mem_of_getElem? (List.getElem?_set_self (by rw [ls_len]; exact hp))) (no_scr (bent_sq h2))
structure Path (d : D) (t : Nat) (f : Nat → D) (p : Nat → Int) : Prop where
  z : f 0 = d
  k : ∀ i, i < t → ∃ b xs, f i = sq b xs ∧ 0 ≤ p i ∧ p i < (xs.length : Nat) ∧ xs[(p i).toNat]? = some (f (i + 1))
  s : ∀ i, i ≤ t → Sm (8 - i) (f i)
section
variable {G : Nat → DSp} {sub : Nat → Nat → Option Bool}
def sp_bent : DSp := fun bs K => ∃ (s : Sto) (c : Int) (d : D), bs = [.own s.l, .val d] ∧ s.Wf c ∧ c < 10 ^ 14 ∧ Sm 8 d ∧ ∀ (e : D) (s' : Sto), s'.Wf (c + 20) → Bent d e → K (.ok (.val e)) [s'.l]
theorem ls_more {α : Type} {n : Nat} {f : Nat → α} {v : α} : ls n f ++ [v] = ls (n + 1) fun i => if i = n then v else f i := by
  rw [← ls_snoc]
  congr 1
  · exact ls_congr fun i hi => by rw [if_neg (by omega)]
  · rw [if_pos rfl]
theorem vc_bent (h3 : Has G 3 sp_take) (h4 : Has G 4 sp_rare) (h12 : Has G 12 sp_pick) (h31 : Has G 31 sp_with) (h33 : Has G 33 sp_isnum) : ∀ bs K0, bs.length = 2 → sp_bent bs K0 → ownPos 0 bs = [0] ∧ rdDef ⟨G, [0], none, sub⟩ ir_law_bent 9 bs K0 := by
  rintro bs K hl ⟨s, c, d, rfl, hw, hc, hsm, hK⟩
  refine ⟨rfl, rfl, rfl, ⟨by decide, by decide +kernel⟩, ?_⟩
  refine for_cut (fun ρ => ∃ (s' : Sto) (t : Nat) (f : Nat → D) (p : Nat → Int) (z4 z5 : Option B), t ≤ 6 ∧ s'.Wf (c + 12) ∧ Path d t f p ∧ ρ = [some (.own s'.l), some (.val d), some (.own (ls t fun i => .int (p i))), some (.own (ls (t + 1) f)), z4, z5, none, none, none]) ?_ fun hr => ?_
  · rintro ρ ⟨s1, t, f, p, z4, z5, ht, w1, hp, rfl⟩
    have e1 : L2.atI (ls (t + 1) f) (((ls t fun i => D.int (p i)).length : Nat) : Int) = some (f t) := by
      rw [ls_len]
      exact ls_at (by omega) (by omega)
    refine ⟨rfl, _, e1, rfl, rfl, ?_⟩
    refine seq_cut (fun ρ => ∃ (s' : Sto) (b6 : B), s'.Wf (c + 20) ∧ Bent (f t) b6.d ∧ ρ = [some (.own s'.l), some (.val d), some (.own (ls t fun i => .int (p i))), some (.own (ls (t + 1) f)), z4, some (.val (f t)), some b6, none, none]) ?_ fun k hk => ?_
    · rintro ρ ⟨s2, b6, w2, hb, rfl⟩
      refine ⟨⟨by rw [ls_len]; omega, by rw [ls_len]; omega⟩, ?_⟩
      rw [ls_len, Int.toNat_natCast]
      refine for_rng (fun k ρ => ∃ (b6 : B) (z7 z8 : Option B), Bent (f (t - k)) b6.d ∧ ρ = [some (.own s2.l), some (.val d), some (.own (ls t fun i => .int (p i))), some (.own (ls (t + 1) f)), z4, some (.val (f t)), some b6, z7, z8]) ⟨b6, none, none, hb, rfl⟩ ?_ ?_
      · rintro k ρ hk ⟨b6, z7, z8, hb, rfl⟩ kk hkk
        have q1 : L2.atI (ls (t + 1) f) (((ls t fun i => D.int (p i)).length : Nat) - 1 - (0 + (k : Int) * 1) : Int) = some (f (t - 1 - k)) := by
          rw [ls_len, ls_at (by omega) (by omega)]
          congr 2
          omega
        have q2 : L2.atI (ls t fun i => D.int (p i)) (((ls t fun i => D.int (p i)).length : Nat) - 1 - (0 + (k : Int) * 1) : Int) = some (.int (p (t - 1 - k))) := by
          rw [ls_len, ls_at (by omega) (by omega)]
          congr 3
          omega
        obtain ⟨b, xs, g1, g2, g3, g4⟩ := hp.k (t - 1 - k) (by omega)
        have et : t - 1 - k + 1 = t - k := by omega
        rw [et] at g4
        refine ⟨rfl, rfl, rfl, _, q1, rfl, _, q2, ?_⟩
        cases b6 with
        | val d6 => exact ⟨rfl, noB, cl ((h31 _ _).mpr ⟨b, xs, p (t - 1 - k), d6, by rw [g1]; rfl, g2, g3, noB, rfl, hkk _ ⟨_, _, _, .kid (by rw [← g1, show t - (k + 1) = t - 1 - k by omega]) rfl g4 hb, rfl⟩⟩)⟩
        | own x6 => exact ⟨rfl, rfl, noB, cl ((h31 _ _).mpr ⟨b, xs, p (t - 1 - k), .lst x6, by rw [g1]; rfl, g2, g3, noB, rfl, hkk _ ⟨_, _, _, .kid (by rw [← g1, show t - (k + 1) = t - 1 - k by omega]) rfl g4 hb, rfl⟩⟩)⟩
      · rintro ρ ⟨b6, z7, z8, hb, rfl⟩
        rw [Nat.sub_self, hp.z] at hb
        cases b6 with
        | val d6 => exact hK d6 s2 w2 hb
        | own x6 => exact ⟨rfl, hK (.lst x6) s2 w2 hb⟩
    · obtain ⟨x, hx⟩ : ∃ x, x = f t := ⟨_, rfl⟩
      rw [← hx] at hk ⊢
      refine ⟨trivial, ?_⟩
      cases x with
      | lst xs => exact br_t rfl ⟨rfl, hk _ ⟨s1, _, w1.up (by omega), .flip false xs rfl rfl, rfl⟩⟩
      | tup xs => exact br_f rfl ⟨trivial, br_t rfl ⟨rfl, hk _ ⟨s1, _, w1.up (by omega), .flip true xs rfl rfl, rfl⟩⟩⟩
      | int i =>
        refine br_f rfl ⟨trivial, br_f rfl ⟨rfl, noB, cl ((h33 _ _).mpr ⟨_, rfl, noB, trivial, br_t rfl ⟨rfl, rfl, noB, cl ((h12 _ _).mpr ⟨s1, _, _, rfl, w1, by omega, by show 0 < 7; omega, by show 7 < 10 ^ 6; omega, fun y s2 w2 hy => ⟨noB, rfl, hk _ ⟨s2, .val y, w2.up (by omega), .odd (fun b xs h => by cases b <;> cases h) ?_ ?_, rfl⟩⟩⟩)⟩⟩)⟩⟩
        · simp only [List.mem_cons, List.not_mem_nil, or_false] at hy
          rcases hy with rfl | rfl | rfl | rfl | rfl | rfl | rfl <;> rfl
        · simp only [List.mem_cons, List.not_mem_nil, or_false] at hy
          intro n hn
          have one : ∀ z ∈ [D.int i], Sm (n - 1) z := fun z hz => by
            have := List.mem_singleton.mp hz
            subst this
            cases n with
            | zero => trivial
            | succ n => cases n with
              | zero => trivial
              | succ n => exact hn
          cases n with
          | zero => trivial
          | succ n =>
            rcases hy with rfl | rfl | rfl | rfl | rfl | rfl | rfl
            · trivial
            · trivial
            · trivial
            · trivial
            · exact ⟨by decide, fun z hz => by cases hz⟩
            · exact ⟨by show 1 ≤ 16777216; omega, one⟩
            · exact ⟨by show 1 ≤ 16777216; omega, one⟩
      | non => exact br_f rfl ⟨trivial, br_f rfl ⟨rfl, noB, cl ((h33 _ _).mpr ⟨_, rfl, noB, trivial, br_f rfl ⟨rfl, hk _ ⟨s1, _, w1.up (by omega), .odd (fun b xs h => by cases b <;> cases h) rfl (fun n _ => by cases n <;> trivial), rfl⟩⟩⟩)⟩⟩
      | bl b => exact br_f rfl ⟨trivial, br_f rfl ⟨rfl, noB, cl ((h33 _ _).mpr ⟨_, rfl, noB, trivial, br_f rfl (hk _ ⟨s1, _, w1.up (by omega), .odd (fun b xs h => by cases b <;> cases h) rfl (fun n _ => by cases n <;> trivial), rfl⟩)⟩)⟩⟩
      | str b => exact br_f rfl ⟨trivial, br_f rfl ⟨rfl, noB, cl ((h33 _ _).mpr ⟨_, rfl, noB, trivial, br_f rfl (hk _ ⟨s1, _, w1.up (by omega), .odd (fun b xs h => by cases b <;> cases h) rfl (fun n _ => by cases n <;> trivial), rfl⟩)⟩)⟩⟩
  · refine for_rng (fun t ρ => ∃ (s' : Sto) (f : Nat → D) (p : Nat → Int) (z4 z5 : Option B), s'.Wf (c + 2 * t) ∧ Path d t f p ∧ ρ = [some (.own s'.l), some (.val d), some (.own (ls t fun i => .int (p i))), some (.own (ls (t + 1) f)), z4, z5, none, none, none]) ⟨s, fun _ => d, fun _ => 0, none, none, hw.up (by omega), ⟨rfl, fun i hi => by omega, fun i hi => (by obtain rfl : i = 0 := (by omega); exact hsm)⟩, rfl⟩ ?_ ?_
    · rintro t ρ ht ⟨s1, f, p, z4, z5, w1, hp, rfl⟩ k hk
      have ht6 : t < 6 := ht
      have e1 : L2.atI (ls (t + 1) f) (0 + (t : Int) * 1) = some (f t) := by
        rw [ls_at (by omega) (by omega)]
        congr 2
        omega
      have stop : ∀ (s2 : Sto) (z4 z5 : Option B), s2.Wf (c + 2 * t + 1) → _ := fun s2 z4 z5 w2 => hr _ ⟨s2, t, f, p, z4, z5, by omega, w2.up (by omega), hp, rfl⟩
      refine ⟨rfl, rfl, _, e1, rfl, trivial, ?_⟩
      rcases sq_or (f t) with ⟨b, xs, e⟩ | hno
      · have hs : Sm (7 - t + 1) (f t) := by
          have := hp.s t (by omega)
          rwa [show 8 - t = 7 - t + 1 by omega] at this
        rw [e] at hs
        obtain ⟨hlen, hkid⟩ := sm_sqi.mp hs
        have hlen : xs.length ≤ 16777216 := hlen
        have fin : ∀ (s2 : Sto) (v : Int) (y : D), s2.Wf (c + 2 * t + 2) → 0 ≤ v → v < (xs.length : Nat) → xs[v.toNat]? = some y → k [some (.own s2.l), some (.val d), some (.own ((ls t fun i => .int (p i)) ++ [.int v])), some (.own ((ls (t + 1) f) ++ [y])), some (.val (.int (0 + (t : Int) * 1))), some (.val (sq b xs)), none, none, none] := fun s2 v y w2 v0 v1 hy => by
          have e4 : (ls t fun i => D.int (p i)) ++ [.int v] = ls (t + 1) fun i => .int (if i = t then v else p i) := by
            rw [ls_more]
            exact ls_congr fun i hi => by split <;> rfl
          rw [e4, ls_more]
          refine hk _ ⟨s2, _, _, _, _, w2.up (by omega), ⟨?_, fun i hi => ?_, fun i hi => ?_⟩, rfl⟩
          · rw [if_neg (by omega)]; exact hp.z
          · by_cases h : i = t
            · subst h
              simp only [if_pos, if_neg (show ¬ i = i + 1 by omega)]
              exact ⟨b, xs, e, v0, v1, hy⟩
            · simp only [if_neg h, if_neg (show ¬ i = t + 1 by omega), if_neg (show ¬ i + 1 = t + 1 by omega)]
              exact hp.k i (by omega)
          · by_cases h : i = t + 1
            · rw [if_pos h, show 8 - i = 7 - t by omega]
              exact hkid y (List.mem_of_getElem? hy)
            · rw [if_neg h]
              exact hp.s i (by omega)
        rw [e]
        cases b
        all_goals
          refine br_f rfl (br_d (fun h0 => stop s1 _ _ (w1.up (by omega))) fun h0 => ⟨rfl, rfl, noB, cl ((h4 _ _).mpr ⟨s1, _, _, rfl, w1, by omega, by decide +kernel, fun bb s2 w2 => ⟨noB, trivial, br_i (fun _ => stop s2 _ _ w2) fun _ => ?_⟩⟩)⟩)
          have h0 : ¬ ((xs.length : Nat) : Int) = 0 := h0
          refine ⟨rfl, rfl, rfl, noB, cl ((h3 _ _).mpr ⟨s2, _, _, rfl, w2, by omega, lg60 (by omega) (by omega), fun v s3 w3 k1 k2 k3 => ⟨noB, by rw [ls_len]; show t < 16777216; omega, ?_⟩⟩)⟩
          have k4 := k3 (by omega)
          obtain ⟨y, y1, y2⟩ := atI_in (xs := xs) (i := v) k1 k4
          have e5 : L2.atI ((ls t fun i => D.int (p i)) ++ [.int v]) (0 + (t : Int) * 1) = some (.int v) := by
            rw [ls_more, ls_at (by omega) (by omega), if_pos (by omega)]
          exact ⟨rfl, rfl, rfl, _, e5, _, y1, by rw [ls_len]; show t + 1 < 16777216; omega, fin s3 v y (w3.up (by omega)) k1 k4 y2⟩
      · obtain ⟨x, hx⟩ : ∃ x, x = f t := ⟨_, rfl⟩
        have stop := stop s1 (some (.val (.int (0 + (t : Int) * 1)))) (some (.val (f t))) (w1.up (by omega))
        rw [← hx] at hno stop ⊢
        cases x with
        | lst xs => exact absurd rfl (hno false xs)
        | tup xs => exact absurd rfl (hno true xs)
        | _ => exact br_t rfl stop
    · rintro ρ ⟨s1, f, p, z4, z5, w1, hp, rfl⟩
      exact hr _ ⟨s1, 6, f, p, z4, z5, by omega, w1.up (by show c + 2 * ((6 : Nat) : Int) ≤ c + 12; omega), hp, rfl⟩
end
end K78
end
section
set_option Elab.async false
set_option maxRecDepth 100000
set_option linter.all false
/-! K78G2: small things, cuts, changed screens. -/
namespace K78
open PySem DV
theorem cut_to {α : Type} {n k : Nat} {f : Nat → α} {v : Int} (hv : v = (k : Nat)) (h : k ≤ n) : cutL (ls n f) none (some v) = ls k f := by
  subst hv
  unfold cutL
  rw [HT.sIx_none, HT.sIx_nat, ls_len, List.drop_zero, Nat.sub_zero, Nat.min_eq_left h]
  refine ls_ext (by rw [List.length_take, ls_len]; omega) fun i hi => ?_
  rw [List.getElem?_take, if_pos hi, ls_get (by omega)]
theorem cut_from {α : Type} {n k : Nat} {f : Nat → α} {v : Int} (hv : v = (k : Nat)) (h : k ≤ n) : cutL (ls n f) (some v) none = ls (n - k) fun i => f (k + i) := by
  subst hv
  unfold cutL
  rw [HT.sIx_none, HT.sIx_nat, ls_len, Nat.min_eq_left h]
  refine ls_ext (by rw [List.length_take, List.length_drop, ls_len]; omega) fun i hi => ?_
  rw [List.getElem?_take, if_pos hi, List.getElem?_drop, ls_get (by omega)]
theorem cut_not {n k : Nat} {v : Int} (hv : v = (k : Nat)) (h : k < n) : ¬ (HT.sIx n 0 none = 0 ∧ HT.sIx n n (some v) = n) := by
  subst hv
  rw [HT.sIx_nat]
  omega
def Al (d : D) : Prop := ∀ k, Sm k d
theorem al_sq {b : Bool} {xs : List D} (h : xs.length ≤ LINE) (hx : ∀ x ∈ xs, Al x) : Al (sq b xs) := fun k => by
  cases k with
  | zero => trivial
  | succ k => exact sm_sqi.mpr ⟨h, fun x hx' => hx x hx' k⟩
theorem al_mem {b : Bool} {xs : List D} (h : Al (sq b xs)) {x : D} (hx : x ∈ xs) : Al x := fun k => (sm_sqi.mp (h (k + 1))).2 x hx
theorem al_len {b : Bool} {xs : List D} (h : Al (sq b xs)) : xs.length ≤ LINE := (sm_sqi.mp (h 1)).1
theorem al_ls {b : Bool} {n : Nat} {f : Nat → D} (h : n ≤ 1000) (hx : ∀ i, i < n → Al (f i)) : Al (sq b (ls n f)) := al_sq (by rw [ls_len]; show n ≤ 16777216; omega) fun x hx' => by
  obtain ⟨i, hi, rfl⟩ := ls_mem.mp hx'
  exact hx i hi
theorem al_int {i : Int} (h : lg i ≤ 8000) : Al (.int i) := fun k => by
  cases k with
  | zero => trivial
  | succ k => exact h
theorem al_non : Al .non := fun k => by cases k <;> trivial
theorem al_bl {b : Bool} : Al (.bl b) := fun k => by cases k <;> trivial
theorem al_str {b : Str} : Al (.str b) := fun k => by cases k <;> trivial
theorem al_nil {b : Bool} : Al (sq b []) := al_sq (by decide) fun x hx => by cases hx
theorem al_one {b : Bool} {x : D} (h : Al x) : Al (sq b [x]) := al_sq (by show 1 ≤ 16777216; omega) fun y hy => by rw [List.mem_singleton.mp hy]; exact h
theorem Bent.al {d e : D} (h : Bent d e) (a : Al d) : Al e := fun k => h.sm k (a k)
theorem al_set {b : Bool} {xs : List D} {p : Nat} {y : D} (h : Al (sq b xs)) (hy : Al y) : Al (sq b (xs.set p y)) := al_sq (by rw [List.length_set]; exact al_len h) fun z hz => by
  rcases List.mem_or_eq_of_mem_set hz with q | q
  · exact al_mem h q
  · rw [q]; exact hy
/-- a square of things -/
def genD (n : Nat) (E : Nat → Nat → D) : D := .tup (ls n fun i => .tup (ls n fun j => E i j))
theorem al_gen {n : Nat} {E : Nat → Nat → D} (h : n ≤ 1000) (hx : ∀ i j, i < n → j < n → Al (E i j)) : Al (genD n E) := al_ls (b := true) h fun i hi => al_ls (b := true) h fun j hj => hx i j hi hj
def entM (M : Nat → Nat → Int) (a b : Nat) (d : D) : Nat → Nat → D := fun i j => if i = a ∧ j = b then d else .int (M i j)
def setM (M : Nat → Nat → Int) (a b : Nat) (v : Int) : Nat → Nat → Int := fun i j => if i = a ∧ j = b then v else M i j
theorem gen_set {n : Nat} {M : Nat → Nat → Int} {a b : Nat} {v : Int} : genD n (entM M a b (.int v)) = sqD n (setM M a b v) := by
  unfold genD sqD
  congr 1
  refine ls_congr fun i hi => ?_
  congr 1
  refine ls_congr fun j hj => ?_
  unfold entM setM
  split <;> rfl
theorem gen_ent {n : Nat} {M : Nat → Nat → Int} {a b : Nat} {d : D} : genD n (entM M a b d) = .tup ((ls n fun i => D.tup (ls n fun j => .int (M i j))).set a (.tup ((ls n fun j => D.int (M a j)).set b d))) := by
  unfold genD
  rw [ls_set, ls_set]
  congr 1
  refine ls_congr fun i hi => ?_
  by_cases h : i = a
  · subst h
    rw [if_pos rfl]
    congr 1
    refine ls_congr fun j hj => ?_
    unfold entM
    by_cases h : j = b
    · rw [if_pos ⟨rfl, h⟩, if_pos h]
    · rw [if_neg (fun q => h q.2), if_neg h]
  · rw [if_neg h]
    congr 1
    refine ls_congr fun j hj => ?_
    unfold entM
    rw [if_neg (fun q => h q.1)]
section
variable {G : Nat → DSp} {sub : Nat → Nat → Option Bool}
def unitM : Nat → Nat → Int := fun i k => if (k : Int) = (i : Int) then 1 else 0
def sp_unit : DSp := fun bs K => ∃ n : Nat, bs = [.val (.int n)] ∧ n ≤ 100 ∧ K (.ok (.val (sqD n unitM))) []
theorem vc_unit (h29 : Has G 29 sp_ucell) : ∀ bs K0, bs.length = 1 → sp_unit bs K0 → ownPos 0 bs = [] ∧ rdDef ⟨G, [], none, sub⟩ ir_law_unit 2 bs K0 := by
  rintro bs K hl ⟨n, rfl, hn, hK⟩
  refine ⟨rfl, ⟨by omega, by omega⟩, by rw [rngL_size, Int.toNat_natCast]; show n ≤ 16777216; omega, rfl, lc_rg (fun i => .tup (ls n fun k => .int (unitM i k))) (fun i hi k hk => ?_) ?_⟩
  · have ei : (0 + (i : Int) * 1) = (i : Int) := by omega
    rw [ei]
    exact ⟨rfl, rfl, noB, cl ((h29 _ _).mpr ⟨n, (i : Int), rfl, by omega, noB, hk⟩)⟩
  · rw [Int.toNat_natCast]
    exact hK
def boxM (z : Nat → Int) : Nat → Nat → Int := fun i j => if j = i then z i else 0
def sp_box : DSp := fun bs K => ∃ (n : Nat) (z : Nat → Int), bs = [.val (.lst (ls n fun i => .int (z i)))] ∧ n ≤ 100 ∧ K (.ok (.val (sqD n (boxM z)))) []
theorem vc_box (h29 : Has G 29 sp_ucell) (h31 : Has G 31 sp_with) : ∀ bs K0, bs.length = 1 → sp_box bs K0 → ownPos 0 bs = [] ∧ rdDef ⟨G, [], none, sub⟩ ir_law_box_basis 2 bs K0 := by
  rintro bs K hl ⟨n, z, rfl, hn, hK⟩
  refine ⟨rfl, ⟨by rw [ls_len]; omega, by rw [ls_len]; omega⟩, by rw [rngL_size, ls_len, Int.toNat_natCast]; show n ≤ 16777216; omega, rfl, ?_⟩
  rw [ls_len, Int.toNat_natCast]
  refine lc_rg (fun i => .tup (ls n fun k => .int (boxM z i k))) (fun i hi k hk => ?_) hK
  have ei : (0 + (i : Int) * 1) = (i : Int) := by omega
  rw [ei]
  refine ⟨rfl, rfl, noB, cl ((h29 _ _).mpr ⟨n, (i : Int), by rw [ls_len]; rfl, by omega, noB, rfl, _, ls_at (n := n) (f := fun i => D.int (z i)) (by omega) (by omega), ?_⟩)⟩
  refine ⟨rfl, noB, cl ((h31 _ _).mpr ⟨true, _, _, _, rfl, by omega, by rw [ls_len]; omega, noB, ?_⟩)⟩
  have e : (ls n fun k => D.int (if (k : Int) = (i : Int) then 1 else 0)).set (i : Int).toNat (.int (z (i : Int).toNat)) = ls n fun k => .int (boxM z i k) := by
    rw [Int.toNat_natCast, ls_set]
    refine ls_congr fun j hj => ?_
    unfold boxM
    by_cases h : j = i
    · rw [if_pos h, if_pos h]
    · rw [if_neg h, if_neg h, if_neg (by omega)]
  show k (some (D.tup ((ls n fun k => D.int (if (k : Int) = (i : Int) then 1 else 0)).set (i : Int).toNat (.int (z (i : Int).toNat))))) _
  rw [e]
  exact hk
def sp_entry : DSp := fun bs K => ∃ (n : Nat) (M : Nat → Nat → Int) (i j : Nat) (d : D) (vi vj : Int), bs = [.val (sqD n M), .val (.int vi), .val (.int vj), .val d] ∧ vi = (i : Nat) ∧ vj = (j : Nat) ∧ i < n ∧ j < n ∧ K (.ok (.val (genD n (entM M i j d)))) []
theorem vc_entry (h31 : Has G 31 sp_with) : ∀ bs K0, bs.length = 4 → sp_entry bs K0 → ownPos 0 bs = [] ∧ rdDef ⟨G, [], none, sub⟩ ir_law_entry 4 bs K0 := by
  rintro bs K hl ⟨n, M, i, j, d, vi, vj, rfl, rfl, rfl, hi, hj, hK⟩
  have e1 := ls_at (n := n) (f := fun i => D.tup (ls n fun j => .int (M i j))) (j := (i : Int)) (by omega) (by omega)
  rw [Int.toNat_natCast] at e1
  rw [gen_ent] at hK
  exact ⟨rfl, rfl, _, e1, rfl, noB, cl ((h31 _ _).mpr ⟨true, ls n fun j => .int (M i j), (j : Int), d, rfl, by omega, by rw [ls_len]; omega, noB, rfl, noB, cl ((h31 _ _).mpr ⟨true, ls n fun i => .tup (ls n fun j => .int (M i j)), (i : Int), _, rfl, by omega, by rw [ls_len]; omega, noB, hK⟩)⟩)⟩
end
theorem gen_no {n a b : Nat} {M : Nat → Nat → Int} {d : D} (ha : a < n) (hb : b < n) (hd : isNum d = false) : squareB (genD n (entM M a b d)) = false := by
  rw [gen_ent]
  have h1 : rowB n (.tup ((ls n fun j => D.int (M a j)).set b d)) = false := by
    show (_ && ((ls n fun j => D.int (M a j)).set b d).all isNum) = false
    rw [all_set (ls_get hb) hd, Bool.and_false]
  show (_ && ((ls n fun i => D.tup (ls n fun j => .int (M i j))).set a (.tup ((ls n fun j => D.int (M a j)).set b d))).all (rowB _)) = false
  rw [all_set (ls_get ha), Bool.and_false]
  rw [List.length_set, ls_len]
  exact h1
/-- not as many entries in a row as there are rows -/
theorem rows_no {m : Nat} {f : Nat → D} (h : 0 < m) (hf : rowB m (f 0) = false) : squareB (.tup (ls m f)) = false := by
  show (_ && (ls m f).all (rowB (ls m f).length)) = false
  rw [ls_len]
  have : (ls m f).all (rowB m) = false := by
    cases e : (ls m f).all (rowB m) with
    | false => rfl
    | true =>
      have := List.all_eq_true.mp e _ (ls_mem.mpr ⟨0, h, rfl⟩)
      rw [hf] at this
      cases this
  rw [this, Bool.and_false]
theorem row_no {m : Nat} {es : List D} (h : es.length ≠ m) : rowB m (.tup es) = false := by
  show (decide (es.length = m) && _) = false
  rw [decide_eq_false h, Bool.false_and]
theorem lg1 {m : Int} (h0 : -(10 ^ 60) - 10 ≤ m) (h : m ≤ 10 ^ 60 + 10) : lg m ≤ 8000 := Nat.le_trans (lg_lt (k := 256) (by
  have : m.natAbs < 10 ^ 61 := by omega
  exact Nat.lt_of_lt_of_le this (by decide +kernel))) (by omega)
end K78
end
section
set_option Elab.async false
set_option maxRecDepth 100000
set_option linter.all false
/-! K78G3: bad screens. -/
namespace K78
open PySem DV
def BadS (x : D) : Prop := ¬ IsScr x ∧ Al x
theorem scr_diag {n a : Nat} {N : Nat → Nat → Int} (h : IsScr (sqD n N)) (ha : a < n) : 1 ≤ N a a ∧ N a a ≤ 10 ^ 60 := by
  obtain ⟨_, _, h3, h4⟩ := isScr_sq.mp h
  have := prodN_part (z := fun i => N i i) (fun i hi => h3.pos i hi) ha
  unfold detN at h4
  exact ⟨h3.pos a ha, by omega⟩
theorem hnf_bound {n : Nat} {M : Nat → Nat → Int} (h : Hnf n M) (hd : detN n M ≤ 10 ^ 60) (i j : Nat) (hi : i < n) (hj : j < n) : 0 ≤ M i j ∧ M i j ≤ 10 ^ 60 := by
  have dg : ∀ k, k < n → 1 ≤ M k k ∧ M k k ≤ 10 ^ 60 := fun k hk => by
    have := prodN_part (z := fun i => M i i) (fun i hi => h.pos i hi) hk
    unfold detN at hd
    exact ⟨h.pos k hk, by omega⟩
  rcases Nat.lt_trichotomy j i with q | q | q
  · rw [h.low i j hi q]; omega
  · subst q; have := dg j hj; omega
  · have := h.up i j q hj; have := dg j hj; omega
theorem al_sqD {n : Nat} {M : Nat → Nat → Int} (h : n ≤ 1000) (hx : ∀ i j, i < n → j < n → lg (M i j) ≤ 8000) : Al (sqD n M) := al_gen (E := fun i j => .int (M i j)) h fun i j hi hj => al_int (hx i j hi hj)
theorem bad_of {x : D} (h : squareB x = false) (a : Al x) : BadS x := ⟨no_scr h, a⟩
theorem unit_hnf (n : Nat) : Hnf n unitM := by
  refine ⟨fun i hi => ?_, fun i j hi hj => ?_, fun i j hi hj => ?_⟩
  · unfold unitM; rw [if_pos rfl]; omega
  · unfold unitM; rw [if_neg (by omega)]
  · unfold unitM; rw [if_neg (by omega), if_pos rfl]; omega
theorem al_unit {n : Nat} (h : n ≤ 1000) : Al (sqD n unitM) := al_sqD h fun i j _ _ => by
  unfold unitM
  split
  · exact lg1 (by omega) (by omega)
  · exact lg1 (by omega) (by omega)
section
variable {n : Nat} {M : Nat → Nat → Int}
theorem bad_ent_no {a b : Nat} {d : D} (h : n ≤ 1000) (hM : ∀ i j, i < n → j < n → lg (M i j) ≤ 8000) (ha : a < n) (hb : b < n) (hd : isNum d = false) (al : Al d) : BadS (genD n (entM M a b d)) := bad_of (gen_no ha hb hd) (al_gen h fun i j hi hj => by
  unfold entM
  split
  · exact al
  · exact al_int (hM i j hi hj))
theorem bad_ent_int {a b : Nat} {v : Int} (h : n ≤ 1000) (hM : ∀ i j, i < n → j < n → lg (M i j) ≤ 8000) (hv : lg v ≤ 8000) (no : ¬ IsScr (sqD n (setM M a b v))) : BadS (genD n (entM M a b (.int v))) := ⟨by rw [gen_set]; exact no, al_gen h fun i j hi hj => by
  unfold entM
  split
  · exact al_int hv
  · exact al_int (hM i j hi hj)⟩
theorem bad_diag {a : Nat} {v : Int} (h : n ≤ 1000) (hM : ∀ i j, i < n → j < n → lg (M i j) ≤ 8000) (ha : a < n) (h0 : -(10 ^ 60) - 10 ≤ v) (h1 : v ≤ 10 ^ 60 + 10) (hv : v < 1 ∨ 10 ^ 60 < v) : BadS (genD n (entM M a a (.int v))) := bad_ent_int h hM (lg1 h0 h1) fun q => by
  have := scr_diag q ha
  unfold setM at this
  rw [if_pos ⟨rfl, rfl⟩] at this
  omega
theorem bad_low {a b : Nat} {v : Int} (h : n ≤ 1000) (hM : ∀ i j, i < n → j < n → lg (M i j) ≤ 8000) (ha : a < n) (hb : b < a) (h0 : -(10 ^ 60) - 10 ≤ v) (h1 : v ≤ 10 ^ 60 + 10) (hv : v ≠ 0) : BadS (genD n (entM M a b (.int v))) := bad_ent_int h hM (lg1 h0 h1) fun q => by
  have := (isScr_sq.mp q).2.2.1.low a b ha hb
  unfold setM at this
  rw [if_pos ⟨rfl, rfl⟩] at this
  omega
theorem bad_up {a b : Nat} {v : Int} (h : n ≤ 1000) (hM : ∀ i j, i < n → j < n → lg (M i j) ≤ 8000) (hab : a < b) (hb : b < n) (h0 : -(10 ^ 60) - 10 ≤ v) (h1 : v ≤ 10 ^ 60 + 10) (hv : v < 0 ∨ M b b ≤ v) : BadS (genD n (entM M a b (.int v))) := bad_ent_int h hM (lg1 h0 h1) fun q => by
  have := (isScr_sq.mp q).2.2.1.up a b hab hb
  unfold setM at this
  rw [if_pos ⟨rfl, rfl⟩, if_neg (by omega)] at this
  omega
end
section
variable {G : Nat → DSp} {sub : Nat → Nat → Option Bool}
theorem mem_more {P : D → Prop} {xs : List D} {x : D} (h : ∀ y ∈ xs, P y) (hx : P x) : ∀ y ∈ xs ++ [x], P y := fun y hy => by
  rcases List.mem_append.mp hy with q | q
  · exact h y q
  · rw [List.mem_singleton.mp q]; exact hx
def sp_bscr : DSp := fun bs K => ∃ (s : Sto) (c : Int) (n : Nat) (M : Nat → Nat → Int), bs = [.own s.l, .val (sqD n M)] ∧ s.Wf c ∧ c < 10 ^ 13 ∧ 1 ≤ n ∧ n ≤ 18 ∧ Hnf n M ∧ detN n M ≤ 10 ^ 60 ∧
  ∀ (xs : List D) (s' : Sto), s'.Wf (c + 100) → xs.length ≤ 100 → (∀ x ∈ xs, BadS x) → K (.ok (.own xs)) [s'.l]
theorem vc_bscr (h3 : Has G 3 sp_take) (h30 : Has G 30 sp_unit) (h31 : Has G 31 sp_with) (h34 : Has G 34 sp_bent) (h35 : Has G 35 sp_entry) : ∀ bs K0, bs.length = 2 → sp_bscr bs K0 → ownPos 0 bs = [0] ∧ rdDef ⟨G, [0], none, sub⟩ ir_law_bad_screens 10 bs K0 := by
  rintro bs K hl ⟨s, c, n, M, rfl, hw, hc, hn1, hn, hM, hd, hK⟩
  have hb := hnf_bound hM hd
  have hlg : ∀ i j, i < n → j < n → lg (M i j) ≤ 8000 := fun i j hi hj => by
    have := hb i j hi hj
    exact lg1 (by omega) (by omega)
  have n1000 : n ≤ 1000 := by omega
  have alM : Al (sqD n M) := al_sqD n1000 hlg
  let rows := ls n fun i => D.tup (ls n fun j => .int (M i j))
  have alR : ∀ i, i < n → Al (.tup (ls n fun j => D.int (M i j))) := fun i hi => al_ls (b := true) n1000 fun j hj => al_int (hlg i j hi hj)
  have row : ∀ {j : Int}, 0 ≤ j → j < n → L2.atI (ls n fun i => D.tup (ls n fun j => .int (M i j))) j = some (.tup (ls n fun k => .int (M j.toNat k))) := fun {j} h0 h1 => ls_at (f := fun i => D.tup (ls n fun j => .int (M i j))) h0 h1
  have ent : ∀ {r : Nat} {j : Int}, 0 ≤ j → j < n → L2.atI (ls n fun k => D.int (M r k)) j = some (.int (M r j.toNat)) := fun {r j} h0 h1 => ls_at (f := fun k => D.int (M r k)) h0 h1
  refine ⟨rfl, rfl, ?_⟩
  rw [ls_len]
  refine ⟨rfl, rfl, noB, cl ((h3 _ _).mpr ⟨s, c, _, rfl, hw, by omega, lg1 (by omega) (by omega), fun v s1 w1 v0 _ v1 => ⟨noB, rfl, ?_⟩⟩)⟩
  have v1 := v1 (by omega)
  obtain ⟨a, rfl⟩ : ∃ a : Nat, v = a := ⟨v.toNat, by omega⟩
  have ha : a < n := by omega
  have e1 := row (j := (a : Int)) (by omega) (by omega)
  have e2 := ent (r := a) (j := (a : Int)) (by omega) (by omega)
  rw [Int.toNat_natCast] at e1 e2
  have e3 := row (j := (n : Int) - 1) (by omega) (by omega)
  have eLast : ((n : Int) - 1).toNat = n - 1 := by omega
  rw [eLast] at e3
  refine ⟨rfl, _, e1, _, e2, rfl, ?_, rfl, _, e3, ?_, ?_, rfl, ?_⟩
  · rw [ls_len]; exact cut_not (k := n - 1) (by omega) (by omega)
  · intro h
    have := congrArg List.length h
    rw [ls_len] at this
    have : n = 0 := this
    omega
  · rw [ls_len]; show n + 1 ≤ 16777216; omega
  -- the first ones
  have bad0 : ∀ x ∈ [D.non, .bl true, .int 1, .str "rows 1", .lst [], .tup [], .lst rows, .tup (cutL rows none (some ((n : Int) - 1))), .tup (rows ++ [.tup (ls n fun k => .int (M (n - 1) k))])], BadS x := by
    intro x hx
    simp only [List.mem_cons, List.not_mem_nil, or_false] at hx
    rcases hx with rfl | rfl | rfl | rfl | rfl | rfl | rfl | rfl | rfl
    · exact bad_of rfl al_non
    · exact bad_of rfl al_bl
    · exact bad_of rfl (al_int (lg1 (by omega) (by omega)))
    · exact bad_of rfl al_str
    · exact bad_of rfl (al_nil (b := false))
    · exact bad_of rfl (al_nil (b := true))
    · exact bad_of rfl (al_ls (b := false) n1000 alR)
    · rw [show cutL rows none (some ((n : Int) - 1)) = ls (n - 1) _ from cut_to (by omega) (by omega)]
      refine bad_of ?_ (al_ls (b := true) (by omega) fun i hi => alR i (by omega))
      by_cases h : n - 1 = 0
      · rw [h]; rfl
      · exact rows_no (by omega) (row_no (by rw [ls_len]; omega))
    · rw [show rows ++ [D.tup (ls n fun k => .int (M (n - 1) k))] = _ from ls_more]
      refine bad_of (rows_no (by omega) ?_) (al_ls (b := true) (by omega) fun i hi => ?_)
      · rw [if_neg (by omega)]
        exact row_no (by rw [ls_len]; omega)
      · by_cases h : i = n
        · rw [if_pos h]; exact alR _ (by omega)
        · rw [if_neg h]; exact alR i (by omega)
  have ten : (10 : Int) ^ Int.toNat 60 = 10 ^ 60 := by decide +kernel
  have ba := hb a a ha ha
  -- the odd ones
  refine ⟨⟨by decide, by decide +kernel⟩, ?_⟩
  refine for_by (fun rest ρ => (∀ v ∈ rest, BadS (genD n (entM M a a v))) ∧ ∃ (acc : List D) (z6 : Option B), rest.length + acc.length = 16 ∧ (∀ x ∈ acc, BadS x) ∧ ρ = [some (.own s1.l), some (.val (sqD n M)), some (.val (.int n)), some (.val (.int a)), some (.val (.int (M a a))), some (.own acc), z6, none, none, none]) ?_ ?_ _ _ ⟨?_, _, none, rfl, bad0, rfl⟩
  rotate_left
  · rintro x xs ρ ⟨hr, acc, z6, hl, hacc, rfl⟩ k hk
    have hlen : (x :: xs).length = xs.length + 1 := rfl
    refine ⟨rfl, rfl, rfl, noB, cl ((h35 _ _).mpr ⟨n, M, a, a, x, _, _, rfl, rfl, rfl, ha, ha, noB, by show acc.length < 16777216; omega, hk _ ⟨fun v hv => hr v (List.mem_cons_of_mem _ hv), _, _, by rw [List.length_append]; show xs.length + (acc.length + 1) = 16; omega, mem_more hacc (hr x (List.mem_cons_self ..)), rfl⟩⟩)⟩
  · intro v hv
    simp only [List.mem_cons, List.not_mem_nil, or_false] at hv
    rcases hv with rfl | rfl | rfl | rfl | rfl | rfl | rfl
    · exact bad_diag n1000 hlg ha (by omega) (by omega) (by omega)
    · exact bad_diag n1000 hlg ha (by omega) (by omega) (by omega)
    · rw [ten]; exact bad_diag n1000 hlg ha (by omega) (by omega) (by omega)
    · exact bad_ent_no n1000 hlg ha ha rfl al_bl
    · exact bad_ent_no n1000 hlg ha ha rfl al_non
    · exact bad_ent_no n1000 hlg ha ha rfl al_str
    · exact bad_ent_no n1000 hlg ha ha rfl (al_one (b := true) (al_int (hlg a a ha ha)))
  rintro ρ ⟨_, acc, z6, hl, hacc, rfl⟩
  -- two places
  refine seq_cut (fun ρ => ∃ (s' : Sto) (acc : List D) (z7 z8 : Option B), s'.Wf (c + 10) ∧ acc.length ≤ 20 ∧ (∀ x ∈ acc, BadS x) ∧ ρ = [some (.own s'.l), some (.val (sqD n M)), some (.val (.int n)), some (.val (.int a)), some (.val (.int (M a a))), some (.own acc), z6, z7, z8, none]) ?_ fun k hk => br_d (fun hgt => ?_) fun _ => hk _ ⟨s1, acc, none, none, w1.up (by omega), by have : ([] : List D).length = 0 := rfl; omega, hacc, rfl⟩
  rotate_left
  · refine ⟨rfl, rfl, noB, cl ((h3 _ _).mpr ⟨s1, _, _, rfl, w1, by omega, lg1 (by omega) (by omega), fun v s2 w2 v0 _ v1 => ⟨noB, rfl, rfl, rfl, noB, cl ((h3 _ _).mpr ⟨s2, _, _, rfl, w2, by omega, lg1 (by have := v1 (by omega); omega) (by have := v1 (by omega); omega), fun u s3 w3 u0 _ u1 => ⟨noB, rfl, ?_⟩⟩)⟩⟩)⟩
    have v2 := v1 (by omega)
    have u2 := u1 (by omega)
    have hl0 : ([] : List D).length + acc.length = 16 := hl
    have hlen : acc.length = 16 := by have : ([] : List D).length = 0 := rfl; omega
    have e4 := row (j := 1 + v) (by omega) (by omega)
    have e5 := ent (r := (1 + v).toNat) (j := 1 + v) (by omega) (by omega)
    have bt := hb (1 + v).toNat (1 + v).toNat (by omega) (by omega)
    refine ⟨rfl, rfl, noB, cl ((h35 _ _).mpr ⟨n, M, (1 + v).toNat, u.toNat, _, _, _, rfl, by omega, by omega, by omega, by omega, noB, by show acc.length < 16777216; omega, ?_⟩)⟩
    have b1 := mem_more hacc (bad_low (M := M) (a := (1 + v).toNat) (b := u.toNat) (v := 1) n1000 hlg (by omega) (by omega) (by omega) (by omega) (by omega))
    refine ⟨rfl, rfl, noB, cl ((h35 _ _).mpr ⟨n, M, (1 + v).toNat, u.toNat, _, _, _, rfl, by omega, by omega, by omega, by omega, noB, by rw [List.length_append]; show acc.length + 1 < 16777216; omega, ?_⟩)⟩
    have b2 := mem_more b1 (bad_ent_no (M := M) (a := (1 + v).toNat) (b := u.toNat) (d := .bl false) n1000 hlg (by omega) (by omega) rfl al_bl)
    refine ⟨rfl, rfl, _, e4, _, e5, rfl, noB, cl ((h35 _ _).mpr ⟨n, M, u.toNat, (1 + v).toNat, _, _, _, rfl, by omega, by omega, by omega, by omega, noB, by rw [List.length_append, List.length_append]; show acc.length + 1 + 1 < 16777216; omega, ?_⟩)⟩
    have b3 := mem_more b2 (bad_up (M := M) (a := u.toNat) (b := (1 + v).toNat) (v := M (1 + v).toNat (1 + v).toNat) n1000 hlg (by omega) (by omega) (by omega) (by omega) (.inr (Int.le_refl _)))
    refine ⟨rfl, rfl, noB, cl ((h35 _ _).mpr ⟨n, M, u.toNat, (1 + v).toNat, _, _, _, rfl, by omega, by omega, by omega, by omega, noB, by rw [List.length_append, List.length_append, List.length_append]; show acc.length + 1 + 1 + 1 < 16777216; omega, ?_⟩)⟩
    have b4 := mem_more b3 (bad_up (M := M) (a := u.toNat) (b := (1 + v).toNat) (v := -1) n1000 hlg (by omega) (by omega) (by omega) (by omega) (.inl (by omega)))
    exact hk _ ⟨s3, _, _, _, w3.up (by omega), by rw [List.length_append, List.length_append, List.length_append, List.length_append]; show acc.length + 1 + 1 + 1 + 1 ≤ 20; omega, b4, rfl⟩
  rintro ρ ⟨s2, acc, z7, z8, w2, hl2, hacc, rfl⟩
  -- longer rows
  refine ⟨rfl, by rw [ls_len]; show n ≤ 16777216; omega, rfl, lc_ls (fun i => .tup ((ls n fun j => D.int (M i j)) ++ [.int 0])) (fun i hi k hk => ⟨rfl, ?_, by rw [ls_len]; show n + 1 ≤ 16777216; omega, hk⟩) ⟨by show acc.length < 16777216; omega, ?_⟩⟩
  · intro h
    have := congrArg List.length h
    rw [ls_len] at this
    have : n = 0 := this
    omega
  have c1 := mem_more hacc (x := .tup (ls n fun i => .tup ((ls n fun j => D.int (M i j)) ++ [.int 0]))) (bad_of (rows_no (by omega) (row_no (by rw [List.length_append, ls_len]; show n + 1 ≠ n; omega))) (al_ls (b := true) n1000 fun i hi => al_sq (b := true) (by rw [List.length_append, ls_len]; show n + 1 ≤ 16777216; omega) fun x hx => by
    rcases List.mem_append.mp hx with q | q
    · obtain ⟨j, hj, rfl⟩ := ls_mem.mp q
      exact al_int (hlg i j hi hj)
    · rw [List.mem_singleton.mp q]; exact al_int (lg1 (by omega) (by omega))))
  -- shorter rows
  refine ⟨rfl, by rw [ls_len]; show n ≤ 16777216; omega, rfl, lc_ls (fun i => .tup (ls (n - 1) fun j => D.int (M i j))) (fun i hi k hk => ⟨rfl, by rw [ls_len]; exact cut_not (k := n - 1) (by omega) (by omega), ?_⟩) ⟨by rw [List.length_append]; show acc.length + 1 < 16777216; omega, ?_⟩⟩
  · have := cut_to (n := n) (k := n - 1) (f := fun j => D.int (M i j)) (v := (n : Int) - 1) (by omega) (by omega)
    show k (some (D.tup (cutL (ls n fun j => D.int (M i j)) none (some ((n : Int) - 1))))) _
    rw [this]
    exact hk
  have c2 := mem_more c1 (x := .tup (ls n fun i => .tup (ls (n - 1) fun j => D.int (M i j)))) (bad_of (rows_no (by omega) (row_no (by rw [ls_len]; omega))) (al_ls (b := true) n1000 fun i hi => al_ls (b := true) (by omega) fun j hj => al_int (hlg i j hi (by omega))))
  -- a list in it
  refine ⟨rfl, rfl, _, e1, rfl, noB, cl ((h31 _ _).mpr ⟨true, rows, (a : Int), _, rfl, by omega, by show (a : Int) < ((ls n _).length : Nat); rw [ls_len]; omega, noB, by rw [List.length_append, List.length_append]; show acc.length + 1 + 1 < 16777216; omega, ?_⟩)⟩
  have c3 := mem_more c2 (x := .tup (rows.set (a : Int).toNat (.lst (ls n fun j => .int (M a j))))) (bad_of (by
    show (_ && (rows.set (a : Int).toNat (.lst (ls n fun j => .int (M a j)))).all (rowB _)) = false
    rw [all_set (ls_get (by omega)) rfl, Bool.and_false]) (al_set (b := true) alM (al_ls (b := false) n1000 fun j hj => al_int (hlg a j ha hj))))
  -- bent
  refine ⟨rfl, rfl, rfl, noB, cl ((h34 _ _).mpr ⟨s2, _, _, rfl, w2, by omega, alM 8, fun y s3 w3 hy => ⟨noB, by rw [List.length_append, List.length_append, List.length_append]; show acc.length + 1 + 1 + 1 < 16777216; omega, ?_⟩⟩)⟩
  have c4 := mem_more c3 (bad_of (bent_sq hy) (hy.al alM))
  -- the last ones
  refine ⟨rfl, rfl, noB, cl ((h30 _ _).mpr ⟨19, rfl, by omega, noB, by rw [List.length_append, List.length_append, List.length_append, List.length_append]; show acc.length + 1 + 1 + 1 + 1 + 2 ≤ 16777216; omega, hK _ s3 (w3.up (by omega)) ?_ ?_⟩)⟩
  · rw [List.length_append, List.length_append, List.length_append, List.length_append, List.length_append]; show acc.length + 1 + 1 + 1 + 1 + 2 ≤ 100; omega
  · intro x hx
    rcases List.mem_append.mp hx with q | q
    · exact c4 x q
    · simp only [List.mem_cons, List.not_mem_nil, or_false] at q
      rcases q with rfl | rfl
      · exact ⟨fun q => by have := (isScr_sq.mp q).2.1; omega, al_unit (by omega)⟩
      · exact bad_of rfl (al_one (b := false) alM)
end
end K78
end
section
set_option Elab.async false
set_option maxRecDepth 100000
set_option linter.all false
set_option maxHeartbeats 2000000
/-! K78G4: bad catalogs, bad stacks. -/
namespace K78
open PySem DV
def BadT (x : D) : Prop := ¬ IsStk x ∧ Al x
theorem prodN_first {v : Int} : ∀ {n : Nat}, 1 ≤ n → prodN n (fun i => if i = 0 then v else 1) = v
  | 0, h => by omega
  | n + 1, _ => by
    show prodN n (fun i => if i = 0 then v else 1) * (if n = 0 then v else 1) = v
    by_cases h : n = 0
    · subst h
      exact Int.one_mul v
    · rw [if_neg h, prodN_first (n := n) (by omega), Int.mul_one]
theorem det_box {n : Nat} {z : Nat → Int} : detN n (boxM z) = prodN n z := prodN_congr fun i hi => by
  unfold boxM
  rw [if_pos rfl]
theorem stk_two {n : Nat} {A C : Nat → Nat → Int} (h : IsStk (.lst [sqD n A, sqD n C])) : detN n A * detN n C ≤ 10 ^ 60 := by
  obtain ⟨m', n', M', s⟩ := h
  have e := D.lst.inj s.c.e
  have e1 := congrArg List.length e
  rw [ls_len] at e1
  have e1 : 2 = m' := e1
  subst e1
  have e2 := D.tup.inj (Option.some.inj (congrArg (·[0]?) e))
  have e3 := D.tup.inj (Option.some.inj (congrArg (·[1]?) e))
  obtain ⟨q1, q2⟩ := sqD_inj (congrArg D.tup e2)
  obtain ⟨q3, q4⟩ := sqD_inj (congrArg D.tup e3)
  have hp := s.c.p
  have d1 : detN n A = detN n' (M' 0) := by rw [← q1]; exact prodN_congr fun i hi => q2 i i hi hi
  have d2 : detN n C = detN n' (M' 1) := by rw [← q1]; exact prodN_congr fun i hi => q4 i i hi hi
  have e4 : prodN 2 (fun k => detN n' (M' k)) = 1 * detN n' (M' 0) * detN n' (M' 1) := rfl
  rw [e4, Int.one_mul] at hp
  rw [d1, d2]
  exact hp
theorem al_box {n : Nat} {z : Nat → Int} (h : n ≤ 1000) (hz : ∀ i, lg (z i) ≤ 8000) : Al (sqD n (boxM z)) := al_sqD h fun i j hi hj => by
  unfold boxM
  split
  · exact hz i
  · exact lg1 (by omega) (by omega)
theorem al_app {b : Bool} {xs ys : List D} (hl : xs.length + ys.length ≤ 16777216) (h1 : ∀ x ∈ xs, Al x) (h2 : ∀ x ∈ ys, Al x) : Al (sq b (xs ++ ys)) := al_sq (by rw [List.length_append]; exact hl) fun x hx => by
  rcases List.mem_append.mp hx with q | q
  · exact h1 x q
  · exact h2 x q
def zg (v : Int) : Nat → Int := fun i => if i = 0 then v else 1
theorem ten60 : (10 : Int) ^ Int.toNat 60 = 10 ^ 60 := by decide +kernel
section
variable {G : Nat → DSp} {sub : Nat → Nat → Option Bool}
structure Pre (m n : Nat) (M : Nat → Nat → Nat → Int) : Prop where
  m1 : 1 ≤ m
  m6 : m ≤ 6
  n1 : 1 ≤ n
  n3 : n ≤ 3
  h : ∀ k, k < m → Hnf n (M k)
  d : ∀ k, k < m → detN n (M k) ≤ 10 ^ 60
theorem Pre.al {m n : Nat} {M : Nat → Nat → Nat → Int} (p : Pre m n M) {k : Nat} (hk : k < m) : Al (sqD n (M k)) := al_sqD (by have := p.n3; omega) fun i j hi hj => by
  have := hnf_bound (p.h k hk) (p.d k hk) i j hi hj
  exact lg1 (by omega) (by omega)
def sp_bcat : DSp := fun bs K => ∃ (s : Sto) (c : Int) (m n : Nat) (M : Nat → Nat → Nat → Int), bs = [.own s.l, .val (.lst (ls m fun k => sqD n (M k)))] ∧ s.Wf c ∧ c < 10 ^ 12 ∧ Pre m n M ∧
  ∀ (xs : List D) (s' : Sto), s'.Wf (c + 200) → xs.length ≤ 150 → (∀ x ∈ xs, BadT x) → K (.ok (.val (.lst xs))) [s'.l]
theorem vc_bcat (h3 : Has G 3 sp_take) (h30 : Has G 30 sp_unit) (h31 : Has G 31 sp_with) (h32 : Has G 32 sp_box) (h34 : Has G 34 sp_bent) (h36 : Has G 36 sp_bscr) : ∀ bs K0, bs.length = 2 → sp_bcat bs K0 → ownPos 0 bs = [0] ∧ rdDef ⟨G, [0], none, sub⟩ ir_law_bad_catalogs 10 bs K0 := by
  rintro bs K hl ⟨s, c, m, n, M, rfl, hw, hc, hp, hK⟩
  obtain ⟨m1, m6, n1, n3, hh, hd⟩ := id hp
  have alK : ∀ k, k < m → Al (sqD n (M k)) := fun k hk => hp.al hk
  have alS : Al (.lst (ls m fun k => sqD n (M k))) := al_ls (b := false) (by omega) alK
  have e0 := ls_at (n := m) (f := fun k => sqD n (M k)) (j := 0) (by omega) (by omega)
  refine ⟨rfl, rfl, _, e0, rfl, ?_⟩
  rw [ls_len]
  refine ⟨rfl, rfl, noB, cl ((h3 _ _).mpr ⟨s, c, _, rfl, hw, by omega, ?_, fun v s1 w1 v0 _ v1 => ⟨noB, rfl, ?_⟩⟩)⟩
  · rw [ls_len]; exact lg1 (by omega) (by omega)
  rw [ls_len] at v1
  have v1 := v1 (by omega)
  obtain ⟨a, rfl⟩ : ∃ a : Nat, v = a := ⟨v.toNat, by omega⟩
  have ha : a < m := by omega
  refine br_d (fun _ => ?_) (fun h => absurd h (by omega))
  refine ⟨rfl, noB, cl ((h30 _ _).mpr ⟨n + 1, rfl, by omega, noB, rfl, ?_⟩)⟩
  -- great
  refine ⟨⟨by omega, by omega⟩, by rw [rngL_size, Int.toNat_natCast]; show n ≤ 16777216; omega, rfl, lc_rg (fun i => .int (zg (10 ^ 60) i)) (fun i hi k hk => ?_) ?_⟩
  · refine ⟨rfl, br_d (fun h => ⟨⟨by decide, by decide +kernel⟩, ?_⟩) (fun h => ?_)⟩
    · have hk : k (some (.int (if i = 0 then 10 ^ 60 else 1))) _ := hk
      rw [if_pos (by omega), ← ten60] at hk
      exact hk
    · have hk : k (some (.int (if i = 0 then 10 ^ 60 else 1))) _ := hk
      rw [if_neg (by omega)] at hk
      exact hk
  rw [Int.toNat_natCast]
  refine ⟨rfl, noB, cl ((h32 _ _).mpr ⟨n, zg (10 ^ 60), rfl, by omega, noB, rfl, ?_⟩)⟩
  refine ⟨⟨by omega, by omega⟩, by rw [rngL_size, Int.toNat_natCast]; show n ≤ 16777216; omega, rfl, lc_rg (fun i => .int (zg 2 i)) (fun i hi k hk => ?_) ?_⟩
  · refine ⟨rfl, br_d (fun h => ?_) (fun h => ?_)⟩
    · have hk : k (some (.int (if i = 0 then 2 else 1))) _ := hk
      rw [if_pos (by omega)] at hk
      exact hk
    · have hk : k (some (.int (if i = 0 then 2 else 1))) _ := hk
      rw [if_neg (by omega)] at hk
      exact hk
  rw [Int.toNat_natCast]
  refine ⟨rfl, noB, cl ((h32 _ _).mpr ⟨n, zg 2, rfl, by omega, noB, rfl, ?_⟩)⟩
  have ea := ls_at (n := m) (f := fun k => sqD n (M k)) (j := (a : Int)) (by omega) (by omega)
  rw [Int.toNat_natCast] at ea
  refine ⟨rfl, _, ea, ⟨by decide, by decide⟩, by rw [rngL_size]; decide, rfl, lc_rg (fun _ => sqD n unitM) (fun i hi k hk => ⟨rfl, rfl, noB, cl ((h30 _ _).mpr ⟨n, rfl, by omega, noB, hk⟩)⟩) ?_⟩
  have alU : Al (sqD n unitM) := al_unit (by omega)
  have alG : ∀ v : Int, lg v ≤ 8000 → Al (sqD n (boxM (zg v))) := fun v hv => al_box (by omega) fun i => by
    unfold zg
    split
    · exact hv
    · exact lg1 (by omega) (by omega)
  have lst1 : ∀ x : D, Al x → Al (.lst [x]) := fun x h => al_one (b := false) h
  have bad0 : ∀ x ∈ [D.non, .bl true, .int 0, .str "", .lst [], .tup [], .tup (ls m fun k => sqD n (M k)), sqD n (M a), .lst [.lst (ls m fun k => sqD n (M k))], .lst (ls (Int.toNat 9) fun _ => sqD n unitM)], BadT x := by
    intro x hx
    simp only [List.mem_cons, List.not_mem_nil, or_false] at hx
    rcases hx with rfl | rfl | rfl | rfl | rfl | rfl | rfl | rfl | rfl | rfl
    · exact ⟨no_stk_sq fun xs h => (by cases h), al_non⟩
    · exact ⟨no_stk_sq fun xs h => (by cases h), al_bl⟩
    · exact ⟨no_stk_sq fun xs h => (by cases h), al_int (lg1 (by omega) (by omega))⟩
    · exact ⟨no_stk_sq fun xs h => (by cases h), al_str⟩
    · exact ⟨fun q => (by obtain ⟨xs, e, h1, _⟩ := stk_lst q; cases e; exact absurd h1 (by decide)), al_nil (b := false)⟩
    · exact ⟨no_stk_sq fun xs h => (by cases h), al_nil (b := true)⟩
    · exact ⟨no_stk_sq fun xs h => (by cases h), al_ls (b := true) (by omega) alK⟩
    · exact ⟨no_stk_sq fun xs h => (by cases h), alK a ha⟩
    · exact ⟨no_stk_mem (List.mem_singleton.mpr rfl) (no_scr rfl), lst1 _ alS⟩
    · exact ⟨fun q => (by obtain ⟨xs, e, h1, h2, _⟩ := stk_lst q; cases e; rw [ls_len] at h2; exact absurd h2 (by decide)), al_ls (b := false) (by decide) fun i hi => alU⟩
  refine ⟨rfl, rfl, by show 10 < 16777216; omega, ?_⟩
  have b1 := mem_more bad0 (x := .lst [sqD n (boxM (zg (10 ^ 60))), sqD n (boxM (zg 2))]) ⟨fun q => by
    have := stk_two q
    rw [det_box, det_box] at this
    have g1 : prodN n (zg (10 ^ 60)) = 10 ^ 60 := prodN_first n1
    have g2 : prodN n (zg 2) = 2 := prodN_first n1
    rw [g1, g2] at this
    omega, al_sq (b := false) (by show 2 ≤ 16777216; omega) fun x hx => by
      simp only [List.mem_cons, List.not_mem_nil, or_false] at hx
      rcases hx with rfl | rfl
      · exact alG _ (lg1 (by omega) (by omega))
      · exact alG _ (lg1 (by omega) (by omega))⟩
  have q1 := cut_to (n := m) (k := a) (f := fun k => sqD n (M k)) (v := (a : Int)) rfl (by omega)
  have q2 := cut_from (n := m) (k := a) (f := fun k => sqD n (M k)) (v := (a : Int)) rfl (by omega)
  refine ⟨rfl, by rw [q1, ls_len]; show a + 1 ≤ 16777216; omega, by rw [q1, q2, List.length_append, ls_len, ls_len]; show a + 1 + (m - a) ≤ 16777216; omega, by show 11 < 16777216; omega, ?_⟩
  have b2 := mem_more b1 (x := .lst (cutL (ls m fun k => sqD n (M k)) none (some (a : Int)) ++ [sqD (n + 1) unitM] ++ cutL (ls m fun k => sqD n (M k)) (some (a : Int)) none)) (by
    rw [q1, q2]
    refine ⟨fun q => ?_, al_app (b := false) (by rw [List.length_append, ls_len, ls_len]; show a + 1 + (m - a) ≤ 16777216; omega) (fun x hx => ?_) fun x hx => ?_⟩
    · obtain ⟨xs, e, _, _, _, h5⟩ := stk_lst q
      cases e
      have i1 : sqD (n + 1) unitM ∈ (ls a fun k => sqD n (M k)) ++ [sqD (n + 1) unitM] ++ ls (m - a) fun i => sqD n (M (a + i)) := List.mem_append_left _ (List.mem_append_right _ (List.mem_singleton.mpr rfl))
      have i2 : sqD n (M 0) ∈ (ls a fun k => sqD n (M k)) ++ [sqD (n + 1) unitM] ++ ls (m - a) fun i => sqD n (M (a + i)) := by
        by_cases h : a = 0
        · subst h
          exact List.mem_append_right _ (ls_mem.mpr ⟨0, by omega, rfl⟩)
        · exact List.mem_append_left _ (List.mem_append_left _ (ls_mem.mpr ⟨0, by omega, rfl⟩))
      have := (h5 _ _ _ _ i1 i2).1
      omega
    · rcases List.mem_append.mp hx with q | q
      · obtain ⟨k, hk, rfl⟩ := ls_mem.mp q
        exact alK k (by omega)
      · rw [List.mem_singleton.mp q]; exact al_unit (by omega)
    · obtain ⟨k, hk, rfl⟩ := ls_mem.mp hx
      exact alK _ (by omega))
  refine ⟨rfl, rfl, rfl, noB, cl ((h34 _ _).mpr ⟨s1, _, _, rfl, w1, by omega, alS 8, fun y s2 w2 hy => ⟨noB, by show 12 < 16777216; omega, ?_⟩⟩)⟩
  have b3 := mem_more b2 (⟨bent_stk hy, hy.al alS⟩ : BadT y)
  refine ⟨rfl, rfl, _, ea, rfl, noB, cl ((h36 _ _).mpr ⟨s2, _, n, M a, rfl, w2, by omega, n1, by omega, hh a ha, hd a ha, fun xs s3 w3 hxl hxs => ⟨noB, ?_⟩⟩)⟩
  refine for_by (fun rest ρ => (∀ v ∈ rest, BadS v) ∧ ∃ (acc : List D) (z6 z9 : Option B), rest.length + acc.length ≤ 120 ∧ (∀ x ∈ acc, BadT x) ∧ ρ = [some (.own s3.l), some (.val (.lst (ls m fun k => sqD n (M k)))), some (.val (.int n)), some (.val (.int a)), some (.val (sqD (n + 1) unitM)), some (.val (sqD n (boxM (zg (10 ^ 60))))), z6, some (.val (sqD n (boxM (zg 2)))), some (.own acc), z9]) ?_ ?_ _ _ ⟨hxs, _, _, none, ?_, b3, rfl⟩
  · rintro ρ ⟨_, acc, z6, z9, hl, hacc, rfl⟩
    exact ⟨rfl, hK acc s3 (w3.up (by omega)) (by omega) hacc⟩
  · rintro x xs ρ ⟨hr, acc, z6, z9, hl, hacc, rfl⟩ k hk
    have hlen : (x :: xs).length = xs.length + 1 := rfl
    refine ⟨rfl, rfl, rfl, noB, cl ((h31 _ _).mpr ⟨false, _, (a : Int), x, rfl, by omega, by rw [ls_len]; omega, noB, by show acc.length < 16777216; omega, hk _ ⟨fun v hv => hr v (List.mem_cons_of_mem _ hv), _, _, _, by rw [List.length_append]; show xs.length + (acc.length + 1) ≤ 120; omega, mem_more hacc ?_, rfl⟩⟩)⟩
    obtain ⟨g1, g2⟩ := hr x (List.mem_cons_self ..)
    exact ⟨no_stk_mem (List.mem_of_getElem? (List.getElem?_set_self (by rw [ls_len]; omega))) g1, al_set (b := false) alS g2⟩
  · show xs.length + 13 ≤ 120
    omega
def sp_bstk : DSp := fun bs K => ∃ (s : Sto) (c : Int) (m n : Nat) (M : Nat → Nat → Nat → Int), bs = [.own s.l, .val (.lst (ls m fun k => sqD n (M k)))] ∧ s.Wf c ∧ c < 10 ^ 12 ∧ Pre m n M ∧
  ∀ (xs : List D) (s' : Sto), s'.Wf (c + 200) → xs.length ≤ 160 → (∀ x ∈ xs, BadT x) → K (.ok (.own xs)) [s'.l]
theorem vc_bstk (h30 : Has G 30 sp_unit) (h37 : Has G 37 sp_bcat) : ∀ bs K0, bs.length = 2 → sp_bstk bs K0 → ownPos 0 bs = [0] ∧ rdDef ⟨G, [0], none, sub⟩ ir_law_bad_stacks 4 bs K0 := by
  rintro bs K hl ⟨s, c, m, n, M, rfl, hw, hc, hp, hK⟩
  obtain ⟨m1, m6, n1, n3, hh, hd⟩ := id hp
  have e0 := ls_at (n := m) (f := fun k => sqD n (M k)) (j := 0) (by omega) (by omega)
  refine ⟨rfl, rfl, _, e0, rfl, ?_⟩
  rw [ls_len]
  refine ⟨rfl, rfl, noB, cl ((h37 _ _).mpr ⟨s, c, m, n, M, rfl, hw, hc, hp, fun xs s1 w1 hxl hxs => ⟨noB, ?_⟩⟩)⟩
  refine ⟨⟨by decide, by decide⟩, by rw [rngL_size]; decide, rfl, lc_rg (fun _ => sqD n unitM) (fun i hi k hk => ⟨rfl, rfl, noB, cl ((h30 _ _).mpr ⟨n, rfl, by omega, noB, hk⟩)⟩) ?_⟩
  refine ⟨rfl, noB, cl ((h30 _ _).mpr ⟨4, rfl, by omega, noB, by show xs.length + 2 ≤ 16777216; omega, hK _ s1 w1 (by rw [List.length_append]; show xs.length + 2 ≤ 160; omega) ?_⟩)⟩
  intro x hx
  rcases List.mem_append.mp hx with q | q
  · exact hxs x q
  · simp only [List.mem_cons, List.not_mem_nil, or_false] at q
    rcases q with rfl | rfl
    · exact ⟨fun q => (by obtain ⟨xs, e, h1, h2, _⟩ := stk_lst q; cases e; rw [ls_len] at h2; exact absurd h2 (by decide)), al_ls (b := false) (by decide) fun i hi => al_unit (by omega)⟩
    · exact ⟨fun q => (by obtain ⟨xs, e, _, _, _, h5⟩ := stk_lst q; cases e; have := (h5 _ _ _ _ (List.mem_singleton.mpr rfl) (List.mem_singleton.mpr rfl)).2; omega), al_one (b := false) (al_unit (by omega))⟩
end
end K78
end
section
set_option Elab.async false
set_option maxRecDepth 100000
set_option linter.all false
set_option maxHeartbeats 2000000
/-! K78G5: bad numbers, colours, tones. -/
namespace K78
open PySem DV
section
variable {G : Nat → DSp} {sub : Nat → Nat → Option Bool}
def noNums : List D := [.non, .bl true, .bl false, .str "", .str "1", .lst [], .tup [], .lst [.int 1], .tup [.int 1]]
def sp_nonum : DSp := fun bs K => bs = [] ∧ K (.ok (.own noNums)) []
theorem vc_nonum : ∀ bs K0, bs.length = 0 → sp_nonum bs K0 → ownPos 0 bs = [] ∧ rdDef ⟨G, [], none, sub⟩ ir_law_no_numbers 0 bs K0 := by
  rintro bs K hl ⟨rfl, hK⟩
  exact ⟨rfl, hK⟩
def sp_bnum : DSp := fun bs K => ∃ lo hi : Int, bs = [.val (.int lo), .val (.int hi)] ∧ ∀ xs : List D, (∀ x ∈ xs, within lo hi x = false) → K (.ok (.own xs)) []
theorem vc_bnum (h39 : Has G 39 sp_nonum) : ∀ bs K0, bs.length = 2 → sp_bnum bs K0 → ownPos 0 bs = [] ∧ rdDef ⟨G, [], none, sub⟩ ir_law_bad_numbers 2 bs K0 := by
  rintro bs K hl ⟨lo, hi, rfl, hK⟩
  refine ⟨rfl, rfl, noB, cl ((h39 _ _).mpr ⟨rfl, noB, by show 11 ≤ 16777216; omega, hK _ fun x hx => ?_⟩)⟩
  have a1 : within lo hi (.int (lo - 1)) = false := by
    show (decide (lo ≤ lo - 1) && _) = false
    rw [decide_eq_false (by omega), Bool.false_and]
  have a2 : within lo hi (.int (hi + 1)) = false := by
    show (decide (lo ≤ hi + 1) && decide (hi + 1 ≤ hi)) = false
    rw [decide_eq_false (p := hi + 1 ≤ hi) (by omega), Bool.and_false]
  rcases List.mem_append.mp hx with q | q
  · simp only [noNums, List.mem_cons, List.not_mem_nil, or_false] at q
    rcases q with rfl | rfl | rfl | rfl | rfl | rfl | rfl | rfl | rfl <;> rfl
  · simp only [List.mem_cons, List.not_mem_nil, or_false] at q
    rcases q with rfl | rfl
    · exact a1
    · exact a2
def BadC (x : D) : Prop := colB x = false ∧ Al x
theorem col_al {f : Nat → Int} (h : ColOk f) : Al (colD f) := al_ls (b := true) (by omega) fun i hi => al_int (lg1 (by have := h i hi; omega) (by have := h i hi; omega))
theorem col_len {xs : List D} (h : xs.length ≠ 3) : colB (.tup xs) = false := by
  show (decide (xs.length = 3) && _) = false
  rw [decide_eq_false h, Bool.false_and]
def sp_bcol : DSp := fun bs K => ∃ (s : Sto) (c : Int) (f : Nat → Int), bs = [.own s.l, .val (colD f)] ∧ s.Wf c ∧ c < 10 ^ 13 ∧ ColOk f ∧
  ∀ (xs : List D) (s' : Sto), s'.Wf (c + 50) → xs.length ≤ 50 → (∀ x ∈ xs, BadC x) → K (.ok (.val (.lst xs))) [s'.l]
theorem vc_bcol (h3 : Has G 3 sp_take) (h31 : Has G 31 sp_with) (h34 : Has G 34 sp_bent) : ∀ bs K0, bs.length = 2 → sp_bcol bs K0 → ownPos 0 bs = [0] ∧ rdDef ⟨G, [0], none, sub⟩ ir_law_bad_colour 5 bs K0 := by
  rintro bs K hl ⟨s, c, f, rfl, hw, hc, hf, hK⟩
  have alC := col_al hf
  refine ⟨rfl, rfl, rfl, noB, cl ((h3 _ _).mpr ⟨s, c, _, rfl, hw, by omega, by decide +kernel, fun v s1 w1 v0 _ v1 => ⟨noB, rfl, ?_⟩⟩)⟩
  have v1 := v1 (by omega)
  obtain ⟨a, rfl⟩ : ∃ a : Nat, v = a := ⟨v.toNat, by omega⟩
  have ha : a < 3 := by omega
  refine ⟨fun h => (by cases h), by rw [ls_len]; show 4 ≤ 16777216; omega, by rw [ls_len]; exact cut_not (k := 2) rfl (by omega), rfl, rfl, noB, cl ((h34 _ _).mpr ⟨s1, _, _, rfl, w1, by omega, alC 8, fun y s2 w2 hy => ⟨noB, rfl, ?_⟩⟩)⟩
  have bad0 : ∀ x ∈ [D.non, .bl true, .int 0, .str "", .tup [], .lst [], .lst (ls 3 fun i => .int (f i)), .tup ((ls 3 fun i => D.int (f i)) ++ [.int 0]), .tup (cutL (ls 3 fun i => D.int (f i)) none (some 2)), y], BadC x := by
    intro x hx
    simp only [List.mem_cons, List.not_mem_nil, or_false] at hx
    rcases hx with rfl | rfl | rfl | rfl | rfl | rfl | rfl | rfl | rfl | rfl
    · exact ⟨rfl, al_non⟩
    · exact ⟨rfl, al_bl⟩
    · exact ⟨rfl, al_int (lg1 (by omega) (by omega))⟩
    · exact ⟨rfl, al_str⟩
    · exact ⟨rfl, al_nil (b := true)⟩
    · exact ⟨rfl, al_nil (b := false)⟩
    · exact ⟨rfl, al_ls (b := false) (by omega) fun i hi => al_mem (b := true) alC (ls_mem.mpr ⟨i, hi, rfl⟩)⟩
    · refine ⟨col_len (by rw [List.length_append, ls_len]; show 4 ≠ 3; omega), al_app (b := true) (by rw [ls_len]; show 4 ≤ 16777216; omega) (fun x hx => al_mem (b := true) alC hx) fun x hx => ?_⟩
      rw [List.mem_singleton.mp hx]
      exact al_int (lg1 (by omega) (by omega))
    · rw [show cutL (ls 3 fun i => D.int (f i)) none (some 2) = ls 2 _ from cut_to (k := 2) rfl (by omega)]
      exact ⟨col_len (by rw [ls_len]; omega), al_ls (b := true) (by omega) fun i hi => al_mem (b := true) alC (ls_mem.mpr ⟨i, by omega, rfl⟩)⟩
    · exact ⟨bent_col hy, hy.al alC⟩
  refine for_by (fun rest ρ => (∀ v ∈ rest, within 0 1000 v = false ∧ Al v) ∧ ∃ (acc : List D) (z4 : Option B), rest.length + acc.length = 15 ∧ (∀ x ∈ acc, BadC x) ∧ ρ = [some (.own s2.l), some (.val (colD f)), some (.val (.int a)), some (.own acc), z4]) ?_ ?_ _ _ ⟨?_, _, none, rfl, bad0, rfl⟩
  · rintro ρ ⟨_, acc, z4, hl, hacc, rfl⟩
    have hl : 0 + acc.length = 15 := hl
    exact ⟨rfl, hK acc s2 (w2.up (by omega)) (by omega) hacc⟩
  · rintro x xs ρ ⟨hr, acc, z4, hl, hacc, rfl⟩ k hk
    have hlen : (x :: xs).length = xs.length + 1 := rfl
    obtain ⟨g1, g2⟩ := hr x (List.mem_cons_self ..)
    refine ⟨rfl, rfl, rfl, noB, cl ((h31 _ _).mpr ⟨true, _, (a : Int), x, rfl, by omega, by rw [ls_len]; omega, noB, by show acc.length < 16777216; omega, hk _ ⟨fun v hv => hr v (List.mem_cons_of_mem _ hv), _, _, by rw [List.length_append]; show xs.length + (acc.length + 1) = 15; omega, mem_more hacc ⟨?_, al_set (b := true) alC g2⟩, rfl⟩⟩)⟩
    show (_ && ((ls 3 fun i => D.int (f i)).set (a : Int).toNat x).all (within 0 1000)) = false
    rw [all_set (ls_get (by omega)) g1, Bool.and_false]
  · intro v hv
    simp only [List.mem_cons, List.not_mem_nil, or_false] at hv
    rcases hv with rfl | rfl | rfl | rfl | rfl
    · exact ⟨rfl, al_int (lg1 (by omega) (by omega))⟩
    · exact ⟨rfl, al_int (lg1 (by omega) (by omega))⟩
    · exact ⟨rfl, al_non⟩
    · exact ⟨rfl, al_bl⟩
    · exact ⟨rfl, al_str⟩
theorem cols_len {m : Int} {xs : List D} (h : ((xs.length : Nat) : Int) ≠ m) : colsB m (.lst xs) = false := by
  show (decide (((xs.length : Nat) : Int) = m) && _) = false
  rw [decide_eq_false h, Bool.false_and]
def BadCs (n : Int) (x : D) : Prop := colsB n x = false ∧ Al x
def sp_bcols : DSp := fun bs K => ∃ (s : Sto) (c : Int) (n : Nat) (F : Nat → Nat → Int), bs = [.own s.l, .val (.lst (ls n fun k => colD (F k)))] ∧ s.Wf c ∧ c < 10 ^ 12 ∧ 1 ≤ n ∧ n ≤ 64 ∧ (∀ k, k < n → ColOk (F k)) ∧
  ∀ (xs : List D) (s' : Sto), s'.Wf (c + 100) → (∀ x ∈ xs, BadCs n x) → K (.ok (.val (.lst xs))) [s'.l]
theorem vc_bcols (h3 : Has G 3 sp_take) (h31 : Has G 31 sp_with) (h34 : Has G 34 sp_bent) (h41 : Has G 41 sp_bcol) : ∀ bs K0, bs.length = 2 → sp_bcols bs K0 → ownPos 0 bs = [0] ∧ rdDef ⟨G, [0], none, sub⟩ ir_law_bad_colours 5 bs K0 := by
  rintro bs K hl ⟨s, c, n, F, rfl, hw, hc, hn1, hn, hF, hK⟩
  have alC : ∀ k, k < n → Al (colD (F k)) := fun k hk => col_al (hF k hk)
  have alS : Al (.lst (ls n fun k => colD (F k))) := al_ls (b := false) (by omega) alC
  refine ⟨rfl, rfl, rfl, noB, cl ((h3 _ _).mpr ⟨s, c, _, rfl, hw, by omega, by rw [ls_len]; exact lg1 (by omega) (by omega), fun v s1 w1 v0 _ v1 => ⟨noB, rfl, ?_⟩⟩)⟩
  rw [ls_len] at v1
  have v1 := v1 (by omega)
  obtain ⟨a, rfl⟩ : ∃ a : Nat, v = a := ⟨v.toNat, by omega⟩
  have ha : a < n := by omega
  have e0 := ls_at (n := n) (f := fun k => colD (F k)) (j := 0) (by omega) (by omega)
  have ea := ls_at (n := n) (f := fun k => colD (F k)) (j := (a : Int)) (by omega) (by omega)
  rw [Int.toNat_natCast] at ea
  have qq : cutL (ls n fun k => colD (F k)) none (some (((ls n fun k => colD (F k)).length : Nat) - 1 : Int)) = ls (n - 1) fun k => colD (F k) := cut_to (by rw [ls_len]; omega) (by omega)
  refine ⟨rfl, _, e0, by rw [ls_len]; show n + 1 ≤ 16777216; omega, rfl, _, ea, rfl, ?_⟩
  have bad0 : ∀ x ∈ [D.non, .bl true, .int 0, .str "", .lst [], .tup [], .tup (ls n fun k => colD (F k)), .lst ((ls n fun k => colD (F k)) ++ [colD (F 0)]), .lst (cutL (ls n fun k => colD (F k)) none (some (((ls n fun k => colD (F k)).length : Nat) - 1 : Int))), colD (F a)], BadCs n x := by
    intro x hx
    simp only [List.mem_cons, List.not_mem_nil, or_false] at hx
    rcases hx with rfl | rfl | rfl | rfl | rfl | rfl | rfl | rfl | rfl | rfl
    · exact ⟨rfl, al_non⟩
    · exact ⟨rfl, al_bl⟩
    · exact ⟨rfl, al_int (lg1 (by omega) (by omega))⟩
    · exact ⟨rfl, al_str⟩
    · exact ⟨cols_len (by show (0 : Int) ≠ n; omega), al_nil (b := false)⟩
    · exact ⟨rfl, al_nil (b := true)⟩
    · exact ⟨rfl, al_ls (b := true) (by omega) alC⟩
    · refine ⟨cols_len (by rw [List.length_append, ls_len]; show ((n + 1 : Nat) : Int) ≠ n; omega), al_app (b := false) (by rw [ls_len]; show n + 1 ≤ 16777216; omega) (fun x hx => al_mem (b := false) alS hx) fun x hx => ?_⟩
      rw [List.mem_singleton.mp hx]
      exact alC 0 (by omega)
    · rw [qq]
      exact ⟨cols_len (by rw [ls_len]; omega), al_ls (b := false) (by omega) fun i hi => alC i (by omega)⟩
    · exact ⟨rfl, alC a ha⟩
  refine ⟨rfl, rfl, _, ea, rfl, noB, cl ((h41 _ _).mpr ⟨s1, _, F a, rfl, w1, by omega, hF a ha, fun xs s2 w2 hxl hxs => ⟨noB, ?_⟩⟩)⟩
  refine for_by (fun rest ρ => (∀ v ∈ rest, BadC v) ∧ ∃ (acc : List D) (z4 : Option B), rest.length + acc.length ≤ 60 ∧ (∀ x ∈ acc, BadCs n x) ∧ ρ = [some (.own s2.l), some (.val (.lst (ls n fun k => colD (F k)))), some (.val (.int a)), some (.own acc), z4]) ?_ ?_ _ _ ⟨hxs, _, none, ?_, bad0, rfl⟩
  · rintro ρ ⟨_, acc, z4, hl, hacc, rfl⟩
    have hl : 0 + acc.length ≤ 60 := hl
    refine ⟨rfl, rfl, rfl, noB, cl ((h34 _ _).mpr ⟨s2, _, _, rfl, w2, by omega, alS 8, fun y s3 w3 hy => ⟨noB, by show acc.length < 16777216; omega, rfl, hK _ s3 (w3.up (by omega)) (mem_more hacc ⟨bent_cols hy, hy.al alS⟩)⟩⟩)⟩
  · rintro x xs ρ ⟨hr, acc, z4, hl, hacc, rfl⟩ k hk
    have hlen : (x :: xs).length = xs.length + 1 := rfl
    obtain ⟨g1, g2⟩ := hr x (List.mem_cons_self ..)
    refine ⟨rfl, rfl, rfl, noB, cl ((h31 _ _).mpr ⟨false, _, (a : Int), x, rfl, by omega, by rw [ls_len]; omega, noB, by show acc.length < 16777216; omega, hk _ ⟨fun v hv => hr v (List.mem_cons_of_mem _ hv), _, _, by rw [List.length_append]; show xs.length + (acc.length + 1) ≤ 60; omega, mem_more hacc ⟨?_, al_set (b := false) alS g2⟩, rfl⟩⟩)⟩
    show (_ && ((ls n fun k => colD (F k)).set (a : Int).toNat x).all colB) = false
    rw [all_set (ls_get (by omega)) g1, Bool.and_false]
  · show xs.length + 10 ≤ 60
    omega
theorem tones_len {n : Nat} {w : Nat → Int} {xs : List D} (h : xs.length ≠ n) : tonesB n w (.lst xs) = false := by
  show (decide (xs.length = n) && _) = false
  rw [decide_eq_false h, Bool.false_and]
def BadTn (m : Nat) (w : Nat → Int) (x : D) : Prop := tonesB m w x = false ∧ Al x
def sp_btones : DSp := fun bs K => ∃ (s : Sto) (c : Int) (m n : Nat) (M : Nat → Nat → Nat → Int) (t : Nat → Int), bs = [.own s.l, .val (.lst (ls m fun k => sqD n (M k))), .val (.lst (ls m fun k => .int (t k)))] ∧ s.Wf c ∧ c < 10 ^ 12 ∧ Pre m n M ∧ (∀ k, k < m → 0 ≤ t k ∧ t k ≤ detN n (M k)) ∧
  ∀ (xs : List D) (s' : Sto), s'.Wf (c + 100) → xs.length ≤ 100 → (∀ x ∈ xs, BadTn m (fun k => detN n (M k)) x) → K (.ok (.val (.lst xs))) [s'.l]
theorem vc_btones (h3 : Has G 3 sp_take) (h10 : Has G 10 sp_index) (h31 : Has G 31 sp_with) (h34 : Has G 34 sp_bent) : ∀ bs K0, bs.length = 3 → sp_btones bs K0 → ownPos 0 bs = [0] ∧ rdDef ⟨G, [0], none, sub⟩ ir_law_bad_tones 6 bs K0 := by
  rintro bs K hl ⟨s, c, m, n, M, t, rfl, hw, hc, hp, ht, hK⟩
  obtain ⟨m1, m6, n1, n3, hh, hd⟩ := id hp
  have alK : ∀ k, k < m → Al (.int (t k)) := fun k hk => al_int (lg1 (by have := ht k hk; omega) (by have := ht k hk; have := hd k hk; omega))
  have alS : Al (.lst (ls m fun k => .int (t k))) := al_ls (b := false) (by omega) alK
  refine ⟨rfl, rfl, rfl, noB, cl ((h3 _ _).mpr ⟨s, c, _, rfl, hw, by omega, by rw [ls_len]; exact lg1 (by omega) (by omega), fun v s1 w1 v0 _ v1 => ⟨noB, rfl, ?_⟩⟩)⟩
  rw [ls_len] at v1
  have v1 := v1 (by omega)
  obtain ⟨a, rfl⟩ : ∃ a : Nat, v = a := ⟨v.toNat, by omega⟩
  have ha : a < m := by omega
  have q1 := cut_to (n := m) (k := a) (f := fun k => D.int (t k)) (v := (a : Int)) rfl (by omega)
  have q2 := cut_from (n := m) (k := a + 1) (f := fun k => D.int (t k)) (v := (a : Int) + 1) rfl (by omega)
  refine ⟨by rw [ls_len]; show m + 1 ≤ 16777216; omega, by rw [q1, q2, ls_len, ls_len]; show a + (m - (a + 1)) ≤ 16777216; omega, rfl, rfl, noB, cl ((h34 _ _).mpr ⟨s1, _, _, rfl, w1, by omega, alS 8, fun y s2 w2 hy => ⟨noB, rfl, ?_⟩⟩)⟩
  have bad0 : ∀ x ∈ [D.non, .bl true, .int 0, .str "", .lst [], .tup [], .tup (ls m fun k => .int (t k)), .lst ((ls m fun k => D.int (t k)) ++ [.int 0]), .lst (cutL (ls m fun k => D.int (t k)) none (some (a : Int)) ++ cutL (ls m fun k => D.int (t k)) (some ((a : Int) + 1)) none), y], BadTn m (fun k => detN n (M k)) x := by
    intro x hx
    simp only [List.mem_cons, List.not_mem_nil, or_false] at hx
    rcases hx with rfl | rfl | rfl | rfl | rfl | rfl | rfl | rfl | rfl | rfl
    · exact ⟨rfl, al_non⟩
    · exact ⟨rfl, al_bl⟩
    · exact ⟨rfl, al_int (lg1 (by omega) (by omega))⟩
    · exact ⟨rfl, al_str⟩
    · exact ⟨tones_len (by show 0 ≠ m; omega), al_nil (b := false)⟩
    · exact ⟨rfl, al_nil (b := true)⟩
    · exact ⟨rfl, al_ls (b := true) (by omega) alK⟩
    · refine ⟨tones_len (by rw [List.length_append, ls_len]; show m + 1 ≠ m; omega), al_app (b := false) (by rw [ls_len]; show m + 1 ≤ 16777216; omega) (fun x hx => al_mem (b := false) alS hx) fun x hx => ?_⟩
      rw [List.mem_singleton.mp hx]
      exact al_int (lg1 (by omega) (by omega))
    · rw [q1, q2]
      refine ⟨tones_len (by rw [List.length_append, ls_len, ls_len]; omega), al_app (b := false) (by rw [ls_len, ls_len]; omega) (fun x hx => ?_) fun x hx => ?_⟩
      · obtain ⟨k, hk, rfl⟩ := ls_mem.mp hx
        exact alK k (by omega)
      · obtain ⟨k, hk, rfl⟩ := ls_mem.mp hx
        exact alK _ (by omega)
    · exact ⟨bent_tones hy, hy.al alS⟩
  have ea := ls_at (n := m) (f := fun k => sqD n (M k)) (j := (a : Int)) (by omega) (by omega)
  rw [Int.toNat_natCast] at ea
  have hda := hd a ha
  have hda1 : 1 ≤ detN n (M a) := prodN_pos fun i hi => (hh a ha).pos i hi
  refine ⟨rfl, _, ea, rfl, noB, cl ((h10 _ _).mpr ⟨n, M a, rfl, by omega, fun i hi => (hh a ha).pos i hi, hda, noB, ?_⟩)⟩
  refine for_by (fun rest ρ => (∀ v ∈ rest, within 0 (detN n (M a)) v = false ∧ Al v) ∧ ∃ (acc : List D) (z5 : Option B), rest.length + acc.length = 15 ∧ (∀ x ∈ acc, BadTn m (fun k => detN n (M k)) x) ∧ ρ = [some (.own s2.l), some (.val (.lst (ls m fun k => sqD n (M k)))), some (.val (.lst (ls m fun k => .int (t k)))), some (.val (.int a)), some (.own acc), z5]) ?_ ?_ _ _ ⟨?_, _, none, rfl, bad0, rfl⟩
  · rintro ρ ⟨_, acc, z5, hl, hacc, rfl⟩
    have hl : 0 + acc.length = 15 := hl
    exact ⟨rfl, hK acc s2 (w2.up (by omega)) (by omega) hacc⟩
  · rintro x xs ρ ⟨hr, acc, z5, hl, hacc, rfl⟩ k hk
    have hlen : (x :: xs).length = xs.length + 1 := rfl
    obtain ⟨g1, g2⟩ := hr x (List.mem_cons_self ..)
    refine ⟨rfl, rfl, rfl, noB, cl ((h31 _ _).mpr ⟨false, _, (a : Int), x, rfl, by omega, by rw [ls_len]; omega, noB, by show acc.length < 16777216; omega, hk _ ⟨fun v hv => hr v (List.mem_cons_of_mem _ hv), _, _, by rw [List.length_append]; show xs.length + (acc.length + 1) = 15; omega, mem_more hacc ⟨tones_no (p := a) ha ?_ g1, al_set (b := false) alS g2⟩, rfl⟩⟩)⟩
    rw [Int.toNat_natCast]
    exact List.getElem?_set_self (by rw [ls_len]; omega)
  · intro v hv
    simp only [List.mem_cons, List.not_mem_nil, or_false] at hv
    rcases hv with rfl | rfl | rfl | rfl | rfl
    · exact ⟨rfl, al_int (lg1 (by omega) (by omega))⟩
    · refine ⟨?_, al_int (lg1 (by omega) (by omega))⟩
      show (decide (0 ≤ detN n (M a) + 1) && decide (detN n (M a) + 1 ≤ detN n (M a))) = false
      rw [decide_eq_false (p := detN n (M a) + 1 ≤ detN n (M a)) (by omega), Bool.and_false]
    · exact ⟨rfl, al_non⟩
    · exact ⟨rfl, al_bl⟩
    · exact ⟨rfl, al_str⟩
end
end K78
end
section
set_option Elab.async false
set_option maxRecDepth 100000
set_option linter.all false
set_option maxHeartbeats 2000000
/-! K78P1: weights, blends, gaps. -/
namespace K78
open PySem DV
/-- the weights of the kinds -/
def W (w t : Nat → Int) : Nat → Nat → Int
  | 0, _ => 1
  | k + 1, i => if i < 2 ^ k then W w t k i * (w k - t k) else W w t k (i - 2 ^ k) * t k
structure Ton (m : Nat) (w t : Nat → Int) : Prop where
  w1 : ∀ k, k < m → 1 ≤ w k
  t0 : ∀ k, k < m → 0 ≤ t k ∧ t k ≤ w k
  p : prodN m w ≤ 10 ^ 60
theorem W_bound {m : Nat} {w t : Nat → Int} (h : Ton m w t) : ∀ k, k ≤ m → ∀ i, 0 ≤ W w t k i ∧ W w t k i ≤ prodN k w
  | 0, _, i => by unfold W prodN; omega
  | k + 1, hk, i => by
    have h1 := h.w1 k (by omega)
    have h2 := h.t0 k (by omega)
    have hp : 1 ≤ prodN k w := prodN_pos fun j hj => h.w1 j (by omega)
    have key : ∀ x a : Int, 0 ≤ x → x ≤ prodN k w → 0 ≤ a → a ≤ w k → 0 ≤ x * a ∧ x * a ≤ prodN k w * w k := fun x a x0 x1 a0 a1 => ⟨Int.mul_nonneg x0 a0, Int.mul_le_mul x1 a1 a0 (by omega)⟩
    show 0 ≤ (if i < 2 ^ k then W w t k i * (w k - t k) else W w t k (i - 2 ^ k) * t k) ∧ (if i < 2 ^ k then W w t k i * (w k - t k) else W w t k (i - 2 ^ k) * t k) ≤ prodN k w * w k
    split
    · obtain ⟨q1, q2⟩ := W_bound h k (by omega) i
      exact key _ _ q1 q2 (by omega) (by omega)
    · obtain ⟨q1, q2⟩ := W_bound h k (by omega) (i - 2 ^ k)
      exact key _ _ q1 q2 (by omega) (by omega)
theorem Ton.up {m : Nat} {w t : Nat → Int} (h : Ton m w t) {k : Nat} (hk : k ≤ m) : 1 ≤ prodN k w ∧ prodN k w ≤ 10 ^ 60 := by
  have := prodN_mono (m := k) (n := m) h.w1 hk
  have := h.p
  exact ⟨prodN_pos fun j hj => h.w1 j (by omega), by omega⟩
theorem Ton.wk {m : Nat} {w t : Nat → Int} (h : Ton m w t) {k : Nat} (hk : k < m) : w k ≤ 10 ^ 60 := by
  have := prodN_part h.w1 hk
  have := h.p
  omega
theorem ls_app {α : Type} {a b : Nat} {f g : Nat → α} : ls a f ++ ls b g = ls (a + b) fun i => if i < a then f i else g (i - a) := ls_ext (by rw [List.length_append, ls_len, ls_len]) fun i hi => by
  by_cases h : i < a
  · rw [List.getElem?_append_left (by rw [ls_len]; exact h), ls_get h, if_pos h]
  · rw [List.getElem?_append_right (by rw [ls_len]; omega), ls_len, ls_get (by omega), if_neg h]
def sumN : Nat → (Nat → Int) → Int
  | 0, _ => 0
  | n + 1, f => sumN n f + f n
def dot (n : Nat) (ws : Nat → Int) (F : Nat → Nat → Int) (c : Nat) : Int := sumN n fun i => ws i * F i c
theorem dot_bound {n : Nat} {ws : Nat → Int} {F : Nat → Nat → Int} {c : Nat} (hc : c < 3) (h : ∀ i, i < n → 0 ≤ ws i ∧ ws i ≤ 10 ^ 60) (hF : ∀ i, i < n → ColOk (F i)) : 0 ≤ dot n ws F c ∧ dot n ws F c ≤ n * 10 ^ 63 := by
  induction n with
  | zero => exact ⟨Int.le_refl 0, by show (0 : Int) ≤ _; omega⟩
  | succ n ih =>
    obtain ⟨q1, q2⟩ := ih (fun i hi => h i (by omega)) (fun i hi => hF i (by omega))
    obtain ⟨a0, a1⟩ := h n (by omega)
    obtain ⟨b0, b1⟩ := hF n (by omega) c hc
    have p0 : 0 ≤ ws n * F n c := Int.mul_nonneg a0 b0
    have p1 : ws n * F n c ≤ 10 ^ 60 * 1000 := Int.mul_le_mul a1 b1 b0 (by omega)
    show 0 ≤ dot n ws F c + ws n * F n c ∧ dot n ws F c + ws n * F n c ≤ ((n + 1 : Nat) : Int) * 10 ^ 63
    rw [Int.natCast_add, Int.add_mul]
    omega
theorem lgB {m : Int} (h0 : -(10 ^ 70) ≤ m) (h : m ≤ 10 ^ 70) : lg m ≤ 300 := Nat.le_trans (lg_lt (k := 300) (by
  have : m.natAbs < 10 ^ 71 := by omega
  exact Nat.lt_of_lt_of_le this (by decide +kernel))) (Nat.le_refl _)
def gapN (m : Nat) (w t : Nat → Int) (F : Nat → Nat → Int) (g : Nat → Int) (c : Nat) : Int := dot (2 ^ m) (W w t m) F c - prodN m w * g c
structure Cols (m : Nat) (F : Nat → Nat → Int) (g : Nat → Int) : Prop where
  m6 : m ≤ 6
  F : ∀ i, i < 2 ^ m → ColOk (F i)
  g : ColOk g
theorem pow6 {m : Nat} (h : m ≤ 6) : 2 ^ m ≤ 64 := Nat.pow_le_pow_right (n := 2) (by decide) h
theorem gap_bound {m : Nat} {w t : Nat → Int} {F : Nat → Nat → Int} {g : Nat → Int} {c : Nat} (ht : Ton m w t) (hc : Cols m F g) (h3 : c < 3) : -(10 ^ 66) ≤ gapN m w t F g c ∧ gapN m w t F g c ≤ 10 ^ 66 := by
  obtain ⟨q1, q2⟩ := dot_bound (n := 2 ^ m) (ws := W w t m) h3 (fun i hi => by have := W_bound ht m (Nat.le_refl m) i; have := ht.p; omega) hc.F
  have h64 := pow6 hc.m6
  obtain ⟨b0, b1⟩ := hc.g c h3
  obtain ⟨a0, a1⟩ := ht.up (Nat.le_refl m)
  have p0 : 0 ≤ prodN m w * g c := Int.mul_nonneg (by omega) b0
  have p1 : prodN m w * g c ≤ 10 ^ 60 * 1000 := Int.mul_le_mul a1 b1 b0 (by omega)
  have q3 : ((2 ^ m : Nat) : Int) * 10 ^ 63 ≤ 64 * 10 ^ 63 := Int.mul_le_mul_of_nonneg_right (by omega) (by omega)
  unfold gapN
  omega
def farN (m : Nat) (w t : Nat → Int) (F : Nat → Nat → Int) (g : Nat → Int) : Int := gapN m w t F g 0 * gapN m w t F g 0 + (gapN m w t F g 1 * gapN m w t F g 1 + (gapN m w t F g 2 * gapN m w t F g 2 + 0))
theorem for_zip {f : D → DV.Env → (DV.Env → Prop) → Prop} {nx : DV.Env → Prop} {n : Nat} {a b : Nat → D} {ρ : DV.Env} (I : Nat → DV.Env → Prop) (h0 : I 0 ρ) (hs : ∀ (i : Nat) ρ, i < n → I i ρ → ∀ k : DV.Env → Prop, (∀ ρ', I (i + 1) ρ' → k ρ') → f (.tup [a i, b i]) ρ k) (he : ∀ ρ, I n ρ → nx ρ) : forLoop f (zipL (ls n a) (ls n b)) ρ nx := by
  rw [zip_ls]
  exact for_ls I h0 hs he
section
variable {G : Nat → DSp} {sub : Nat → Nat → Option Bool}
abbrev intsD (n : Nat) (f : Nat → Int) : D := .lst (ls n fun k => .int (f k))
def sp_prods : DSp := fun bs K => ∃ (m : Nat) (w t : Nat → Int), bs = [.val (intsD m w), .val (intsD m t)] ∧ m ≤ 6 ∧ Ton m w t ∧ K (.ok (.val (intsD (2 ^ m) (W w t m)))) []
theorem vc_prods : ∀ bs K0, bs.length = 2 → sp_prods bs K0 → ownPos 0 bs = [] ∧ rdDef ⟨G, [], none, sub⟩ ir_products 6 bs K0 := by
  rintro bs K hl ⟨m, w, t, rfl, hm, ht, hK⟩
  refine ⟨rfl, rfl, for_zip (fun k ρ => ∃ z3 z4 : Option B, ρ = [some (.val (intsD m w)), some (.val (intsD m t)), some (.own (ls (2 ^ k) fun i => .int (W w t k i))), z3, z4, none]) ⟨none, none, rfl⟩ ?_ ?_⟩
  · rintro k ρ hk ⟨z3, z4, rfl⟩ kk hkk
    have h64 : 2 ^ k ≤ 64 := pow6 (by omega)
    have hw := ht.w1 k hk
    have hw2 := ht.wk hk
    have htk := ht.t0 k hk
    have hW : ∀ i, lg (W w t k i) ≤ 300 := fun i => by
      have := W_bound ht k (by omega) i
      have := ht.up (k := k) (by omega)
      exact lgB (by omega) (by omega)
    refine ⟨rfl, rfl, rfl, by rw [ls_len]; show 2 ^ k ≤ 16777216; omega, rfl, lc_ls (fun i => .int (W w t k i * (w k - t k))) (fun i hi k' hk' => ⟨rfl, mulOk_of (hW i) (lgB (by omega) (by omega)), hk'⟩) ?_⟩
    refine ⟨by rw [ls_len]; show 2 ^ k ≤ 16777216; omega, rfl, lc_ls (fun i => .int (W w t k i * t k)) (fun i hi k' hk' => ⟨rfl, mulOk_of (hW i) (lgB (by omega) (by omega)), hk'⟩) ⟨by rw [ls_len, ls_len]; show 2 ^ k + 2 ^ k ≤ 16777216; omega, rfl, hkk _ ⟨some (.val (.int (w k))), some (.val (.int (t k))), ?_⟩⟩⟩
    have e : (ls (2 ^ k) fun i => D.int (W w t k i * (w k - t k))) ++ (ls (2 ^ k) fun i => D.int (W w t k i * t k)) = ls (2 ^ (k + 1)) fun i => .int (W w t (k + 1) i) := by
      rw [ls_app, show 2 ^ k + 2 ^ k = 2 ^ (k + 1) by rw [Nat.pow_succ]; omega]
      refine ls_congr fun i hi => ?_
      show (if i < 2 ^ k then D.int (W w t k i * (w k - t k)) else D.int (W w t k (i - 2 ^ k) * t k)) = .int (if i < 2 ^ k then W w t k i * (w k - t k) else W w t k (i - 2 ^ k) * t k)
      split <;> rfl
    rw [← e]
    rfl
  · rintro ρ ⟨z3, z4, rfl⟩
    exact ⟨rfl, hK⟩
def sp_total : DSp := fun bs K => ∃ (m : Nat) (w : Nat → Int), bs = [.val (intsD m w)] ∧ (∀ k, k < m → 1 ≤ w k) ∧ prodN m w ≤ 10 ^ 60 ∧ K (.ok (.val (.int (prodN m w)))) []
theorem vc_total : ∀ bs K0, bs.length = 1 → sp_total bs K0 → ownPos 0 bs = [] ∧ rdDef ⟨G, [], none, sub⟩ ir_total_of 3 bs K0 := by
  rintro bs K hl ⟨m, w, rfl, hw, hp, hK⟩
  refine ⟨rfl, rfl, for_ls (fun k ρ => ∃ z2 : Option B, ρ = [some (.val (intsD m w)), some (.val (.int (prodN k w))), z2]) ⟨none, rfl⟩ ?_ ?_⟩
  · rintro k ρ hk ⟨z2, rfl⟩ kk hkk
    have h1 := prodN_mono (m := k) (n := m) hw (by omega)
    have h2 := prodN_part hw hk
    have h3 : 1 ≤ prodN k w := prodN_pos fun j hj => hw j (by omega)
    have h4 := hw k hk
    exact ⟨rfl, mulOk_of (lgB (by omega) (by omega)) (lgB (by omega) (by omega)), rfl, hkk _ ⟨_, rfl⟩⟩
  · rintro ρ ⟨z2, rfl⟩
    exact hK
def sp_blend : DSp := fun bs K => ∃ (n : Nat) (ws : Nat → Int) (F : Nat → Nat → Int), bs = [.val (intsD n ws), .val (.lst (ls n fun i => colD (F i)))] ∧ n ≤ 64 ∧ (∀ i, i < n → 0 ≤ ws i ∧ ws i ≤ 10 ^ 60) ∧ (∀ i, i < n → ColOk (F i)) ∧ K (.ok (.val (colD fun c => dot n ws F c))) []
theorem vc_blend : ∀ bs K0, bs.length = 2 → sp_blend bs K0 → ownPos 0 bs = [] ∧ rdDef ⟨G, [], none, sub⟩ ir_blend 6 bs K0 := by
  rintro bs K hl ⟨n, ws, F, rfl, hn, hw, hF, hK⟩
  refine ⟨rfl, rfl, for_zip (fun i ρ => ∃ z3 z4 z5 : Option B, ρ = [some (.val (intsD n ws)), some (.val (.lst (ls n fun i => colD (F i)))), some (.own [.int (dot i ws F 0), .int (dot i ws F 1), .int (dot i ws F 2)]), z3, z4, z5]) ⟨none, none, none, rfl⟩ ?_ ?_⟩
  · rintro i ρ hi ⟨z3, z4, z5, rfl⟩ k hk
    have ok : ∀ c, c < 3 → MulOk (ws i) (F i c) := fun c hc => by
      have h1 := hw i hi
      have h2 := hF i hi c hc
      exact mulOk_of (lgB (by omega) (by omega)) (lgB (by omega) (by omega))
    refine ⟨rfl, rfl, ⟨by decide, by decide⟩, ?_⟩
    exact ⟨rfl, rfl, _, rfl, rfl, _, rfl, ok 0 (by omega), _, rfl, rfl, rfl, _, rfl, rfl, _, rfl, ok 1 (by omega), _, rfl, rfl, rfl, _, rfl, rfl, _, rfl, ok 2 (by omega), _, rfl, hk _ ⟨_, _, _, rfl⟩⟩
  · rintro ρ ⟨z3, z4, z5, rfl⟩
    exact ⟨rfl, hK⟩
def sp_gaps : DSp := fun bs K => ∃ (m : Nat) (w t : Nat → Int) (F : Nat → Nat → Int) (g : Nat → Int), bs = [.val (intsD m w), .val (intsD m t), .val (.lst (ls (2 ^ m) fun i => colD (F i))), .val (colD g)] ∧ Ton m w t ∧ Cols m F g ∧ K (.ok (.own (ls 3 fun c => .int (gapN m w t F g c)))) []
theorem vc_gaps (h63 : Has G 63 sp_blend) (h64 : Has G 64 sp_total) (h65 : Has G 65 sp_prods) : ∀ bs K0, bs.length = 4 → sp_gaps bs K0 → ownPos 0 bs = [] ∧ rdDef ⟨G, [], none, sub⟩ ir_gaps 8 bs K0 := by
  rintro bs K hl ⟨m, w, t, F, g, rfl, ht, hc, hK⟩
  have hp := ht.up (Nat.le_refl m)
  refine ⟨rfl, rfl, noB, cl ((h65 _ _).mpr ⟨m, w, t, rfl, hc.m6, ht, noB, rfl, noB, cl ((h63 _ _).mpr ⟨2 ^ m, W w t m, F, rfl, pow6 hc.m6, fun i hi => by have := W_bound ht m (Nat.le_refl m) i; have := ht.p; omega, hc.F, noB, rfl, rfl, noB, cl ((h64 _ _).mpr ⟨m, w, rfl, ht.w1, ht.p, noB, rfl, ?_⟩)⟩)⟩)⟩
  have hl3 : (zipL (ls 3 fun c => D.int (dot (2 ^ m) (W w t m) F c)) (ls 3 fun c => D.int (g c))).length ≤ LINE := by rw [zip_ls, ls_len]; decide
  refine ⟨hl3, rfl, ?_⟩
  rw [zip_ls]
  refine lc_ls (fun c => .int (gapN m w t F g c)) (fun c hc3 k hk => ⟨rfl, rfl, ?_, hk⟩) hK
  have := hc.g c hc3
  exact mulOk_of (lgB (by omega) (by omega)) (lgB (by omega) (by omega))
def sp_squared : DSp := fun bs K => ∃ (m : Nat) (w t : Nat → Int) (F : Nat → Nat → Int) (g : Nat → Int), bs = [.val (intsD m w), .val (intsD m t), .val (.lst (ls (2 ^ m) fun i => colD (F i))), .val (colD g)] ∧ Ton m w t ∧ Cols m F g ∧ K (.ok (.val (.int (farN m w t F g)))) []
theorem vc_squared (h66 : Has G 66 sp_gaps) : ∀ bs K0, bs.length = 4 → sp_squared bs K0 → ownPos 0 bs = [] ∧ rdDef ⟨G, [], none, sub⟩ ir_squared 5 bs K0 := by
  rintro bs K hl ⟨m, w, t, F, g, rfl, ht, hc, hK⟩
  refine ⟨rfl, rfl, noB, cl ((h66 _ _).mpr ⟨m, w, t, F, g, rfl, ht, hc, noB, by show (ls 3 fun c => D.int (gapN m w t F g c)).length ≤ LINE; rw [ls_len]; decide, rfl, lc_ls (fun c => .int (gapN m w t F g c * gapN m w t F g c)) (fun c hc3 k hk => ⟨rfl, ?_, hk⟩) ⟨[gapN m w t F g 0 * gapN m w t F g 0, gapN m w t F g 1 * gapN m w t F g 1, gapN m w t F g 2 * gapN m w t F g 2], rfl, hK⟩⟩)⟩
  have := gap_bound ht hc hc3
  exact mulOk_of (lgB (by omega) (by omega)) (lgB (by omega) (by omega))
theorem enum_ls {n : Nat} {f : Nat → D} : enumL (ls n f) = ls n fun i => .tup [.int i, f i] := ls_ext (by unfold enumL; rw [List.length_map, List.length_zipIdx, ls_len]) fun i hi => by
  unfold enumL
  rw [List.getElem?_map, List.getElem?_zipIdx, ls_get hi]
  simp
def sp_diag : DSp := fun bs K => ∃ (n : Nat) (M : Nat → Nat → Int), bs = [.val (sqD n M)] ∧ n ≤ 1000 ∧ K (.ok (.own (ls n fun i => .int (M i i)))) []
theorem vc_diag : ∀ bs K0, bs.length = 1 → sp_diag bs K0 → ownPos 0 bs = [] ∧ rdDef ⟨G, [], none, sub⟩ ir_diagonal_of 3 bs K0 := by
  rintro bs K hl ⟨n, M, rfl, hn, hK⟩
  have hl3 : (enumL (ls n fun i => D.tup (ls n fun j => .int (M i j)))).length ≤ LINE := by rw [enum_ls, ls_len]; show n ≤ 16777216; omega
  refine ⟨rfl, hl3, rfl, ?_⟩
  rw [enum_ls]
  refine lc_ls (fun i => .int (M i i)) (fun i hi k hk => ?_) hK
  have e := ls_at (n := n) (f := fun j => D.int (M i j)) (j := (i : Int)) (by omega) (by omega)
  rw [Int.toNat_natCast] at e
  exact ⟨rfl, rfl, rfl, _, e, hk⟩
def sp_idx : DSp := fun bs K => ∃ (n : Nat) (M : Nat → Nat → Int), bs = [.val (sqD n M)] ∧ 1 ≤ n ∧ n ≤ 18 ∧ Hnf n M ∧ detN n M ≤ 10 ^ 60 ∧ K (.ok (.val (.int (detN n M)))) []
theorem vc_idx (h67 : Has G 67 sp_cscr) (h68 : Has G 68 sp_diag) : ∀ bs K0, bs.length = 1 → sp_idx bs K0 → ownPos 0 bs = [] ∧ rdDef ⟨G, [], none, sub⟩ ir_index_of 3 bs K0 := by
  rintro bs K hl ⟨n, M, rfl, hn1, hn, hM, hd, hK⟩
  have hb := hnf_bound hM hd
  have al : Al (sqD n M) := al_sqD (by omega) fun i j hi hj => by have := hb i j hi hj; exact lg1 (by omega) (by omega)
  refine ⟨rfl, rfl, noB, cl ((h67 _ _).mpr ⟨_, rfl, al 3, ⟨n, M, rfl, hn1, hn, hM, hd⟩, noB, rfl, rfl, noB, cl ((h68 _ _).mpr ⟨n, M, rfl, by omega, noB, ?_⟩)⟩)⟩
  refine for_ls (fun k ρ => ∃ z2 : Option B, ρ = [some (.val (sqD n M)), some (.val (.int (prodN k fun i => M i i))), z2]) ⟨none, rfl⟩ ?_ ?_
  · rintro k ρ hk ⟨z2, rfl⟩ kk hkk
    have hw : ∀ i, i < n → 1 ≤ M i i := hM.pos
    have h1 := prodN_mono (f := fun i => M i i) (m := k) (n := n) hw (by omega)
    have h2 := prodN_part (z := fun i => M i i) hw hk
    have h3 : 1 ≤ prodN k fun i => M i i := prodN_pos fun j hj => hw j (by omega)
    have h4 := hw k hk
    unfold detN at hd
    exact ⟨rfl, mulOk_of (lgB (by omega) (by omega)) (lgB (by omega) (by omega)), rfl, hkk _ ⟨_, rfl⟩⟩
  · rintro ρ ⟨z2, rfl⟩
    exact hK
end
end K78
end
section
set_option Elab.async false
set_option maxRecDepth 100000
set_option linter.all false
set_option maxHeartbeats 2000000
/-! K78P2: the best tone: plain law. -/
namespace K78
open PySem DV
def upd (t : Nat → Int) (p : Nat) (x : Int) : Nat → Int := fun k => if k = p then x else t k
theorem W_congr {w t u : Nat → Int} : ∀ {k : Nat}, (∀ j, j < k → t j = u j) → ∀ i, W w t k i = W w u k i
  | 0, _, i => rfl
  | k + 1, h, i => by
    show (if i < 2 ^ k then W w t k i * (w k - t k) else W w t k (i - 2 ^ k) * t k) = (if i < 2 ^ k then W w u k i * (w k - u k) else W w u k (i - 2 ^ k) * u k)
    rw [h k (by omega), W_congr (fun j hj => h j (by omega)) i, W_congr (fun j hj => h j (by omega)) (i - 2 ^ k)]
theorem W_affine {w t : Nat → Int} {p : Nat} (x : Int) : ∀ k i, W w (upd t p x) k i = W w (upd t p 0) k i + x * (W w (upd t p 1) k i - W w (upd t p 0) k i)
  | 0, i => by show (1 : Int) = 1 + x * (1 - 1); omega
  | k + 1, i => by
    show (if i < 2 ^ k then W w (upd t p x) k i * (w k - upd t p x k) else W w (upd t p x) k (i - 2 ^ k) * upd t p x k) = (if i < 2 ^ k then W w (upd t p 0) k i * (w k - upd t p 0 k) else W w (upd t p 0) k (i - 2 ^ k) * upd t p 0 k) + x * ((if i < 2 ^ k then W w (upd t p 1) k i * (w k - upd t p 1 k) else W w (upd t p 1) k (i - 2 ^ k) * upd t p 1 k) - (if i < 2 ^ k then W w (upd t p 0) k i * (w k - upd t p 0 k) else W w (upd t p 0) k (i - 2 ^ k) * upd t p 0 k))
    by_cases hk : k = p
    · have c1 : ∀ y i, W w (upd t p y) k i = W w t k i := fun y i => W_congr (fun j hj => by unfold upd; rw [if_neg (by omega)]) i
      have u : ∀ y, upd t p y k = y := fun y => by unfold upd; rw [if_pos hk]
      rw [c1, c1, c1, c1, c1, c1, u, u, u]
      split <;> grind
    · have u : ∀ y, upd t p y k = t k := fun y => by unfold upd; rw [if_neg hk]
      rw [u, u, u]
      have h1 := W_affine (w := w) (t := t) (p := p) x k i
      have h2 := W_affine (w := w) (t := t) (p := p) x k (i - 2 ^ k)
      split
      · rw [h1]; grind
      · rw [h2]; grind
theorem sumN_affine {n : Nat} {a b c : Nat → Int} {x : Int} (h : ∀ i, i < n → a i = b i + x * (c i - b i)) : sumN n a = sumN n b + x * (sumN n c - sumN n b) := by
  induction n with
  | zero => show (0 : Int) = 0 + x * (0 - 0); omega
  | succ n ih =>
    show sumN n a + a n = sumN n b + b n + x * (sumN n c + c n - (sumN n b + b n))
    rw [ih fun i hi => h i (by omega), h n (by omega)]
    grind
theorem gap_affine {m : Nat} {w t : Nat → Int} {F : Nat → Nat → Int} {g : Nat → Int} {c p : Nat} (x : Int) : gapN m w (upd t p x) F g c = gapN m w (upd t p 0) F g c + x * (gapN m w (upd t p 1) F g c - gapN m w (upd t p 0) F g c) := by
  unfold gapN
  have : dot (2 ^ m) (W w (upd t p x) m) F c = dot (2 ^ m) (W w (upd t p 0) m) F c + x * (dot (2 ^ m) (W w (upd t p 1) m) F c - dot (2 ^ m) (W w (upd t p 0) m) F c) := sumN_affine fun i hi => by
    rw [W_affine x m i]
    grind
  rw [this]
  grind
/-- three squares of lines -/
def par (L0 L1 L2 S0 S1 S2 x : Int) : Int := (L0 + x * S0) * (L0 + x * S0) + ((L1 + x * S1) * (L1 + x * S1) + ((L2 + x * S2) * (L2 + x * S2) + 0))
def sq3 (S0 S1 S2 : Int) : Int := S0 * S0 + (S1 * S1 + (S2 * S2 + 0))
def dt3 (L0 L1 L2 S0 S1 S2 : Int) : Int := L0 * S0 + (L1 * S1 + (L2 * S2 + 0))
theorem par_diff (L0 L1 L2 S0 S1 S2 x r : Int) : par L0 L1 L2 S0 S1 S2 x - par L0 L1 L2 S0 S1 S2 r = (x - r) * (2 * dt3 L0 L1 L2 S0 S1 S2 + (x + r) * sq3 S0 S1 S2) := by
  unfold par sq3 dt3
  grind
def Best (f : Int → Int) (w r : Int) : Prop := 0 ≤ r ∧ r ≤ w ∧ ∀ x, 0 ≤ x → x ≤ w → f r ≤ f x ∧ (x < r → f r < f x)
theorem Best.uniq {f : Int → Int} {w r s : Int} (h : Best f w r) (k : Best f w s) : r = s := by
  obtain ⟨h1, h2, h3⟩ := h
  obtain ⟨k1, k2, k3⟩ := k
  have a := h3 s k1 k2
  have b := k3 r h1 h2
  rcases Int.lt_trichotomy r s with q | q | q
  · have := b.2 q; omega
  · exact q
  · have := a.2 q; omega
theorem sqr_nn (a : Int) : 0 ≤ a * a := by
  rcases Int.le_total 0 a with h | h
  · exact Int.mul_nonneg h h
  · have := Int.mul_nonneg (a := -a) (b := -a) (by omega) (by omega)
    rw [Int.neg_mul_neg] at this
    exact this
theorem sqr_z {a : Int} (h : a * a = 0) : a = 0 := by
  rcases Int.mul_eq_zero.mp h with h | h <;> exact h
theorem best_flat {L0 L1 L2 S0 S1 S2 w : Int} (hw : 0 ≤ w) (h : sq3 S0 S1 S2 = 0) : Best (par L0 L1 L2 S0 S1 S2) w 0 := by
  unfold sq3 at h
  have a := sqr_nn S0
  have b := sqr_nn S1
  have c := sqr_nn S2
  have e0 := sqr_z (a := S0) (by omega)
  have e1 := sqr_z (a := S1) (by omega)
  have e2 := sqr_z (a := S2) (by omega)
  subst e0 e1 e2
  refine ⟨Int.le_refl 0, hw, fun x h0 h1 => ⟨?_, fun h => by omega⟩⟩
  unfold par
  simp only [Int.mul_zero, Int.add_zero]
  exact Int.le_refl _
theorem best_round {L0 L1 L2 S0 S1 S2 w near : Int} (hw : 0 ≤ w) (h : sq3 S0 S1 S2 ≠ 0)
    (hn : near = -((2 * dt3 L0 L1 L2 S0 S1 S2 + sq3 S0 S1 S2).fdiv (2 * sq3 S0 S1 S2))) : Best (par L0 L1 L2 S0 S1 S2) w (if (if near < w then near else w) > 0 then (if near < w then near else w) else 0) := by
  obtain ⟨Q, hQ⟩ : ∃ Q, Q = sq3 S0 S1 S2 := ⟨_, rfl⟩
  obtain ⟨B, hB⟩ : ∃ B, B = dt3 L0 L1 L2 S0 S1 S2 := ⟨_, rfl⟩
  have hd := fun x r => par_diff L0 L1 L2 S0 S1 S2 x r
  rw [← hQ] at h hn
  rw [← hB] at hn
  simp only [← hQ, ← hB] at hd
  have hp : 0 < Q := by
    have a := sqr_nn S0
    have b := sqr_nn S1
    have c := sqr_nn S2
    unfold sq3 at hQ
    omega
  have e1 : 2 * Q * (-near) ≤ 2 * B + Q ∧ 2 * B + Q < 2 * Q * (-near) + 2 * Q := by
    rw [hn, Int.neg_neg, Int.fdiv_eq_ediv_of_nonneg _ (by omega)]
    have a1 := Int.emod_add_mul_ediv (2 * B + Q) (2 * Q)
    have a2 := Int.emod_nonneg (2 * B + Q) (b := 2 * Q) (by omega)
    have a3 := Int.emod_lt_of_pos (2 * B + Q) (b := 2 * Q) (by omega)
    omega
  have e2 : 2 * Q * (-near) = -(2 * near * Q) := by grind
  rw [e2] at e1
  have up : ∀ y, 2 * near + 1 ≤ y → 0 ≤ 2 * B + y * Q := fun y hy => by
    have : (2 * near + 1) * Q ≤ y * Q := Int.mul_le_mul_of_nonneg_right hy (by omega)
    have e3 : (2 * near + 1) * Q = 2 * near * Q + Q := by grind
    omega
  have dn : ∀ y, y ≤ 2 * near - 1 → 2 * B + y * Q < 0 := fun y hy => by
    have : y * Q ≤ (2 * near - 1) * Q := Int.mul_le_mul_of_nonneg_right hy (by omega)
    have e3 : (2 * near - 1) * Q = 2 * near * Q - Q := by grind
    omega
  obtain ⟨u, hu⟩ : ∃ u : Int, u = if near < w then near else w := ⟨_, rfl⟩
  rw [← hu]
  have hu2 : u ≤ near ∧ u ≤ w ∧ (u = near ∨ u = w) := by rw [hu]; split <;> omega
  obtain ⟨r, hr⟩ : ∃ r : Int, r = if u > 0 then u else 0 := ⟨_, rfl⟩
  rw [← hr]
  have hr2 : (r = u ∧ 0 < u) ∨ (r = 0 ∧ u ≤ 0) := by rw [hr]; split <;> omega
  have r0 : 0 ≤ r ∧ r ≤ w := by omega
  have r1 : 0 < r → r ≤ near := by omega
  have r2 : r < w → near ≤ r := by omega
  refine ⟨r0.1, r0.2, fun x h0 h1 => ?_⟩
  have hx := hd x r
  rcases Int.lt_trichotomy x r with q | q | q
  · have a := dn (x + r) (by have := r1 (by omega); omega)
    have : 0 < (x - r) * (2 * B + (x + r) * Q) := Int.mul_pos_of_neg_of_neg (by omega) a
    exact ⟨by omega, fun _ => by omega⟩
  · subst q
    exact ⟨Int.le_refl _, fun h => by omega⟩
  · have a := up (x + r) (by have := r2 (by omega); omega)
    have : 0 ≤ (x - r) * (2 * B + (x + r) * Q) := Int.mul_nonneg (by omega) a
    exact ⟨by omega, fun h => by omega⟩
def farU (m : Nat) (w t : Nat → Int) (p : Nat) (F : Nat → Nat → Int) (g : Nat → Int) (x : Int) : Int := farN m w (upd t p x) F g
theorem far_par {m : Nat} {w t : Nat → Int} {p : Nat} {F : Nat → Nat → Int} {g : Nat → Int} : farU m w t p F g = par (gapN m w (upd t p 0) F g 0) (gapN m w (upd t p 0) F g 1) (gapN m w (upd t p 0) F g 2) (gapN m w (upd t p 1) F g 0 - gapN m w (upd t p 0) F g 0) (gapN m w (upd t p 1) F g 1 - gapN m w (upd t p 0) F g 1) (gapN m w (upd t p 1) F g 2 - gapN m w (upd t p 0) F g 2) := by
  funext x
  unfold farU farN par
  rw [gap_affine (c := 0) x, gap_affine (c := 1) x, gap_affine (c := 2) x]
theorem upd_upd {t : Nat → Int} {p : Nat} {x y : Int} : upd (upd t p x) p y = upd t p y := by
  funext k
  unfold upd
  by_cases h : k = p
  · rw [if_pos h, if_pos h]
  · rw [if_neg h, if_neg h, if_neg h]
theorem farU_upd {m : Nat} {w t : Nat → Int} {p : Nat} {F : Nat → Nat → Int} {g : Nat → Int} {x : Int} : farU m w (upd t p x) p F g = farU m w t p F g := by
  funext y
  unfold farU
  rw [upd_upd]
end K78
end
section
set_option Elab.async false
set_option maxRecDepth 100000
set_option linter.all false
set_option maxHeartbeats 4000000
/-! K78P3: best_tone, distance. -/
namespace K78
open PySem DV
abbrev wOf (n : Nat) (M : Nat → Nat → Nat → Int) : Nat → Int := fun k => detN n (M k)
/-- the checks in their order -/
def Ask (best : Bool) (d1 d2 d3 d4 d5 : D) (E : Nat → Prop) (R : Nat → Nat → (Nat → Nat → Nat → Int) → Prop) : Prop :=
  (¬ IsStk d1 ∧ E 5) ∨ ∃ m n M, Stk d1 m n M ∧ ((tonesB m (wOf n M) d2 = false ∧ E 1) ∨ tonesB m (wOf n M) d2 = true ∧
    ((best = true ∧ within 0 ((m : Int) - 1) d3 = false ∧ E 1) ∨ (best = true → within 0 ((m : Int) - 1) d3 = true) ∧
      ((colsB ((2 ^ m : Nat) : Int) d4 = false ∧ E 6) ∨ colsB ((2 ^ m : Nat) : Int) d4 = true ∧
        ((colB d5 = false ∧ E 6) ∨ colB d5 = true ∧ R m n M))))
theorem Stk.ton {d : D} {m n : Nat} {M : Nat → Nat → Nat → Int} {t : Nat → Int} (s : Stk d m n M) (ht : ∀ k, k < m → 0 ≤ t k ∧ t k ≤ detN n (M k)) : Ton m (wOf n M) t := ⟨fun k hk => (s.c.det hk).1, ht, s.c.p⟩
theorem ton_upd {m p : Nat} {w t : Nat → Int} {x : Int} (h : Ton m w t) (h0 : 0 ≤ x) (h1 : x ≤ w p) : Ton m w (upd t p x) := ⟨h.w1, fun k hk => by
  unfold upd
  split
  · rename_i e; subst e; exact ⟨h0, h1⟩
  · exact h.t0 k hk, h.p⟩
theorem cut_upd {m p : Nat} {t : Nat → Int} {x : Int} (hp : p < m) : cutL (ls m fun k => D.int (t k)) none (some (p : Int)) ++ [D.int x] ++ cutL (ls m fun k => D.int (t k)) (some ((p : Int) + 1)) none = ls m fun k => .int (upd t p x k) := by
  rw [cut_to (k := p) rfl (by omega), cut_from (k := p + 1) (by omega) (by omega), ls_more, ls_app, show p + 1 + (m - (p + 1)) = m by omega]
  refine ls_congr fun k hk => ?_
  unfold upd
  by_cases h : k < p + 1
  · rw [if_pos h]
    by_cases e : k = p
    · rw [if_pos e, if_pos e]
    · rw [if_neg e, if_neg e]
  · rw [if_neg h, if_neg (by omega), show p + 1 + (k - (p + 1)) = k by omega]
theorem set_upd {m p : Nat} {t : Nat → Int} {x : Int} : (ls m fun k => D.int (t k)).set p (.int x) = ls m fun k => .int (upd t p x k) := by
  rw [ls_set]
  refine ls_congr fun k hk => ?_
  unfold upd
  split <;> rfl
theorem lc_zip {f : D → DV.Env → (Option D → DV.Env → Prop) → Prop} {n : Nat} {a b : Nat → D} {ρ : DV.Env} {Q : List D → DV.Env → Prop} (g : Nat → D) (hs : ∀ i, i < n → ∀ k : Option D → DV.Env → Prop, k (some (g i)) ρ → f (.tup [a i, b i]) ρ k) (he : Q (ls n g) ρ) : lcLoop f (zipL (ls n a) (ls n b)) [] ρ Q := by
  rw [zip_ls]
  exact lc_ls g hs he
theorem lg_sum3 {a b c : Int} {k : Nat} (ha : lg a ≤ k) (hb : lg b ≤ k) (hc : lg c ≤ k) : lg (a + (b + (c + 0))) ≤ k + 2 := by
  have h1 := lg_add a (b + (c + 0))
  have h2 := lg_add b (c + 0)
  rw [Int.add_zero] at h1 h2 ⊢
  omega
section
variable {G : Nat → DSp} {sub : Nat → Nat → Option Bool}
def sp_best : DSp := fun bs K => ∃ d1 d2 d3 d4 d5 : D, bs = [.val d1, .val d2, .val d3, .val d4, .val d5] ∧ Sm 4 d1 ∧
  Ask true d1 d2 d3 d4 d5 (fun c => K (.err c) []) fun m n M => ∃ (t : Nat → Int) (p : Nat) (F : Nat → Nat → Int) (g : Nat → Int), d2 = intsD m t ∧ (∀ k, k < m → 0 ≤ t k ∧ t k ≤ detN n (M k)) ∧ d3 = .int p ∧ p < m ∧ d4 = .lst (ls (2 ^ m) fun i => colD (F i)) ∧ d5 = colD g ∧ Cols m F g ∧
    ∀ r, Best (farU m (wOf n M) t p F g) (detN n (M p)) r → K (.ok (.val (.int r))) []
theorem shl_eq {m : Nat} {f : Nat → D} : (1 : Int) * 2 ^ ((((ls m f).length : Nat) : Int)).toNat = ((2 ^ m : Nat) : Int) := by
  rw [ls_len, Int.toNat_natCast, Int.one_mul]
  simp
theorem vc_best (h51 : Has G 51 sp_cstk) (h54 : Has G 54 sp_ctones) (h58 : Has G 58 sp_cnumber) (h61 : Has G 61 sp_ccols) (h62 : Has G 62 sp_cwish) (h66 : Has G 66 sp_gaps) (h69 : Has G 69 sp_idx) : ∀ bs K0, bs.length = 5 → sp_best bs K0 → ownPos 0 bs = [] ∧ rdDef ⟨G, [], none, sub⟩ ir_best_tone 16 bs K0 := by
  rintro bs K hl ⟨d1, d2, d3, d4, d5, rfl, hs, hK⟩
  rcases hK with ⟨hn, hE⟩ | ⟨m, n, M, hS, hK⟩
  · exact ⟨rfl, rfl, noB, cl ((h51 _ _).mpr ⟨d1, rfl, hs, fun q => absurd q hn, fun _ => ⟨rfl, rfl, hE⟩⟩)⟩
  refine ⟨rfl, rfl, noB, cl ((h51 _ _).mpr ⟨d1, rfl, hs, fun _ => ⟨noB, ?_⟩, fun q => absurd ⟨m, n, M, hS⟩ q⟩)⟩
  obtain ⟨hc, m6, n3⟩ := id hS
  have m1 := hc.m1
  have e1 := hc.e
  subst e1
  refine ⟨by rw [ls_len]; show m ≤ 16777216; omega, rfl, lc_ls (fun k => .int (detN n (M k))) (fun k hk kk hkk => ⟨rfl, rfl, noB, cl ((h69 _ _).mpr ⟨n, M k, rfl, hc.n1, hc.n2, hc.h k hk, (hc.det hk).2, noB, hkk⟩)⟩) ?_⟩
  refine ⟨rfl, rfl, rfl, noB, cl ((h54 _ _).mpr ⟨m, wOf n M, d2, rfl, by omega, ?_⟩)⟩
  rcases hK with ⟨e, hE⟩ | ⟨e, hK⟩
  · rw [e]; exact ⟨rfl, rfl, hE⟩
  rw [e]
  refine ⟨noB, rfl, noB, cl ((h58 _ _).mpr ⟨d3, 0, _, rfl, by rw [ls_len]; unfold BndOk; omega, ?_⟩)⟩
  rw [ls_len]
  rcases hK with ⟨_, e3, hE⟩ | ⟨e3, hK⟩
  · rw [e3]; exact ⟨rfl, rfl, hE⟩
  rw [e3 rfl]
  have h64 := pow6 m6
  refine ⟨noB, ⟨by rw [ls_len]; omega, by rw [ls_len]; omega, by decide⟩, rfl, noB, cl ((h61 _ _).mpr ⟨_, d4, rfl, ?_, ?_⟩)⟩
  · rw [shl_eq]; omega
  rw [shl_eq]
  rcases hK with ⟨e4, hE⟩ | ⟨e4, hK⟩
  · rw [e4]; exact ⟨rfl, rfl, hE⟩
  rw [e4]
  refine ⟨noB, rfl, noB, cl ((h62 _ _).mpr ⟨d5, rfl, ?_⟩)⟩
  rcases hK with ⟨e5, hE⟩ | ⟨e5, hK⟩
  · rw [e5]; exact ⟨rfl, rfl, hE⟩
  rw [e5]
  refine ⟨noB, ?_⟩
  obtain ⟨t, p, F, g, rfl, ht, rfl, hp, rfl, rfl, hC, hR⟩ := hK
  have hT := hS.ton ht
  have hwp := hc.det hp
  have cl0 := cut_to (n := m) (k := p) (f := fun k => D.int (t k)) (v := (p : Int)) rfl (by omega)
  have cl1 := cut_from (n := m) (k := p + 1) (f := fun k => D.int (t k)) (v := (p : Int) + 1) (by omega) (by omega)
  have lenA : ∀ x : Int, (cutL (ls m fun k => D.int (t k)) none (some (p : Int))).length + [D.int x].length ≤ LINE := fun x => by rw [cl0, ls_len]; show p + 1 ≤ 16777216; omega
  have lenB : ∀ x : Int, (cutL (ls m fun k => D.int (t k)) none (some (p : Int)) ++ [D.int x]).length + (cutL (ls m fun k => D.int (t k)) (some ((p : Int) + 1)) none).length ≤ LINE := fun x => by rw [cl0, cl1, List.length_append, ls_len, ls_len]; show p + 1 + (m - (p + 1)) ≤ 16777216; omega
  have eArg : ∀ x : Int, ([.val (intsD m (wOf n M)), .val (.lst (cutL (ls m fun k => D.int (t k)) none (some (p : Int)) ++ [D.int x] ++ cutL (ls m fun k => D.int (t k)) (some ((p : Int) + 1)) none)), .val (.lst (ls (2 ^ m) fun i => colD (F i))), .val (colD g)] : List B) = [.val (intsD m (wOf n M)), .val (intsD m (upd t p x)), .val (.lst (ls (2 ^ m) fun i => colD (F i))), .val (colD g)] := fun x => by rw [cut_upd hp]
  have T0 := ton_upd (p := p) (x := 0) hT (by omega) (by show (0 : Int) ≤ detN n (M p); omega)
  have T1 := ton_upd (p := p) (x := 1) hT (by omega) (by show (1 : Int) ≤ detN n (M p); omega)
  have bL := fun c (hc3 : c < 3) => gap_bound T0 hC hc3
  have bH := fun c (hc3 : c < 3) => gap_bound T1 hC hc3
  obtain ⟨L, hL⟩ : ∃ L : Nat → Int, L = gapN m (wOf n M) (upd t p 0) F g := ⟨_, rfl⟩
  obtain ⟨H, hH⟩ : ∃ H : Nat → Int, H = gapN m (wOf n M) (upd t p 1) F g := ⟨_, rfl⟩
  have hfar : farU m (wOf n M) t p F g = par (L 0) (L 1) (L 2) (H 0 - L 0) (H 1 - L 1) (H 2 - L 2) := by rw [far_par, hL, hH]
  rw [hfar] at hR
  rw [← hL] at bL
  rw [← hH] at bH
  have z3 : ∀ f g : Nat → D, (zipL (ls 3 f) (ls 3 g)).length ≤ LINE := fun f g => by rw [zip_ls, ls_len]; decide
  have lS : ∀ c, c < 3 → lg (H c - L c) ≤ 300 := fun c hc3 => by
    have := bL c hc3; have := bH c hc3
    exact lgB (by omega) (by omega)
  have lL : ∀ c, c < 3 → lg (L c) ≤ 300 := fun c hc3 => by
    have := bL c hc3
    exact lgB (by omega) (by omega)
  obtain ⟨bS, hbS⟩ : ∃ b : B, b = .val (.lst (ls m fun k => sqD n (M k))) := ⟨_, rfl⟩
  obtain ⟨bF, hbF⟩ : ∃ b : B, b = .val (.lst (ls (2 ^ m) fun i => colD (F i))) := ⟨_, rfl⟩
  refine seq_cut (fun ρ => ρ = [some (.val (.lst (ls m fun k => sqD n (M k)))), some (.val (intsD m t)), some (.val (.int p)), some (.val (.lst (ls (2 ^ m) fun i => colD (F i)))), some (.val (colD g)), some (.val (intsD m (wOf n M))), none, some (.own (ls 3 fun c => .int (L c))), none, none, none, none, none, none, none, none]) ?_ fun k hk => ⟨lenA 0, lenB 0, rfl, noB, cl ((h66 _ _).mpr ⟨m, wOf n M, upd t p 0, F, g, eArg 0, T0, hC, noB, rfl, by rw [← hL]; exact hk _ rfl⟩)⟩
  rintro ρ rfl
  refine seq_cut (fun ρ => ρ = [some (.val (.lst (ls m fun k => sqD n (M k)))), some (.val (intsD m t)), some (.val (.int p)), some (.val (.lst (ls (2 ^ m) fun i => colD (F i)))), some (.val (colD g)), some (.val (intsD m (wOf n M))), none, some (.own (ls 3 fun c => .int (L c))), some (.own (ls 3 fun c => .int (H c))), none, none, none, none, none, none, none]) ?_ fun k hk => ⟨lenA 1, lenB 1, rfl, noB, cl ((h66 _ _).mpr ⟨m, wOf n M, upd t p 1, F, g, eArg 1, T1, hC, noB, rfl, by rw [← hH]; exact hk _ rfl⟩)⟩
  rintro ρ rfl
  rw [← hbS, ← hbF]
  clear hbS hbF
  refine seq_cut (fun ρ => ρ = [some bS, some (.val (intsD m t)), some (.val (.int p)), some bF, some (.val (colD g)), some (.val (intsD m (wOf n M))), none, some (.val (.lst (ls 3 fun c => .int (L c)))), some (.val (.lst (ls 3 fun c => .int (H c)))), some (.own (ls 3 fun c => .int (H c - L c))), none, none, none, none, none, none]) ?_ fun k hk => ⟨rfl, rfl, z3 (fun c => .int (L c)) (fun c => .int (H c)), rfl, lc_zip (fun c => .int (H c - L c)) (fun c hc3 k hk => ⟨rfl, rfl, hk⟩) ⟨rfl, hk _ rfl⟩⟩
  rintro ρ rfl
  have ns1 : (ls 3 fun c => D.int ((H c - L c) * (H c - L c))) = [(H 0 - L 0) * (H 0 - L 0), (H 1 - L 1) * (H 1 - L 1), (H 2 - L 2) * (H 2 - L 2)].map D.int := rfl
  have ns2 : (ls 3 fun c => D.int (L c * (H c - L c))) = [L 0 * (H 0 - L 0), L 1 * (H 1 - L 1), L 2 * (H 2 - L 2)].map D.int := rfl
  refine seq_cut (fun ρ => ρ = [some bS, some (.val (intsD m t)), some (.val (.int p)), some bF, some (.val (colD g)), some (.val (intsD m (wOf n M))), none, some (.val (.lst (ls 3 fun c => .int (L c)))), some (.val (.lst (ls 3 fun c => .int (H c)))), some (.val (.lst (ls 3 fun c => .int (H c - L c)))), none, none, some (.val (.int (sq3 (H 0 - L 0) (H 1 - L 1) (H 2 - L 2)))), none, none, none]) ?_ fun k hk => ⟨rfl, by show (ls 3 fun c => D.int (H c - L c)).length ≤ LINE; rw [ls_len]; decide, rfl, lc_ls (fun c => .int ((H c - L c) * (H c - L c))) (fun c hc3 k hk => ⟨rfl, mulOk_of (lS c hc3) (lS c hc3), hk⟩) ⟨_, ns1, rfl, hk _ rfl⟩⟩
  rintro ρ rfl
  have l2 : lg 2 ≤ 5 := by decide +kernel
  have lQ : lg (sq3 (H 0 - L 0) (H 1 - L 1) (H 2 - L 2)) ≤ 603 := by
    have m0 := lg_mul (H 0 - L 0) (H 0 - L 0)
    have m1 := lg_mul (H 1 - L 1) (H 1 - L 1)
    have m2 := lg_mul (H 2 - L 2) (H 2 - L 2)
    have := lS 0 (by omega); have := lS 1 (by omega); have := lS 2 (by omega)
    exact lg_sum3 (k := 601) (by omega) (by omega) (by omega)
  have lB : lg (dt3 (L 0) (L 1) (L 2) (H 0 - L 0) (H 1 - L 1) (H 2 - L 2)) ≤ 603 := by
    have m0 := lg_mul (L 0) (H 0 - L 0)
    have m1 := lg_mul (L 1) (H 1 - L 1)
    have m2 := lg_mul (L 2) (H 2 - L 2)
    have := lS 0 (by omega); have := lS 1 (by omega); have := lS 2 (by omega)
    have := lL 0 (by omega); have := lL 1 (by omega); have := lL 2 (by omega)
    exact lg_sum3 (k := 601) (by omega) (by omega) (by omega)
  have flat := fun h0 => hR 0 (best_flat (w := detN n (M p)) (by omega) h0)
  have round := fun h0 => hR _ (best_round (w := detN n (M p)) (near := -((2 * dt3 (L 0) (L 1) (L 2) (H 0 - L 0) (H 1 - L 1) (H 2 - L 2) + sq3 (H 0 - L 0) (H 1 - L 1) (H 2 - L 2)).fdiv (2 * sq3 (H 0 - L 0) (H 1 - L 1) (H 2 - L 2)))) (by omega) h0 rfl)
  have eB : [L 0 * (H 0 - L 0), L 1 * (H 1 - L 1), L 2 * (H 2 - L 2)].sum = dt3 (L 0) (L 1) (L 2) (H 0 - L 0) (H 1 - L 1) (H 2 - L 2) := rfl
  obtain ⟨Q, hQ⟩ : ∃ Q, Q = sq3 (H 0 - L 0) (H 1 - L 1) (H 2 - L 2) := ⟨_, rfl⟩
  obtain ⟨D3, hD⟩ : ∃ D3, D3 = dt3 (L 0) (L 1) (L 2) (H 0 - L 0) (H 1 - L 1) (H 2 - L 2) := ⟨_, rfl⟩
  rw [← hQ] at lQ flat round ⊢
  rw [← hD] at lB round eB
  refine br_d (fun h0 => flat h0) (fun h0 => ?_)
  refine seq_cut (fun ρ => ρ = [some bS, some (.val (intsD m t)), some (.val (.int p)), some bF, some (.val (colD g)), some (.val (intsD m (wOf n M))), none, some (.val (.lst (ls 3 fun c => .int (L c)))), some (.val (.lst (ls 3 fun c => .int (H c)))), some (.val (.lst (ls 3 fun c => .int (H c - L c)))), none, none, some (.val (.int Q)), none, some (.val (.int D3)), none]) ?_ fun k hk => ⟨z3 (fun c => .int (L c)) (fun c => .int (H c - L c)), rfl, lc_zip (fun c => .int (L c * (H c - L c))) (fun c hc3 k hk => ⟨rfl, rfl, mulOk_of (lL c hc3) (lS c hc3), hk⟩) ⟨_, ns2, rfl, hk _ (by rw [eB]; rfl)⟩⟩
  rintro ρ rfl
  have ep := ls_at (n := m) (f := fun k => D.int (detN n (M k))) (j := (p : Int)) (by omega) (by omega)
  rw [Int.toNat_natCast] at ep
  refine ⟨mulOk_of l2 lB, mulOk_of l2 lQ, ⟨?_, ?_⟩, rfl, rfl, _, ep, round h0⟩
  · intro h
    exact h0 (by have h : 2 * Q = 0 := h; omega)
  · have := lg_mul 2 Q
    show lg (2 * Q) < 9000
    omega
def sp_dist : DSp := fun bs K => ∃ d1 d2 d4 d5 : D, bs = [.val d1, .val d2, .val d4, .val d5] ∧ Sm 4 d1 ∧
  Ask false d1 d2 .non d4 d5 (fun c => K (.err c) []) fun m n M => ∃ (t : Nat → Int) (F : Nat → Nat → Int) (g : Nat → Int), d2 = intsD m t ∧ (∀ k, k < m → 0 ≤ t k ∧ t k ≤ detN n (M k)) ∧ d4 = .lst (ls (2 ^ m) fun i => colD (F i)) ∧ d5 = colD g ∧ Cols m F g ∧
    K (.ok (.val (.int (farN m (wOf n M) t F g)))) []
theorem vc_dist (h51 : Has G 51 sp_cstk) (h54 : Has G 54 sp_ctones) (h61 : Has G 61 sp_ccols) (h62 : Has G 62 sp_cwish) (h69 : Has G 69 sp_idx) (h71 : Has G 71 sp_squared) : ∀ bs K0, bs.length = 4 → sp_dist bs K0 → ownPos 0 bs = [] ∧ rdDef ⟨G, [], none, sub⟩ ir_distance 6 bs K0 := by
  rintro bs K hl ⟨d1, d2, d4, d5, rfl, hs, hK⟩
  rcases hK with ⟨hn, hE⟩ | ⟨m, n, M, hS, hK⟩
  · exact ⟨rfl, rfl, noB, cl ((h51 _ _).mpr ⟨d1, rfl, hs, fun q => absurd q hn, fun _ => ⟨rfl, rfl, hE⟩⟩)⟩
  refine ⟨rfl, rfl, noB, cl ((h51 _ _).mpr ⟨d1, rfl, hs, fun _ => ⟨noB, ?_⟩, fun q => absurd ⟨m, n, M, hS⟩ q⟩)⟩
  obtain ⟨hc, m6, n3⟩ := id hS
  have m1 := hc.m1
  have e1 := hc.e
  subst e1
  refine ⟨by rw [ls_len]; show m ≤ 16777216; omega, rfl, lc_ls (fun k => .int (detN n (M k))) (fun k hk kk hkk => ⟨rfl, rfl, noB, cl ((h69 _ _).mpr ⟨n, M k, rfl, hc.n1, hc.n2, hc.h k hk, (hc.det hk).2, noB, hkk⟩)⟩) ?_⟩
  refine ⟨rfl, rfl, rfl, noB, cl ((h54 _ _).mpr ⟨m, wOf n M, d2, rfl, by omega, ?_⟩)⟩
  rcases hK with ⟨e, hE⟩ | ⟨e, hK⟩
  · rw [e]; exact ⟨rfl, rfl, hE⟩
  rw [e]
  rcases hK with ⟨e3, _⟩ | ⟨_, hK⟩
  · cases e3
  have h64 := pow6 m6
  refine ⟨noB, ⟨by rw [ls_len]; omega, by rw [ls_len]; omega, by decide⟩, rfl, noB, cl ((h61 _ _).mpr ⟨_, d4, rfl, ?_, ?_⟩)⟩
  · rw [shl_eq]; omega
  rw [shl_eq]
  rcases hK with ⟨e4, hE⟩ | ⟨e4, hK⟩
  · rw [e4]; exact ⟨rfl, rfl, hE⟩
  rw [e4]
  refine ⟨noB, rfl, noB, cl ((h62 _ _).mpr ⟨d5, rfl, ?_⟩)⟩
  rcases hK with ⟨e5, hE⟩ | ⟨e5, hK⟩
  · rw [e5]; exact ⟨rfl, rfl, hE⟩
  rw [e5]
  obtain ⟨t, F, g, rfl, ht, rfl, rfl, hC, hR⟩ := hK
  exact ⟨noB, rfl, noB, cl ((h71 _ _).mpr ⟨m, wOf n M, t, F, g, rfl, hS.ton ht, hC, noB, hR⟩)⟩
end
end K78
end
section
set_option Elab.async false
set_option maxRecDepth 100000
set_option linter.all false
set_option maxHeartbeats 4000000
/-! K78P4: the law's own distance, its judge, equality. -/
namespace K78
open PySem DV
theorem sum_ls {n : Nat} {f : Nat → Int} : (ls n f).sum = sumN n f := by
  induction n with
  | zero => rfl
  | succ n ih =>
    rw [← ls_snoc, List.sum_append, ih]
    show sumN n f + (f n + 0) = sumN n f + f n
    rw [Int.add_zero]
theorem at_ls {α : Type} {n i : Nat} {f : Nat → α} (h : i < n) : L2.atI (ls n f) (0 + (i : Int) * 1) = some (f i) := by
  rw [ls_at (by omega) (by omega)]
  congr 2
  omega
section
variable {G : Nat → DSp} {sub : Nat → Nat → Option Bool}
structure Far (m n : Nat) (M : Nat → Nat → Nat → Int) (t : Nat → Int) (F : Nat → Nat → Int) (g : Nat → Int) : Prop where
  n18 : n ≤ 18
  h : ∀ k, k < m → Hnf n (M k)
  t : Ton m (wOf n M) t
  c : Cols m F g
def farArgs (m n : Nat) (M : Nat → Nat → Nat → Int) (t : Nat → Int) (F : Nat → Nat → Int) (g : Nat → Int) : List B := [.val (.lst (ls m fun k => sqD n (M k))), .val (intsD m t), .val (.lst (ls (2 ^ m) fun i => colD (F i))), .val (colD g)]
def sp_lfar : DSp := fun bs K => ∃ (m n : Nat) (M : Nat → Nat → Nat → Int) (t : Nat → Int) (F : Nat → Nat → Int) (g : Nat → Int), bs = farArgs m n M t F g ∧ Far m n M t F g ∧ K (.ok (.val (.int (farN m (wOf n M) t F g)))) []
theorem vc_lfar (h10 : Has G 10 sp_index) : ∀ bs K0, bs.length = 4 → sp_lfar bs K0 → ownPos 0 bs = [] ∧ rdDef ⟨G, [], none, sub⟩ ir_law_far 13 bs K0 := by
  rintro bs K hl ⟨m, n, M, t, F, g, rfl, ⟨hn, hh, ht, hC⟩, hK⟩
  have m6 := hC.m6
  refine ⟨rfl, rfl, rfl, ⟨by rw [ls_len]; omega, by rw [ls_len]; omega⟩, ?_⟩
  rw [ls_len, Int.toNat_natCast]
  obtain ⟨bS, hbS⟩ : ∃ b : B, b = .val (.lst (ls m fun k => sqD n (M k))) := ⟨_, rfl⟩
  refine for_rng (fun k ρ => ∃ z6 z7 : Option B, ρ = [some (.val (.lst (ls m fun k => sqD n (M k)))), some (.val (intsD m t)), some (.val (.lst (ls (2 ^ m) fun i => colD (F i)))), some (.val (colD g)), some (.own (ls (2 ^ k) fun i => .int (W (wOf n M) t k i))), some (.val (.int (prodN k (wOf n M)))), z6, z7, none, none, none, none, none]) ⟨none, none, rfl⟩ ?_ ?_
  · rintro k ρ hk ⟨z6, z7, rfl⟩ kk hkk
    have h64 : 2 ^ k ≤ 64 := pow6 (by omega)
    have hw := ht.w1 k hk
    have hw2 := ht.wk hk
    have htk := ht.t0 k hk
    have hpk := ht.up (k := k) (by omega)
    have hW : ∀ i, lg (W (wOf n M) t k i) ≤ 300 := fun i => by
      have := W_bound ht k (by omega) i
      exact lgB (by omega) (by omega)
    refine ⟨rfl, rfl, _, at_ls hk, rfl, noB, cl ((h10 _ _).mpr ⟨n, M k, rfl, by omega, fun i hi => (hh k hk).pos i hi, hw2, noB, rfl, ?_⟩)⟩
    have et := at_ls (f := fun k => D.int (t k)) hk
    refine ⟨rfl, by rw [ls_len]; show 2 ^ k ≤ 16777216; omega, rfl, lc_ls (fun i => .int (W (wOf n M) t k i * (wOf n M k - t k))) (fun i hi k' hk' => ⟨rfl, rfl, _, et, mulOk_of (hW i) (lgB (by show _ ≤ wOf n M k - t k; omega) (by show wOf n M k - t k ≤ _; omega)), hk'⟩) ?_⟩
    refine ⟨by rw [ls_len]; show 2 ^ k ≤ 16777216; omega, rfl, lc_ls (fun i => .int (W (wOf n M) t k i * t k)) (fun i hi k' hk' => ⟨rfl, rfl, _, et, mulOk_of (hW i) (lgB (by omega) (by omega)), hk'⟩) ⟨by rw [ls_len, ls_len]; show 2 ^ k + 2 ^ k ≤ 16777216; omega, rfl, mulOk_of (lgB (by omega) (by omega)) (lgB (by show _ ≤ wOf n M k; omega) (by show wOf n M k ≤ _; omega)), rfl, hkk _ ⟨some (.val (.int (0 + (k : Int) * 1))), some (.val (.int (detN n (M k)))), ?_⟩⟩⟩
    have e : (ls (2 ^ k) fun i => D.int (W (wOf n M) t k i * (wOf n M k - t k))) ++ (ls (2 ^ k) fun i => D.int (W (wOf n M) t k i * t k)) = ls (2 ^ (k + 1)) fun i => .int (W (wOf n M) t (k + 1) i) := by
      rw [ls_app, show 2 ^ k + 2 ^ k = 2 ^ (k + 1) by rw [Nat.pow_succ]; omega]
      refine ls_congr fun i hi => ?_
      show (if i < 2 ^ k then D.int (W (wOf n M) t k i * (wOf n M k - t k)) else D.int (W (wOf n M) t k (i - 2 ^ k) * t k)) = .int (if i < 2 ^ k then W (wOf n M) t k i * (wOf n M k - t k) else W (wOf n M) t k (i - 2 ^ k) * t k)
      split <;> rfl
    rw [← e]
    rfl
  · rintro ρ ⟨z6, z7, rfl⟩
    have h64 : 2 ^ m ≤ 64 := pow6 m6
    have hpm := ht.up (Nat.le_refl m)
    obtain ⟨fs, hfs⟩ : ∃ fs : Nat → Int, fs = fun c => sumN c fun c => gapN m (wOf n M) t F g c * gapN m (wOf n M) t F g c := ⟨_, rfl⟩
    refine ⟨rfl, ⟨by decide, by decide⟩, ?_⟩
    refine for_rng (fun c ρ => ∃ z10 z11 : Option B, ρ = [some (.val (.lst (ls m fun k => sqD n (M k)))), some (.val (intsD m t)), some (.val (.lst (ls (2 ^ m) fun i => colD (F i)))), some (.val (colD g)), some (.own (ls (2 ^ m) fun i => .int (W (wOf n M) t m i))), some (.val (.int (prodN m (wOf n M)))), z6, z7, none, some (.val (.int (fs c))), z10, z11, none]) ⟨none, none, by rw [hfs]; rfl⟩ ?_ ?_
    · rintro c ρ hc ⟨z10, z11, rfl⟩ k hk
      have hc3 : c < 3 := hc
      have hW : ∀ i, lg (W (wOf n M) t m i) ≤ 300 := fun i => by
        have := W_bound ht m (Nat.le_refl m) i
        exact lgB (by omega) (by omega)
      have hgap := gap_bound ht hC hc3
      have hg := hC.g c hc3
      have a1 : (0 : Int) ≤ ((2 ^ m : Nat) : Int) := Int.natCast_nonneg _
      have a2 : ((2 ^ m : Nat) : Int) ≤ 64 := Int.ofNat_le.mpr h64
      refine ⟨rfl, ⟨by rw [ls_len]; omega, by rw [ls_len]; omega⟩, by rw [rngL_size, ls_len, Int.toNat_natCast]; show 2 ^ m ≤ 16777216; omega, rfl, ?_⟩
      rw [ls_len, Int.toNat_natCast]
      refine lc_rg (fun i => .int (W (wOf n M) t m i * F i c)) (fun i hi k' hk' => ?_) ?_
      · have hF := hC.F i hi c hc3
        exact ⟨rfl, rfl, _, at_ls hi, rfl, _, at_ls hi, _, at_ls hc3, mulOk_of (hW i) (lgB (by omega) (by omega)), hk'⟩
      · refine ⟨ls (2 ^ m) fun i => W (wOf n M) t m i * F i c, by rw [ls_map], ?_⟩
        rw [sum_ls]
        refine ⟨rfl, _, at_ls hc3, mulOk_of (lgB (by omega) (by omega)) (lgB (by omega) (by omega)), rfl, mulOk_of (lgB (by show _ ≤ gapN m (wOf n M) t F g c; omega) (by show gapN m (wOf n M) t F g c ≤ _; omega)) (lgB (by show _ ≤ gapN m (wOf n M) t F g c; omega) (by show gapN m (wOf n M) t F g c ≤ _; omega)), rfl, hk _ ⟨some (.val (.int (0 + (c : Int) * 1))), some (.val (.int (gapN m (wOf n M) t F g c))), ?_⟩⟩
        have efs : fs (c + 1) = fs c + gapN m (wOf n M) t F g c * gapN m (wOf n M) t F g c := by rw [hfs]; rfl
        rw [efs]
        rfl
    · rintro ρ ⟨z10, z11, rfl⟩
      have e : fs (Int.toNat 3) = farN m (wOf n M) t F g := by
        rw [hfs]
        show 0 + gapN m (wOf n M) t F g 0 * gapN m (wOf n M) t F g 0 + gapN m (wOf n M) t F g 1 * gapN m (wOf n M) t F g 1 + gapN m (wOf n M) t F g 2 * gapN m (wOf n M) t F g 2 = _
        unfold farN
        omega
      rw [e]
      exact hK
def sp_isbest : DSp := fun bs K => ∃ (m n : Nat) (M : Nat → Nat → Nat → Int) (t : Nat → Int) (F : Nat → Nat → Int) (g : Nat → Int) (p : Nat) (r : Int), bs = [.val (.lst (ls m fun k => sqD n (M k))), .val (intsD m t), .val (.int p), .val (.lst (ls (2 ^ m) fun i => colD (F i))), .val (colD g), .val (.int r)] ∧ Far m n M t F g ∧ p < m ∧ Best (farU m (wOf n M) t p F g) (detN n (M p)) r ∧ K (.ok (.val (.bl true))) []
theorem vc_isbest (h10 : Has G 10 sp_index) (h31 : Has G 31 sp_with) (h33 : Has G 33 sp_isnum) (h76 : Has G 76 sp_lfar) : ∀ bs K0, bs.length = 6 → sp_isbest bs K0 → ownPos 0 bs = [] ∧ rdDef ⟨G, [], none, sub⟩ ir_law_is_best 10 bs K0 := by
  rintro bs K hl ⟨m, n, M, t, F, g, p, r, rfl, hF, hp, ⟨r0, r1, hB⟩, hK⟩
  obtain ⟨hn, hh, ht, hC⟩ := id hF
  have hw := ht.w1 p hp
  have hw2 := ht.wk hp
  have ep := ls_at (n := m) (f := fun k => sqD n (M k)) (j := (p : Int)) (by omega) (by omega)
  rw [Int.toNat_natCast] at ep
  obtain ⟨f, hf⟩ : ∃ f : Int → Int, f = farU m (wOf n M) t p F g := ⟨_, rfl⟩
  rw [← hf] at hB
  have eArg : ∀ x : Int, ([.val (.lst (ls m fun k => sqD n (M k))), .val (.lst ((ls m fun k => D.int (t k)).set (p : Int).toNat (.int x))), .val (.lst (ls (2 ^ m) fun i => colD (F i))), .val (colD g)] : List B) = farArgs m n M (upd t p x) F g := fun x => by
    rw [Int.toNat_natCast, set_upd]
    rfl
  have hFar : ∀ x, 0 ≤ x → x ≤ detN n (M p) → Far m n M (upd t p x) F g := fun x h0 h1 => ⟨hn, hh, ton_upd ht h0 h1, hC⟩
  have eF : ∀ x, farN m (wOf n M) (upd t p x) F g = f x := fun x => by rw [hf]; rfl
  have plen : (p : Int) < ((ls m fun k => D.int (t k)).length : Nat) := by rw [ls_len]; omega
  refine ⟨rfl, rfl, _, ep, rfl, noB, cl ((h10 _ _).mpr ⟨n, M p, rfl, by omega, fun i hi => (hh p hp).pos i hi, hw2, noB, rfl, ?_⟩)⟩
  refine ⟨rfl, noB, cl ((h33 _ _).mpr ⟨_, rfl, noB, trivial, br_f rfl (br_d (fun _ => br_n (fun h => absurd r1 h) (fun _ => ?_)) (fun h => absurd r0 h))⟩)⟩
  obtain ⟨wp, hwp⟩ : ∃ wp, wp = detN n (M p) := ⟨_, rfl⟩
  have hw : 1 ≤ wp := by rw [hwp]; exact hw
  have hw2 : wp ≤ 10 ^ 60 := by rw [hwp]; exact hw2
  rw [← hwp] at r1 hB hFar ⊢
  refine br_d (fun h24 => ?_) (fun h24 => ?_)
  · refine ⟨⟨by omega, by omega⟩, by rw [rngL_size]; show (wp + 1).toNat ≤ 16777216; omega, rfl, lc_rg (fun x => .int (f x)) (fun x hx k hk => ?_) ?_⟩
    · have hx2 : (x : Int) ≤ wp := by omega
      have ex : (0 + (x : Int) * 1) = (x : Int) := by omega
      rw [ex]
      exact ⟨rfl, rfl, noB, cl ((h31 _ _).mpr ⟨false, _, (p : Int), .int x, rfl, by omega, plen, noB, rfl, noB, cl ((h76 _ _).mpr ⟨m, n, M, upd t p x, F, g, eArg x, hFar x (by omega) hx2, noB, by rw [eF]; exact hk⟩)⟩)⟩
    · have ens : (ls (wp + 1).toNat fun x => D.int (f x)) = (ls (wp + 1).toNat fun x => f x).map D.int := by rw [ls_map]
      obtain ⟨rn, hrn⟩ : ∃ rn : Nat, r = rn := ⟨r.toNat, by omega⟩
      subst hrn
      refine ⟨rfl, rfl, rfl, ls (wp + 1).toNat fun x => f x, ens, by rw [ls_len]; omega, fun mm hm hall => ⟨ls (wp + 1).toNat fun x => f x, ens, rn, ?_, ?_, ?_⟩⟩
      · obtain ⟨x, hx, rfl⟩ := ls_mem.mp hm
        have a1 := hall (f rn) (ls_mem.mpr ⟨rn, by omega, rfl⟩)
        have a2 := (hB x (by omega) (by omega)).1
        rw [ls_get (by omega)]
        congr 1
        omega
      · intro y z hy hz
        obtain ⟨x, hx, rfl⟩ := ls_mem.mp hm
        obtain ⟨hy2, rfl⟩ := ls_at_ix hz
        have a1 := hall (f rn) (ls_mem.mpr ⟨rn, by omega, rfl⟩)
        have a2 := (hB y (by omega) (by omega)).2 (by omega)
        omega
      · show K (.ok (.val (.bl (decide ((rn : Int) = (rn : Int)))))) _
        rw [decide_eq_true rfl]
        exact hK
  · have call : ∀ (x : Int), 0 ≤ x → x ≤ wp → G 76 ([.val (.lst (ls m fun k => sqD n (M k))), .val (.lst ((ls m fun k => D.int (t k)).set (p : Int).toNat (.int x))), .val (.lst (ls (2 ^ m) fun i => colD (F i))), .val (colD g)]) fun o os => o = .ok (.val (.int (f x))) := fun x h0 h1 => (h76 _ _).mpr ⟨m, n, M, upd t p x, F, g, by rw [← eArg]; rfl, hFar x h0 h1, by rw [eF]⟩
    refine seq_cut (fun ρ => ρ = [some (.val (.lst (ls m fun k => sqD n (M k)))), some (.val (intsD m t)), some (.val (.int p)), some (.val (.lst (ls (2 ^ m) fun i => colD (F i)))), some (.val (colD g)), some (.val (.int r)), some (.val (.int wp)), none, none, some (.val (.int (f r)))]) ?_ fun k hk => ⟨rfl, noB, cl ((h31 _ _).mpr ⟨false, _, (p : Int), .int r, rfl, by omega, plen, noB, rfl, noB, _, call r r0 r1, ?_⟩)⟩
    rotate_left
    · rintro o os rfl
      exact ⟨noB, rfl, hk _ rfl⟩
    rintro ρ rfl
    refine seq_cut (fun ρ => ρ = [some (.val (.lst (ls m fun k => sqD n (M k)))), some (.val (intsD m t)), some (.val (.int p)), some (.val (.lst (ls (2 ^ m) fun i => colD (F i)))), some (.val (colD g)), some (.val (.int r)), some (.val (.int wp)), none, none, some (.val (.int (f r)))]) ?_ fun k hk => br_d (fun hlt => ⟨rfl, noB, cl ((h31 _ _).mpr ⟨false, _, (p : Int), .int (r + 1), rfl, by omega, plen, noB, rfl, noB, _, call (r + 1) (by omega) (by omega), ?_⟩)⟩) (fun _ => hk _ rfl)
    rotate_left
    · rintro o os rfl
      have := (hB (r + 1) (by omega) (by omega)).1
      exact ⟨noB, br_d (fun h => absurd h (by omega)) (fun _ => hk _ rfl)⟩
    rintro ρ rfl
    refine br_d (fun h => hK) (fun h => ⟨rfl, noB, cl ((h31 _ _).mpr ⟨false, _, (p : Int), .int (r - 1), rfl, by omega, plen, noB, rfl, noB, _, call (r - 1) (by omega) (by omega), ?_⟩)⟩)
    rintro o os rfl
    have h : ¬ r = 0 := h
    have := (hB (r - 1) (by omega) (by omega)).2 (by omega)
    refine ⟨noB, ?_⟩
    show K (.ok (.val (.bl (decide (f r < f (r - 1)))))) _
    rw [decide_eq_true this]
    exact hK
end
end K78
end
section
set_option Elab.async false
set_option maxRecDepth 100000
set_option linter.all false
set_option maxHeartbeats 4000000
/-! K78P5: equality, refusals. -/
namespace K78
open PySem DV
mutual
def szD : D → Nat
  | .lst xs => 1 + szL xs
  | .tup xs => 1 + szL xs
  | _ => 1
def szL : List D → Nat
  | [] => 0
  | x :: xs => szD x + szL xs
end
mutual
def okD : D → Prop
  | .lst xs => okL xs
  | .tup xs => okL xs
  | .int i => lg i < 1920
  | .str _ => False
  | _ => True
def okL : List D → Prop
  | [] => True
  | x :: xs => okD x ∧ okL xs
end
theorem szL_app : ∀ {xs ys : List D}, szL (xs ++ ys) = szL xs + szL ys
  | [], ys => by show szL ys = 0 + szL ys; omega
  | x :: xs, ys => by
    show szD x + szL (xs ++ ys) = szD x + szL xs + szL ys
    rw [szL_app]; omega
theorem okL_app : ∀ {xs ys : List D}, okL (xs ++ ys) ↔ okL xs ∧ okL ys
  | [], ys => by show okL ys ↔ True ∧ okL ys; simp
  | x :: xs, ys => by
    show okD x ∧ okL (xs ++ ys) ↔ (okD x ∧ okL xs) ∧ okL ys
    rw [okL_app, and_assoc]
theorem szL_len : ∀ {xs : List D}, xs.length ≤ szL xs
  | [] => Nat.le_refl 0
  | x :: xs => by
    have h1 := szL_len (xs := xs)
    have h2 : 1 ≤ szD x := by cases x <;> (unfold szD; omega)
    show xs.length + 1 ≤ szD x + szL xs
    omega
theorem szL_ls {n b : Nat} {f : Nat → D} (h : ∀ i, i < n → szD (f i) ≤ b) : szL (ls n f) ≤ n * b := by
  induction n with
  | zero => show 0 ≤ _; omega
  | succ n ih =>
    rw [← ls_snoc, szL_app]
    have h1 := ih fun i hi => h i (by omega)
    have h2 := h n (by omega)
    show szL (ls n f) + (szD (f n) + 0) ≤ _
    rw [Nat.succ_mul]
    omega
theorem okL_ls {n : Nat} {f : Nat → D} (h : ∀ i, i < n → okD (f i)) : okL (ls n f) := by
  induction n with
  | zero => trivial
  | succ n ih =>
    rw [← ls_snoc, okL_app]
    exact ⟨ih fun i hi => h i (by omega), h n (by omega), trivial⟩
theorem chr_lt (c : Char) : c.toNat < 0x110000 := by
  rcases c.valid with h | h
  · have h : c.val.toNat < 0xd800 := h
    show c.val.toNat < _
    omega
  · exact h.2
theorem eqOk_of (s : String) : EqOk (.str (Str.ofString s)) := by
  have h : PyData.strOk (Str.ofString s) = true := by
    rw [Str.ofString_eq_toList]
    unfold PyData.strOk
    rw [← Array.all_toList]
    refine List.all_eq_true.mpr fun x hx => ?_
    obtain ⟨c, _, rfl⟩ := List.mem_map.mp hx
    exact decide_eq_true (chr_lt c)
  show (PyData.strOk (Str.ofString s) && _) = true
  rw [h]
  rfl
section
variable {G : Nat → DSp} {sub : Nat → Nat → Option Bool}
def two (d : D) : D := .tup [d, d]
def sp_eq : DSp := fun bs K => ∃ d : D, bs = [.val d, .val d] ∧ okD d ∧ szD d ≤ 10 ^ 6 ∧ K (.ok (.val (.bl true))) []
theorem vc_eq : ∀ bs K0, bs.length = 2 → sp_eq bs K0 → ownPos 0 bs = [] ∧ rdDef ⟨G, [], none, sub⟩ ir_law_equal 6 bs K0 := by
  rintro bs K hl ⟨d0, rfl, hok, hsz, hK⟩
  refine ⟨rfl, rfl, fun mm ρ => ∃ (ds : List D) (z3 z4 : Option B), okL ds ∧ szL ds = mm ∧ mm ≤ 10 ^ 6 ∧ ρ = [some (.val d0), some (.val d0), some (.own (ds.map two)), z3, z4, none], ⟨szD d0, [d0], none, none, ⟨hok, trivial⟩, rfl, hsz, rfl⟩, ?_⟩
  rintro mm ρ ⟨ds, z3, z4, h1, h2, h3, rfl⟩
  refine ⟨trivial, ?_⟩
  rcases List.eq_nil_or_concat ds with rfl | ⟨ds, d, rfl⟩
  · exact hK
  rw [List.concat_eq_append] at h1 h2 ⊢
  rw [List.map_append]
  obtain ⟨h1a, h1b, _⟩ := okL_app.mp h1
  rw [szL_app] at h2
  have h2 : szL ds + (szD d + 0) = mm := h2
  have e0 : (!((ds.map two ++ [d].map two).isEmpty)) = true := by
    cases ds <;> rfl
  refine br_t e0 ?_
  have e1 : (ds.map two ++ [d].map two)[(ds.map two ++ [d].map two).length - 1]? = some (.tup [d, d]) := by
    rw [List.length_append]
    show (ds.map two ++ [two d])[(ds.map two).length + 1 - 1]? = _
    rw [Nat.add_sub_cancel, List.getElem?_append_right (Nat.le_refl _), Nat.sub_self]
    rfl
  have e2 : (ds.map two ++ [d].map two).dropLast = ds.map two := by
    show (ds.map two ++ [two d]).dropLast = _
    rw [List.dropLast_concat]
  refine seq_cut (fun ρ => ρ = [some (.val d0), some (.val d0), some (.own (ds.map two)), some (.val d), some (.val d), none]) ?_ fun k hk => ⟨_, e1, rfl, rfl, hk _ (by rw [e2]; rfl)⟩
  rintro ρ rfl
  have leaf : szL ds < mm ∧ (∃ (ds' : List D) (z3 z4 : Option B), okL ds' ∧ szL ds' = szL ds ∧ szL ds ≤ 10 ^ 6 ∧ [some (.val d0), some (.val d0), some (.own (ds.map two)), some (.val d), some (.val d), none] = [some (.val d0), some (.val d0), some (.own (ds'.map two)), z3, z4, none]) := by
    have : 1 ≤ szD d := by cases d <;> (unfold szD; omega)
    exact ⟨by omega, ds, _, _, h1a, rfl, by omega, rfl⟩
  have same : ∀ b : Bool, (b == b) = true := fun b => by cases b <;> rfl
  rcases sq_or d with ⟨b, xs, rfl⟩ | hno
  · have hx : szD (sq b xs) = 1 + szL xs := by cases b <;> rfl
    have ho : okL xs := by cases b <;> exact h1b
    have hl := szL_len (xs := xs)
    have hl2 := szL_len (xs := ds)
    have e3 : (ls xs.length fun i => D.tup [xs.getD i .non, xs.getD i .non]) = xs.map two := by
      have h := ls_of xs D.non
      have h2 := congrArg (List.map two) h
      rw [ls_map] at h2
      exact h2.symm
    have stp : szL (ds ++ xs) < mm ∧ (∃ (ds' : List D) (z3 z4 : Option B), okL ds' ∧ szL ds' = szL (ds ++ xs) ∧ szL (ds ++ xs) ≤ 10 ^ 6 ∧ [some (.val d0), some (.val d0), some (.own (ds.map two ++ ls xs.length fun i => D.tup [xs.getD i .non, xs.getD i .non])), some (.val (sq b xs)), some (.val (sq b xs)), none] = [some (.val d0), some (.val d0), some (.own (ds'.map two)), z3, z4, none]) := by
      rw [szL_app]
      refine ⟨by omega, ds ++ xs, some (.val (sq b xs)), some (.val (sq b xs)), okL_app.mpr ⟨h1a, ho⟩, szL_app, by omega, ?_⟩
      rw [e3, List.map_append]
    have at1 : ∀ i, i < xs.length → L2.atI xs (0 + (i : Int) * 1) = some (xs.getD i .non) := fun i hi => by
      have h := at_ls (f := fun i => xs.getD i .non) hi
      rw [← ls_of xs D.non] at h
      exact h
    cases b
    all_goals
      refine ⟨trivial, br_t rfl ⟨rfl, rfl, br_f rfl ⟨trivial, br_f rfl (br_n (fun h => absurd rfl h) fun _ => ?_)⟩⟩⟩
      refine ⟨rfl, ⟨by omega, by omega⟩, by rw [rngL_size, Int.toNat_natCast]; show xs.length ≤ 16777216; omega, rfl, ?_⟩
      rw [Int.toNat_natCast]
      refine lc_rg (fun i => .tup [xs.getD i .non, xs.getD i .non]) (fun i hi k hk => ⟨rfl, rfl, _, at1 i hi, rfl, _, at1 i hi, hk⟩) ⟨by rw [List.length_map, ls_len]; show ds.length + xs.length ≤ 16777216; omega, _, stp⟩
  · refine ⟨trivial, ?_⟩
    cases d with
    | lst xs => exact absurd rfl (hno false xs)
    | tup xs => exact absurd rfl (hno true xs)
    | str x => exact h1b.elim
    | non =>
      have e : (!(reprD .non == reprD .non)) = false := by simp
      exact br_f rfl ⟨trivial, trivial, eqOk_of _, eqOk_of _, br_f e ⟨_, leaf⟩⟩
    | bl b =>
      have e : (!(reprD (.bl b) == reprD (.bl b))) = false := by simp
      cases b
      · exact br_f rfl ⟨trivial, br_f rfl ⟨trivial, trivial, eqOk_of _, eqOk_of _, br_f e ⟨_, leaf⟩⟩⟩
      · exact br_f rfl ⟨trivial, br_f rfl ⟨trivial, trivial, eqOk_of _, eqOk_of _, br_f e ⟨_, leaf⟩⟩⟩
    | int i =>
      have e : (!(reprD (.int i) == reprD (.int i))) = false := by simp
      exact br_f rfl ⟨trivial, br_f rfl ⟨h1b, h1b, eqOk_of _, eqOk_of _, br_f e ⟨_, leaf⟩⟩⟩
theorem Ask.mono {best : Bool} {d1 d2 d3 d4 d5 : D} {E E' : Nat → Prop} {R R' : Nat → Nat → (Nat → Nat → Nat → Int) → Prop} (hE : ∀ c, c = 5 ∨ c = 1 ∨ c = 6 → E c → E' c) (hR : ∀ m n M, R m n M → R' m n M) (h : Ask best d1 d2 d3 d4 d5 E R) : Ask best d1 d2 d3 d4 d5 E' R' := by
  rcases h with ⟨hn, he⟩ | ⟨m, n, M, hS, h⟩
  · exact .inl ⟨hn, hE 5 (by omega) he⟩
  refine .inr ⟨m, n, M, hS, ?_⟩
  rcases h with ⟨e, he⟩ | ⟨e, h⟩
  · exact .inl ⟨e, hE 1 (by omega) he⟩
  refine .inr ⟨e, ?_⟩
  rcases h with ⟨b, e, he⟩ | ⟨e, h⟩
  · exact .inl ⟨b, e, hE 1 (by omega) he⟩
  refine .inr ⟨e, ?_⟩
  rcases h with ⟨e, he⟩ | ⟨e, h⟩
  · exact .inl ⟨e, hE 6 (by omega) he⟩
  refine .inr ⟨e, ?_⟩
  rcases h with ⟨e, he⟩ | ⟨e, h⟩
  · exact .inl ⟨e, hE 6 (by omega) he⟩
  exact .inr ⟨e, hR m n M h⟩
def flg (c : Nat) : List D := [.bl (c == 5), .bl (c == 1), .bl (c == 6), .bl false, .bl true]
def sp_refd : DSp := fun bs K => ∃ (wh : Int) (d1 d2 d3 d4 d5 : D), bs = [.val (.int wh), .val d1, .val d2, .val d3, .val d4, .val d5] ∧ Sm 4 d1 ∧
  ((wh = 0 ∧ Ask true d1 d2 d3 d4 d5 (fun c => K (.ok (.own (flg c))) []) fun _ _ _ => False) ∨ (wh ≠ 0 ∧ Ask false d1 d2 .non d4 d5 (fun c => K (.ok (.own (flg c))) []) fun _ _ _ => False))
theorem vc_refd (h70 : Has G 70 sp_best) (h72 : Has G 72 sp_dist) : ∀ bs K0, bs.length = 6 → sp_refd bs K0 → ownPos 0 bs = [] ∧ rdDef ⟨G, [], none, subOf env sb⟩ ir_law_refused 8 bs K0 := by
  rintro bs K hl ⟨wh, d1, d2, d3, d4, d5, rfl, hs, hK⟩
  rcases hK with ⟨h0, hA⟩ | ⟨h0, hA⟩
  · refine ⟨rfl, br_d (fun _ => ?_) (fun h => absurd h0 h)⟩
    refine ⟨rfl, noB, cl ((h70 _ _).mpr ⟨d1, d2, d3, d4, d5, rfl, hs, hA.mono ?_ fun _ _ _ h => h.elim⟩)⟩
    rintro c (rfl | rfl | rfl) hE
    · exact ⟨rfl, rfl, rfl, ⟨by show 6 < 8; omega, rfl⟩, rfl, by show 5 ≤ 16777216; omega, hE⟩
    · exact ⟨rfl, rfl, rfl, ⟨by show 6 < 8; omega, rfl⟩, rfl, by show 5 ≤ 16777216; omega, hE⟩
    · exact ⟨rfl, rfl, rfl, ⟨by show 6 < 8; omega, rfl⟩, rfl, by show 5 ≤ 16777216; omega, hE⟩
  · refine ⟨rfl, br_d (fun h => absurd h h0) (fun _ => ?_)⟩
    refine ⟨rfl, noB, cl ((h72 _ _).mpr ⟨d1, d2, d4, d5, rfl, hs, hA.mono ?_ fun _ _ _ h => h.elim⟩)⟩
    rintro c (rfl | rfl | rfl) hE
    · exact ⟨rfl, rfl, rfl, ⟨by show 6 < 8; omega, rfl⟩, rfl, by show 5 ≤ 16777216; omega, hE⟩
    · exact ⟨rfl, rfl, rfl, ⟨by show 6 < 8; omega, rfl⟩, rfl, by show 5 ≤ 16777216; omega, hE⟩
    · exact ⟨rfl, rfl, rfl, ⟨by show 6 < 8; omega, rfl⟩, rfl, by show 5 ≤ 16777216; omega, hE⟩
end
end K78
end
section
set_option Elab.async false
set_option maxRecDepth 100000
set_option linter.all false
set_option maxHeartbeats 4000000
/-! K78P6: all refusals. -/
namespace K78
open PySem DV
theorem within_yes {lo hi i : Int} (h1 : lo ≤ i) (h2 : i ≤ hi) : within lo hi (.int i) = true := within_t h1 h2
theorem tones_yes {m : Nat} {w t : Nat → Int} (h : ∀ k, k < m → 0 ≤ t k ∧ t k ≤ w k) : tonesB m w (intsD m t) = true := by
  show (decide ((ls m fun k => D.int (t k)).length = m) && (List.range m).all fun i => within 0 (w i) ((ls m fun k => D.int (t k)).getD i .non)) = true
  rw [ls_len, decide_eq_true rfl, Bool.true_and]
  refine List.all_eq_true.mpr fun i hi => ?_
  have hi := List.mem_range.mp hi
  rw [List.getD_eq_getElem?_getD, ls_get hi]
  exact within_t (h i hi).1 (h i hi).2
theorem col_yes {f : Nat → Int} (h : ColOk f) : colB (colD f) = true := by
  show (decide ((ls 3 fun i => D.int (f i)).length = 3) && (ls 3 fun i => D.int (f i)).all (within 0 1000)) = true
  rw [ls_len, decide_eq_true rfl, Bool.true_and]
  refine List.all_eq_true.mpr fun x hx => ?_
  obtain ⟨i, hi, rfl⟩ := ls_mem.mp hx
  exact within_t (h i hi).1 (h i hi).2
theorem cols_yes {n : Nat} {F : Nat → Nat → Int} (h : ∀ i, i < n → ColOk (F i)) : colsB ((n : Nat) : Int) (.lst (ls n fun i => colD (F i))) = true := by
  show (decide ((((ls n fun i => colD (F i)).length : Nat) : Int) = (n : Nat)) && (ls n fun i => colD (F i)).all colB) = true
  rw [ls_len, decide_eq_true rfl, Bool.true_and]
  refine List.all_eq_true.mpr fun x hx => ?_
  obtain ⟨i, hi, rfl⟩ := ls_mem.mp hx
  exact col_yes (h i hi)
theorem ask_wh {wh : Int} {d1 d2 d3 d4 d5 : D} {E : Nat → Prop} (h : ∀ (best : Bool) (d : D), (best = true → d = d3) → Ask best d1 d2 d d4 d5 E fun _ _ _ => False) : (wh = 0 ∧ Ask true d1 d2 d3 d4 d5 E fun _ _ _ => False) ∨ (wh ≠ 0 ∧ Ask false d1 d2 .non d4 d5 E fun _ _ _ => False) := by
  by_cases e : wh = 0
  · exact .inl ⟨e, h true d3 fun _ => rfl⟩
  · exact .inr ⟨e, h false .non fun e => by cases e⟩
section
variable {G : Nat → DSp} {sub : Nat → Nat → Option Bool}
abbrev flags : List D := [.lst (flg 5), .lst (flg 1), .lst (flg 6)]
def sp_refs : DSp := fun bs K => ∃ (s : Sto) (c : Int) (m n : Nat) (M : Nat → Nat → Nat → Int) (t : Nat → Int) (F : Nat → Nat → Int) (g : Nat → Int) (p : Nat), bs = [.own s.l, .val (.lst (ls m fun k => sqD n (M k))), .val (intsD m t), .val (.int p), .val (.lst (ls (2 ^ m) fun i => colD (F i))), .val (colD g)] ∧ s.Wf c ∧ c < 10 ^ 11 ∧
  Stk (.lst (ls m fun k => sqD n (M k))) m n M ∧ (∀ k, k < m → 0 ≤ t k ∧ t k ≤ detN n (M k)) ∧ Cols m F g ∧ p < m ∧ ∀ s' : Sto, s'.Wf (c + 10000) → K (.ok (.val (.bl true))) [s'.l]
theorem copy_or (d : D) : copyB 8 d = .val d ∨ ∃ xs, d = .lst xs ∧ copyB 8 d = .own xs := by
  cases d with
  | lst xs => exact .inr ⟨xs, rfl, rfl⟩
  | _ => exact .inl rfl
theorem vc_refs (h10 : Has G 10 sp_index) (h28 : ∀ bs K, G 28 bs K = sp_copy 8 (bs ++ [.val (.int 8)]) K) (h31 : Has G 31 sp_with) (h38 : Has G 38 sp_bstk) (h40 : Has G 40 sp_bnum) (h41 : Has G 41 sp_bcol) (h42 : Has G 42 sp_bcols) (h43 : Has G 43 sp_btones) (h73 : Has G 73 sp_refd) : ∀ bs K0, bs.length = 6 → sp_refs bs K0 → ownPos 0 bs = [0] ∧ rdDef ⟨G, [0], none, sub⟩ ir_law_refusals_hold 12 bs K0 := by
  rintro bs K hl ⟨s, c, m, n, M, t, F, g, p, rfl, hw, hc, hS, ht, hC, hp, hK⟩
  have hpre : Pre m n M := ⟨hS.c.m1, hS.m6, hS.c.n1, hS.n3, hS.c.h, fun k hk => (hS.c.det hk).2⟩
  have hm6 := hS.m6
  have h64 := pow6 hm6
  have alS : Al (.lst (ls m fun k => sqD n (M k))) := al_ls (b := false) (by omega) fun k hk => hpre.al hk
  have hdp := hS.c.det hp
  have alT : Al (intsD m t) := al_ls (b := false) (by omega) fun k hk => al_int (lg1 (by have := ht k hk; omega) (by have := ht k hk; have := hS.c.det hk; omega))
  have y1 := tones_yes (w := wOf n M) ht
  have y2 : within 0 ((m : Int) - 1) (.int (p : Int)) = true := within_t (by omega) (by omega)
  have y3 := cols_yes hC.F
  have y4 := col_yes hC.g
  have ep := ls_at (n := m) (f := fun k => sqD n (M k)) (j := (p : Int)) (by omega) (by omega)
  rw [Int.toNat_natCast] at ep
  obtain ⟨dS, hdS⟩ : ∃ d : D, d = .lst (ls m fun k => sqD n (M k)) := ⟨_, rfl⟩
  obtain ⟨over, hover⟩ : ∃ d : D, d = .lst ((ls m fun k => D.int (t k)).set (p : Int).toNat (.int (detN n (M p) + 1))) := ⟨_, rfl⟩
  have hov : tonesB m (wOf n M) over = false := by
    rw [hover, Int.toNat_natCast]
    refine tones_no hp (List.getElem?_set_self (by rw [ls_len]; exact hp)) ?_
    show (decide (0 ≤ detN n (M p) + 1) && decide (detN n (M p) + 1 ≤ detN n (M p))) = false
    rw [decide_eq_false (p := detN n (M p) + 1 ≤ detN n (M p)) (by omega), Bool.and_false]
  let T := some (B.val (intsD m t))
  refine ⟨rfl, ?_⟩
  -- the flags, the stacks, the tone too much
  refine seq_cut (fun ρ => ρ = [some (.own s.l), some (.val (.lst (ls m fun k => sqD n (M k)))), some (.val (intsD m t)), some (.val (.int p)), some (.val (.lst (ls (2 ^ m) fun i => colD (F i)))), some (.val (colD g)), some (.own flags), none, none, none, none, none]) ?_ fun k hk => ⟨rfl, hk _ rfl⟩
  rintro ρ rfl
  refine seq_cut (fun ρ => ∃ (s' : Sto) (xs : List D), s'.Wf (c + 200) ∧ xs.length ≤ 160 ∧ (∀ x ∈ xs, BadT x) ∧ ρ = [some (.own s'.l), some (.val (.lst (ls m fun k => sqD n (M k)))), some (.val (intsD m t)), some (.val (.int p)), some (.val (.lst (ls (2 ^ m) fun i => colD (F i)))), some (.val (colD g)), some (.own flags), some (.own xs), none, none, none, none]) ?_ fun k hk => ⟨rfl, rfl, noB, cl ((h38 _ _).mpr ⟨s, c, m, n, M, rfl, hw, by omega, hpre, fun xs s' w' hx1 hx2 => ⟨noB, rfl, hk _ ⟨s', xs, w', hx1, hx2, rfl⟩⟩⟩)⟩
  rintro ρ ⟨s1, xs, w1, hxl, hxs, rfl⟩
  refine seq_cut (fun ρ => ρ = [some (.own s1.l), some (.val (.lst (ls m fun k => sqD n (M k)))), some (.val (intsD m t)), some (.val (.int p)), some (.val (.lst (ls (2 ^ m) fun i => colD (F i)))), some (.val (colD g)), some (.own flags), some (.own xs), some (.val over), none, none, none]) ?_ fun k hk => ⟨rfl, _, ep, rfl, noB, cl ((h10 _ _).mpr ⟨n, M p, rfl, by have := hS.n3; omega, fun i hi => (hS.c.h p hp).pos i hi, hdp.2, noB, rfl, noB, cl ((h31 _ _).mpr ⟨false, _, (p : Int), _, rfl, by omega, by rw [ls_len]; omega, noB, rfl, hk _ (by rw [hover]; rfl)⟩)⟩)⟩
  rintro ρ rfl
  clear hover
  -- one question
  have ask : ∀ (wh : Int) (d1 d2 d3 d4 d5 : D) (cc : Nat), Sm 4 d1 → (∀ E : Nat → Prop, E cc → ∀ (best : Bool) (d : D), (best = true → d = d3) → Ask best d1 d2 d d4 d5 E fun _ _ _ => False) → G 73 [.val (.int wh), .val d1, .val d2, .val d3, .val d4, .val d5] fun o _ => o = .ok (.own (flg cc)) := fun wh d1 d2 d3 d4 d5 cc h4 hA => (h73 _ _).mpr ⟨wh, d1, d2, d3, d4, d5, rfl, h4, ask_wh (hA _ rfl)⟩
  refine seq_cut (fun ρ => ∃ (s' : Sto) (z7 z9 z10 z11 : Option B), s'.Wf (c + 900) ∧ ρ = [some (.own s'.l), some (.val (.lst (ls m fun k => sqD n (M k)))), some (.val (intsD m t)), some (.val (.int p)), some (.val (.lst (ls (2 ^ m) fun i => colD (F i)))), some (.val (colD g)), some (.own flags), z7, some (.val over), z9, z10, z11]) ?_ fun k hk => ⟨⟨by decide, by decide⟩, ?_⟩
  · rintro ρ ⟨s2, z7, z9, z10, z11, w2, rfl⟩
    refine ⟨rfl, noB, cl ((h40 _ _).mpr ⟨0, _, rfl, fun ys hys => ⟨noB, ?_⟩⟩)⟩
    rw [ls_len] at hys
    refine for_by (fun rest ρ => (∀ v ∈ rest, within 0 ((m : Int) - 1) v = false) ∧ ∃ (z10 : Option B), ρ = [some (.own s2.l), some (.val (.lst (ls m fun k => sqD n (M k)))), some (.val (intsD m t)), some (.val (.int p)), some (.val (.lst (ls (2 ^ m) fun i => colD (F i)))), some (.val (colD g)), some (.own flags), z7, some (.val over), z9, z10, z11]) ?_ ?_ _ _ ⟨hys, _, rfl⟩
    · rintro ρ ⟨_, z10, rfl⟩
      exact hK s2 (w2.up (by omega))
    · rintro x rest ρ ⟨hr, z10, rfl⟩ k hk
      have hx := hr x (List.mem_cons_self ..)
      have q : ∀ d4 d5 : D, G 73 [.val (.int 0), .val (.lst (ls m fun k => sqD n (M k))), .val (intsD m t), .val x, .val d4, .val d5] fun o _ => o = .ok (.own (flg 1)) := fun d4 d5 => (h73 _ _).mpr ⟨0, _, _, x, _, _, rfl, alS 4, .inl ⟨rfl, .inr ⟨m, n, M, hS, .inr ⟨y1, .inl ⟨rfl, hx, rfl⟩⟩⟩⟩⟩
      refine ⟨rfl, ?_⟩
      refine seq_cut (fun ρ => ρ = [some (.own s2.l), some (.val (.lst (ls m fun k => sqD n (M k)))), some (.val (intsD m t)), some (.val (.int p)), some (.val (.lst (ls (2 ^ m) fun i => colD (F i)))), some (.val (colD g)), some (.own flags), z7, some (.val over), z9, some (.val x), z11]) ?_ fun k' hk' => ⟨rfl, noB, _, q _ _, ?_⟩
      · rintro ρ rfl
        refine ⟨rfl, noB, _, q _ _, ?_⟩
        rintro o os rfl
        exact ⟨noB, rfl, _, rfl, rfl, rfl, br_f rfl (hk _ ⟨fun v hv => hr v (List.mem_cons_of_mem _ hv), _, rfl⟩)⟩
      · rintro o os rfl
        exact ⟨noB, rfl, _, rfl, rfl, rfl, br_f rfl (hk' _ rfl)⟩
  refine for_rng (fun i ρ => ∃ (s' : Sto) (b7 : B) (z9 z10 z11 : Option B), s'.Wf (c + 200 + 300 * i) ∧ (b7 = .own xs ∨ b7 = .val (.lst xs)) ∧ ρ = [some (.own s'.l), some (.val (.lst (ls m fun k => sqD n (M k)))), some (.val (intsD m t)), some (.val (.int p)), some (.val (.lst (ls (2 ^ m) fun i => colD (F i)))), some (.val (colD g)), some (.own flags), some b7, some (.val over), z9, z10, z11]) ⟨s1, .own xs, none, none, none, w1.up (by omega), .inl rfl, rfl⟩ ?_ ?_
  rotate_left
  · rintro ρ ⟨s2, b7, z9, z10, z11, w2, _, rfl⟩
    exact hk _ ⟨s2, _, _, _, _, w2.up (by show c + 200 + 300 * ((2 : Nat) : Int) ≤ c + 900; omega), rfl⟩
  rintro i ρ hi ⟨s2, b7, z9, z10, z11, w2, hb7, rfl⟩ k hk
  obtain ⟨wh, hwh⟩ : ∃ wh : Int, wh = 0 + (i : Int) * 1 := ⟨_, rfl⟩
  rw [← hwh]
  refine ⟨rfl, ?_⟩
  -- bad stacks
  refine seq_cut (fun ρ => ∃ (z10 z11 : Option B), ρ = [some (.own s2.l), some (.val (.lst (ls m fun k => sqD n (M k)))), some (.val (intsD m t)), some (.val (.int p)), some (.val (.lst (ls (2 ^ m) fun i => colD (F i)))), some (.val (colD g)), some (.own flags), some (.val (.lst xs)), some (.val over), some (.val (.int wh)), z10, z11]) ?_ fun k hk => ?_
  rotate_left
  · have loop : ∀ (f : D → DV.Env → (DV.Env → Prop) → Prop), f = (fun x ρ nx => rdP ⟨G, [0], none, sub⟩ (.name 10) x ρ fun ρ2 => rdSs ⟨G, [0], none, sub⟩ (.cons (.set 11 (.call 28 (.cons (.var 10) (.nil)))) (.cons (.ife (.cmp .ne (.call 73 (.cons (.var 9) (.cons (.var 11) (.cons (.call 28 (.cons (.var 2) (.nil))) (.cons (.var 3) (.cons (.var 4) (.cons (.var 5) (.nil)))))))) (.ixo 6 (.int 0))) (.cons (.ret (.bl false)) (.nil)) (.nil)) (.nil))) ρ2 ⟨nx, fun b ρ => K (.ok b) (ownsOf ρ [0]), k, nx, fun c _ => K (.err c) []⟩) →
        forLoop f xs [some (.own s2.l), some (.val (.lst (ls m fun k => sqD n (M k)))), some (.val (intsD m t)), some (.val (.int p)), some (.val (.lst (ls (2 ^ m) fun i => colD (F i)))), some (.val (colD g)), some (.own flags), some (.val (.lst xs)), some (.val over), some (.val (.int wh)), z10, z11] k := by
      rintro f rfl
      refine for_by (fun rest ρ => (∀ v ∈ rest, BadT v) ∧ ∃ (z10 z11 : Option B), ρ = [some (.own s2.l), some (.val (.lst (ls m fun k => sqD n (M k)))), some (.val (intsD m t)), some (.val (.int p)), some (.val (.lst (ls (2 ^ m) fun i => colD (F i)))), some (.val (colD g)), some (.own flags), some (.val (.lst xs)), some (.val over), some (.val (.int wh)), z10, z11]) ?_ ?_ _ _ ⟨hxs, _, _, rfl⟩
      · rintro ρ ⟨_, z10, z11, rfl⟩
        exact hk _ ⟨_, _, rfl⟩
      · rintro x rest ρ ⟨hr, z10, z11, rfl⟩ k hk
        obtain ⟨hx, ax⟩ := hr x (List.mem_cons_self ..)
        refine ⟨rfl, ?_⟩
        have q := ask wh x (intsD m t) (.int p) (.lst (ls (2 ^ m) fun i => colD (F i))) (colD g) 5 (ax 4) fun E e best d _ => .inl ⟨hx, e⟩
        refine seq_cut (fun ρ => ∃ b : B, (b = .val x ∨ ∃ xs, x = .lst xs ∧ b = .own xs) ∧ ρ = [some (.own s2.l), some (.val (.lst (ls m fun k => sqD n (M k)))), some (.val (intsD m t)), some (.val (.int p)), some (.val (.lst (ls (2 ^ m) fun i => colD (F i)))), some (.val (colD g)), some (.own flags), some (.val (.lst xs)), some (.val over), some (.val (.int wh)), some (.val x), some b]) ?_ fun k' hk' => ⟨rfl, noB, cl ((h28 _ _).mpr ⟨x, rfl, ax 8, noB, rfl, hk' _ ⟨_, copy_or x, rfl⟩⟩)⟩
        rintro ρ ⟨b, hb, rfl⟩
        rcases hb with rfl | ⟨ys, rfl, rfl⟩
        · refine ⟨rfl, noB, cl ((h28 _ _).mpr ⟨intsD m t, rfl, alT 8, noB, rfl, noB, _, q, ?_⟩)⟩
          rintro o os rfl
          exact ⟨noB, rfl, _, rfl, rfl, rfl, br_f rfl (hk _ ⟨fun v hv => hr v (List.mem_cons_of_mem _ hv), _, _, rfl⟩)⟩
        · refine ⟨rfl, rfl, noB, cl ((h28 _ _).mpr ⟨intsD m t, rfl, alT 8, noB, rfl, noB, _, q, ?_⟩)⟩
          rintro o os rfl
          exact ⟨noB, rfl, _, rfl, rfl, rfl, br_f rfl (hk _ ⟨fun v hv => hr v (List.mem_cons_of_mem _ hv), _, _, rfl⟩)⟩
    rcases hb7 with rfl | rfl
    · exact ⟨rfl, loop _ rfl⟩
    · exact loop _ rfl
  rintro ρ ⟨z10, z11, rfl⟩
  -- bad tones
  refine seq_cut (fun ρ => ∃ (s' : Sto) (z10 : Option B), s'.Wf (c + 200 + 300 * i + 100) ∧ ρ = [some (.own s'.l), some (.val (.lst (ls m fun k => sqD n (M k)))), some (.val (intsD m t)), some (.val (.int p)), some (.val (.lst (ls (2 ^ m) fun i => colD (F i)))), some (.val (colD g)), some (.own flags), some (.val (.lst xs)), some (.val over), some (.val (.int wh)), z10, z11]) ?_ fun k hk => ?_
  rotate_left
  · refine ⟨rfl, rfl, noB, cl ((h43 _ _).mpr ⟨s2, _, m, n, M, t, rfl, w2, by omega, hpre, ht, fun ys s3 w3 hyl hys => ⟨noB, by show ys.length + 1 ≤ 16777216; omega, ?_⟩⟩)⟩
    refine for_by (fun rest ρ => (∀ v ∈ rest, tonesB m (wOf n M) v = false) ∧ ∃ (z10 : Option B), ρ = [some (.own s3.l), some (.val (.lst (ls m fun k => sqD n (M k)))), some (.val (intsD m t)), some (.val (.int p)), some (.val (.lst (ls (2 ^ m) fun i => colD (F i)))), some (.val (colD g)), some (.own flags), some (.val (.lst xs)), some (.val over), some (.val (.int wh)), z10, z11]) ?_ ?_ _ _ ⟨mem_more (fun y hy => (hys y hy).1) hov, _, rfl⟩
    · rintro ρ ⟨_, z10, rfl⟩
      exact hk _ ⟨s3, _, w3, rfl⟩
    · rintro x rest ρ ⟨hr, z10, rfl⟩ k hk
      have hx := hr x (List.mem_cons_self ..)
      refine ⟨rfl, rfl, noB, _, ask wh _ x (.int p) _ _ 1 (alS 4) (fun E e best d _ => .inr ⟨m, n, M, hS, .inl ⟨hx, e⟩⟩), ?_⟩
      rintro o os rfl
      exact ⟨noB, rfl, _, rfl, rfl, rfl, br_f rfl (hk _ ⟨fun v hv => hr v (List.mem_cons_of_mem _ hv), _, rfl⟩)⟩
  rintro ρ ⟨s3, z10, w3, rfl⟩
  -- bad colours
  refine seq_cut (fun ρ => ∃ (s' : Sto) (z10 : Option B), s'.Wf (c + 200 + 300 * i + 200) ∧ ρ = [some (.own s'.l), some (.val (.lst (ls m fun k => sqD n (M k)))), some (.val (intsD m t)), some (.val (.int p)), some (.val (.lst (ls (2 ^ m) fun i => colD (F i)))), some (.val (colD g)), some (.own flags), some (.val (.lst xs)), some (.val over), some (.val (.int wh)), z10, z11]) ?_ fun k hk => ?_
  rotate_left
  · refine ⟨rfl, rfl, noB, cl ((h42 _ _).mpr ⟨s3, _, 2 ^ m, F, rfl, w3, by omega, Nat.one_le_two_pow, h64, hC.F, fun ys s4 w4 hys => ⟨noB, ?_⟩⟩)⟩
    refine for_by (fun rest ρ => (∀ v ∈ rest, BadCs ((2 ^ m : Nat) : Int) v) ∧ ∃ (z10 : Option B), ρ = [some (.own s4.l), some (.val (.lst (ls m fun k => sqD n (M k)))), some (.val (intsD m t)), some (.val (.int p)), some (.val (.lst (ls (2 ^ m) fun i => colD (F i)))), some (.val (colD g)), some (.own flags), some (.val (.lst xs)), some (.val over), some (.val (.int wh)), z10, z11]) ?_ ?_ _ _ ⟨hys, _, rfl⟩
    · rintro ρ ⟨_, z10, rfl⟩
      exact hk _ ⟨s4, _, w4.up (by omega), rfl⟩
    · rintro x rest ρ ⟨hr, z10, rfl⟩ k hk
      obtain ⟨hx, ax⟩ := hr x (List.mem_cons_self ..)
      have q := ask wh (.lst (ls m fun k => sqD n (M k))) (intsD m t) (.int p) (copyB 8 x).d (colD g) 6 (alS 4) (fun E e best d hd => .inr ⟨m, n, M, hS, .inr ⟨y1, .inr ⟨fun h => by rw [hd h]; exact y2, .inl ⟨by rw [copyB_d]; exact hx, e⟩⟩⟩⟩)
      refine ⟨rfl, rfl, noB, cl ((h28 _ _).mpr ⟨x, rfl, ax 8, noB, rfl, noB, _, q, ?_⟩)⟩
      rintro o os rfl
      exact ⟨noB, rfl, _, rfl, rfl, rfl, br_f rfl (hk _ ⟨fun v hv => hr v (List.mem_cons_of_mem _ hv), _, rfl⟩)⟩
  rintro ρ ⟨s4, z10, w4, rfl⟩
  -- a bad wish
  refine seq_cut (fun ρ => ∃ (s' : Sto) (z10 : Option B), s'.Wf (c + 200 + 300 * i + 300) ∧ ρ = [some (.own s'.l), some (.val (.lst (ls m fun k => sqD n (M k)))), some (.val (intsD m t)), some (.val (.int p)), some (.val (.lst (ls (2 ^ m) fun i => colD (F i)))), some (.val (colD g)), some (.own flags), some (.val (.lst xs)), some (.val over), some (.val (.int wh)), z10, z11]) ?_ fun k hk => ?_
  rotate_left
  · refine ⟨rfl, rfl, noB, cl ((h41 _ _).mpr ⟨s4, _, g, rfl, w4, by omega, hC.g, fun ys s5 w5 hyl hys => ⟨noB, ?_⟩⟩)⟩
    refine for_by (fun rest ρ => (∀ v ∈ rest, BadC v) ∧ ∃ (z10 : Option B), ρ = [some (.own s5.l), some (.val (.lst (ls m fun k => sqD n (M k)))), some (.val (intsD m t)), some (.val (.int p)), some (.val (.lst (ls (2 ^ m) fun i => colD (F i)))), some (.val (colD g)), some (.own flags), some (.val (.lst xs)), some (.val over), some (.val (.int wh)), z10, z11]) ?_ ?_ _ _ ⟨hys, _, rfl⟩
    · rintro ρ ⟨_, z10, rfl⟩
      exact hk _ ⟨s5, _, w5.up (by omega), rfl⟩
    · rintro x rest ρ ⟨hr, z10, rfl⟩ k hk
      obtain ⟨hx, ax⟩ := hr x (List.mem_cons_self ..)
      have q := ask wh (.lst (ls m fun k => sqD n (M k))) (intsD m t) (.int p) (.lst (ls (2 ^ m) fun i => colD (F i))) x 6 (alS 4) (fun E e best d hd => .inr ⟨m, n, M, hS, .inr ⟨y1, .inr ⟨fun h => by rw [hd h]; exact y2, .inr ⟨y3, .inl ⟨hx, e⟩⟩⟩⟩⟩)
      refine ⟨rfl, rfl, noB, _, q, ?_⟩
      rintro o os rfl
      exact ⟨noB, rfl, _, rfl, rfl, rfl, br_f rfl (hk _ ⟨fun v hv => hr v (List.mem_cons_of_mem _ hv), _, rfl⟩)⟩
  rintro ρ ⟨s5, z10, w5, rfl⟩
  -- several wrong ones
  have q5 := ask wh (.lst []) over (.int (0 - 1)) (.lst []) (.tup []) 5 (al_nil (b := false) 4) (fun E e best d _ => .inl ⟨fun q => by obtain ⟨xs, e, h1, _⟩ := stk_lst q; cases e; exact absurd h1 (by decide), e⟩)
  refine seq_cut (fun ρ => ρ = [some (.own s5.l), some (.val (.lst (ls m fun k => sqD n (M k)))), some (.val (intsD m t)), some (.val (.int p)), some (.val (.lst (ls (2 ^ m) fun i => colD (F i)))), some (.val (colD g)), some (.own flags), some (.val (.lst xs)), some (.val over), some (.val (.int wh)), z10, z11]) ?_ fun k hk => ⟨rfl, noB, _, q5, ?_⟩
  rotate_left
  · rintro o os rfl
    exact ⟨noB, rfl, _, rfl, rfl, rfl, br_f rfl (hk _ rfl)⟩
  rintro ρ rfl
  refine ⟨rfl, noB, _, ask wh (.lst (ls m fun k => sqD n (M k))) over (.int p) (.lst []) (.tup []) 1 (alS 4) (fun E e best d _ => .inr ⟨m, n, M, hS, .inl ⟨hov, e⟩⟩), ?_⟩
  rintro o os rfl
  exact ⟨noB, rfl, _, rfl, rfl, rfl, br_f rfl (hk _ ⟨s5, _, _, _, _, w5.up (by rw [Int.natCast_add]; omega), .inr rfl, rfl⟩)⟩
end
end K78
end
section
set_option Elab.async false
set_option maxRecDepth 100000
set_option linter.all false
set_option maxHeartbeats 4000000
/-! K78P7: the law's own def. -/
namespace K78
open PySem DV
theorem lg_ok {i : Int} (h : lg i ≤ 1900) : okD (.int i) := by
  show lg i < 1920
  omega
theorem far_lg {m : Nat} {w t : Nat → Int} {F : Nat → Nat → Int} {g : Nat → Int} (ht : Ton m w t) (hC : Cols m F g) : lg (farN m w t F g) ≤ 700 := by
  have b : ∀ c, c < 3 → lg (gapN m w t F g c * gapN m w t F g c) ≤ 601 := fun c hc => by
    have := gap_bound ht hC hc
    have h1 : lg (gapN m w t F g c) ≤ 300 := lgB (by omega) (by omega)
    have := lg_mul (gapN m w t F g c) (gapN m w t F g c)
    omega
  exact Nat.le_trans (lg_sum3 (b 0 (by omega)) (b 1 (by omega)) (b 2 (by omega))) (by omega)
section
variable {G : Nat → DSp} {sub : Nat → Nat → Option Bool}
theorem vc_law (h3 : Has G 3 sp_take) (h10 : Has G 10 sp_index) (h13 : Has G 13 sp_dstack) (h14 : Has G 14 sp_tones) (h16 : Has G 16 sp_colour) (h17 : Has G 17 sp_colours) (h28 : ∀ bs K, G 28 bs K = sp_copy 8 (bs ++ [.val (.int 8)]) K) (h31 : Has G 31 sp_with) (h70 : Has G 70 sp_best) (h72 : Has G 72 sp_dist) (h74 : Has G 74 sp_refs) (h75 : Has G 75 sp_eq) (h76 : Has G 76 sp_lfar) (h77 : Has G 77 sp_isbest) :
    ∀ ns : List Int, ns.length ≤ 63 → rdSs ⟨G, [], none, sub⟩ ir_law ((List.replicate 14 none).set 1 (some (.own (.lst (ns.map D.int) :: inits.map D.int)))) ⟨fun _ => False, fun b _ => b = .val (.bl true), fun _ => False, fun _ => False, noEr⟩ := by
  intro ns hns
  have w0 : Sto.Wf ⟨ns, 0, 0, 0, 7, 0⟩ 0 := wf hns (by omega) (by omega) (by omega) (by omega) (by omega) (by omega) (by omega)
  -- the stack
  refine seq_cut (fun ρ => ∃ (s : Sto) (n m : Nat) (M : Nat → Nat → Nat → Int), s.Wf 500000 ∧ Stk (.lst (ls m fun k => sqD n (M k))) m n M ∧ ρ = [none, some (.own s.l), some (.val (.lst (ls m fun k => sqD n (M k)))), none, none, none, none, none, none, none, none, none, none, none]) ?_ fun k hk => ⟨rfl, rfl, rfl, noB, cl ((h3 _ _).mpr ⟨⟨ns, 0, 0, 0, 7, 0⟩, 0, _, rfl, w0, by omega, by decide +kernel, fun v s1 w1 v0 _ v1 => ⟨noB, ?_⟩⟩)⟩
  rotate_left
  · have v1 := v1 (by omega)
    refine ⟨rfl, noB, cl ((h13 _ _).mpr ⟨s1, _, (1 + v).toNat, ?_, w1, by omega, by omega, by omega, fun m M b s2 w2 m1 m6 hM hp => ⟨noB, rfl, hk _ ⟨s2, (1 + v).toNat, m, M, w2.up (by omega), ⟨⟨rfl, m1, by omega, by omega, by omega, hM, hp⟩, m6, by omega⟩, rfl⟩⟩⟩)⟩
    show [B.own s1.l, B.val (D.int (1 + v))] = [B.own s1.l, B.val (D.int (((1 + v).toNat : Nat) : Int))]
    rw [Int.toNat_of_nonneg (by omega)]
  rintro ρ ⟨s, n, m, M, w1, hS, rfl⟩
  have m1 := hS.c.m1
  have m6 := hS.m6
  have n1 := hS.c.n1
  have n3 := hS.n3
  have h64 := pow6 m6
  have hpre : Pre m n M := ⟨m1, m6, n1, n3, hS.c.h, fun k hk => (hS.c.det hk).2⟩
  have alS : Al (.lst (ls m fun k => sqD n (M k))) := al_ls (b := false) (by omega) fun k hk => hpre.al hk
  -- the tones
  refine seq_cut (fun ρ => ∃ (s : Sto) (t : Nat → Int), s.Wf 600000 ∧ (∀ k, k < m → 0 ≤ t k ∧ t k ≤ detN n (M k)) ∧ ρ = [none, some (.own s.l), some (.val (.lst (ls m fun k => sqD n (M k)))), some (.val (intsD m t)), none, none, none, none, none, none, none, none, none, none]) ?_ fun k hk => ⟨rfl, rfl, noB, cl ((h14 _ _).mpr ⟨s, _, m, n, M, rfl, w1, by omega, by omega, by omega, fun k hk => ⟨hS.c.h k hk, (hS.c.det hk).2⟩, fun t s2 w2 ht => ⟨noB, rfl, hk _ ⟨s2, t, w2.up (by omega), ht, rfl⟩⟩⟩)⟩
  rintro ρ ⟨s, t, w1, ht, rfl⟩
  have alT : Al (intsD m t) := al_ls (b := false) (by omega) fun k hk => al_int (lg1 (by have := ht k hk; omega) (by have := ht k hk; have := hS.c.det hk; omega))
  -- the colours
  refine seq_cut (fun ρ => ∃ (s : Sto) (F : Nat → Nat → Int), s.Wf 700000 ∧ (∀ k, k < 2 ^ m → ColOk (F k)) ∧ ρ = [none, some (.own s.l), some (.val (.lst (ls m fun k => sqD n (M k)))), some (.val (intsD m t)), some (.val (.lst (ls (2 ^ m) fun i => colD (F i)))), none, none, none, none, none, none, none, none, none]) ?_ fun k hk => ⟨rfl, rfl, noB, cl ((h17 _ _).mpr ⟨s, _, (ls m fun k => sqD n (M k)).length, rfl, w1, by omega, by rw [ls_len]; exact m6, fun F s2 w2 hF => ⟨noB, rfl, ?_⟩⟩)⟩
  rotate_left
  · rw [ls_len] at hF ⊢
    exact hk _ ⟨s2, F, w2.up (by omega), hF, rfl⟩
  rintro ρ ⟨s, F, w1, hF, rfl⟩
  -- the wish
  refine seq_cut (fun ρ => ∃ (s : Sto) (g : Nat → Int), s.Wf 800000 ∧ ColOk g ∧ ρ = [none, some (.own s.l), some (.val (.lst (ls m fun k => sqD n (M k)))), some (.val (intsD m t)), some (.val (.lst (ls (2 ^ m) fun i => colD (F i)))), some (.val (colD g)), none, none, none, none, none, none, none, none]) ?_ fun k hk => ⟨rfl, rfl, noB, cl ((h16 _ _).mpr ⟨s, _, rfl, w1, by omega, fun g s2 w2 hg => ⟨noB, rfl, hk _ ⟨s2, g, w2.up (by omega), hg, rfl⟩⟩⟩)⟩
  rintro ρ ⟨s, g, w1, hg, rfl⟩
  -- the place
  refine seq_cut (fun ρ => ∃ (s : Sto) (a : Nat), s.Wf 900000 ∧ a < m ∧ ρ = [none, some (.own s.l), some (.val (.lst (ls m fun k => sqD n (M k)))), some (.val (intsD m t)), some (.val (.lst (ls (2 ^ m) fun i => colD (F i)))), some (.val (colD g)), some (.val (.int a)), none, none, none, none, none, none, none]) ?_ fun k hk => ⟨rfl, rfl, noB, cl ((h3 _ _).mpr ⟨s, _, _, rfl, w1, by omega, by rw [ls_len]; exact lg1 (by omega) (by omega), fun v s2 w2 v0 _ v1 => ⟨noB, rfl, ?_⟩⟩)⟩
  rotate_left
  · rw [ls_len] at v1
    have v1 := v1 (by omega)
    obtain ⟨a, rfl⟩ : ∃ a : Nat, v = a := ⟨v.toNat, by omega⟩
    exact hk _ ⟨s2, a, w2.up (by omega), by omega, rfl⟩
  rintro ρ ⟨s, a, w1, ha, rfl⟩
  -- black and white
  refine seq_cut (fun ρ => ∃ (s : Sto) (F : Nat → Nat → Int) (g : Nat → Int) (b4 : B) (z7 : Option B), s.Wf 1000000 ∧ Cols m F g ∧ (b4 = .val (.lst (ls (2 ^ m) fun i => colD (F i))) ∨ b4 = .own (ls (2 ^ m) fun i => colD (F i))) ∧ ρ = [none, some (.own s.l), some (.val (.lst (ls m fun k => sqD n (M k)))), some (.val (intsD m t)), some b4, some (.val (colD g)), some (.val (.int a)), z7, none, none, none, none, none, none]) ?_ fun k hk => ⟨rfl, rfl, noB, cl ((h3 _ _).mpr ⟨s, _, _, rfl, w1, by omega, by decide +kernel, fun v s2 w2 v0 _ v1 => ⟨noB, br_d (fun _ => ?_) (fun _ => hk _ ⟨s2, F, g, _, _, w2.up (by omega), ⟨m6, hF, hg⟩, .inl rfl, rfl⟩)⟩⟩)⟩
  rotate_left
  · obtain ⟨hf, e1, e2⟩ := atI_ints (ns := [1, 2, 4, 8, 16, 32]) (i := (a : Int)) (by omega) (by show (a : Int) < 6; omega)
    have hb : 1 ≤ hf ∧ hf ≤ 32 := by
      have := List.mem_of_getElem? e2
      simp only [List.mem_cons, List.not_mem_nil, or_false] at this
      omega
    refine ⟨_, e1, rfl, ?_⟩
    have a1 : (0 : Int) ≤ ((2 ^ m : Nat) : Int) := Int.natCast_nonneg _
    have a2 : ((2 ^ m : Nat) : Int) ≤ 64 := Int.ofNat_le.mpr h64
    refine ⟨⟨by rw [ls_len]; omega, by rw [ls_len]; omega⟩, by rw [rngL_size, ls_len, Int.toNat_natCast]; show 2 ^ m ≤ 16777216; omega, rfl, ?_⟩
    rw [ls_len, Int.toNat_natCast]
    have vb : ∀ x : Int, 0 ≤ x.fmod 2 ∧ x.fmod 2 ≤ 1 := fun x => by rw [fmod_e]; omega
    refine lc_rg (fun i => .tup (ls 3 fun _ => .int (((0 + (i : Int) * 1).fdiv hf).fmod 2 * 1000))) (fun i hi k' hk' => ⟨rfl, ⟨by decide, by decide⟩, by rw [rngL_size]; decide, rfl, lc_rg (fun _ => .int (((0 + (i : Int) * 1).fdiv hf).fmod 2 * 1000)) (fun j hj k2 hk2 => ⟨rfl, ⟨by omega, Nat.lt_of_le_of_lt (lg1 (m := hf) (by omega) (by omega)) (by omega)⟩, by decide, mulOk_of (lg1 (by have := vb ((0 + (i : Int) * 1).fdiv hf); omega) (by have := vb ((0 + (i : Int) * 1).fdiv hf); omega)) (q := 20) (by decide +kernel) (by omega), hk2⟩) hk'⟩) ?_
    refine ⟨rfl, rfl, hk _ ⟨s2, fun i _ => ((0 + (i : Int) * 1).fdiv hf).fmod 2 * 1000, fun _ => 500, _, _, w2.up (by omega), ⟨m6, fun i hi c hc => ?_, fun c hc => by omega⟩, .inr rfl, rfl⟩⟩
    have := vb ((0 + (i : Int) * 1).fdiv hf)
    show 0 ≤ ((0 + (i : Int) * 1).fdiv hf).fmod 2 * 1000 ∧ ((0 + (i : Int) * 1).fdiv hf).fmod 2 * 1000 ≤ 1000
    omega
  clear hF hg w1 s
  rintro ρ ⟨s, F, g, b4, z7, w1, hC, hb4, rfl⟩
  have alC : Al (.lst (ls (2 ^ m) fun i => colD (F i))) := al_ls (b := false) (by omega) fun i hi => col_al (hC.F i hi)
  have y1 := tones_yes (w := wOf n M) ht
  have y3 := cols_yes hC.F
  have y4 := col_yes hC.g
  have hT := hS.ton ht
  obtain ⟨dS, hdS⟩ : ∃ d : D, d = .lst (ls m fun k => sqD n (M k)) := ⟨_, rfl⟩
  obtain ⟨dC, hdC⟩ : ∃ d : D, d = .lst (ls (2 ^ m) fun i => colD (F i)) := ⟨_, rfl⟩
  have al3 : Al (.lst [.lst (ls m fun k => sqD n (M k)), intsD m t, .lst (ls (2 ^ m) fun i => colD (F i))]) := al_sq (b := false) (by show 3 ≤ 16777216; omega) fun x hx => by
    simp only [List.mem_cons, List.not_mem_nil, or_false] at hx
    rcases hx with rfl | rfl | rfl
    · exact alS
    · exact alT
    · exact alC
  -- what is kept
  refine seq_cut (fun ρ => ρ = [none, some (.own s.l), some (.val (.lst (ls m fun k => sqD n (M k)))), some (.val (intsD m t)), some (.val (.lst (ls (2 ^ m) fun i => colD (F i)))), some (.val (colD g)), some (.val (.int a)), z7, none, none, some (.own [.lst (ls m fun k => sqD n (M k)), intsD m t, .lst (ls (2 ^ m) fun i => colD (F i))]), none, none, none]) ?_ fun k hk => ?_
  rotate_left
  · rcases hb4 with rfl | rfl
    · exact ⟨rfl, noB, cl ((h28 _ _).mpr ⟨_, rfl, al3 8, noB, rfl, hk _ rfl⟩)⟩
    · exact ⟨rfl, rfl, noB, cl ((h28 _ _).mpr ⟨_, rfl, al3 8, noB, rfl, hk _ rfl⟩)⟩
  rintro ρ rfl
  -- each place
  have best : ∀ (t : Nat → Int) (p : Nat), p < m → (∀ k, k < m → 0 ≤ t k ∧ t k ≤ detN n (M k)) → G 70 [.val (.lst (ls m fun k => sqD n (M k))), .val (intsD m t), .val (.int p), .val (.lst (ls (2 ^ m) fun i => colD (F i))), .val (colD g)] fun o _ => ∃ r, o = .ok (.val (.int r)) ∧ Best (farU m (wOf n M) t p F g) (detN n (M p)) r := fun t p hp ht =>
    (h70 _ _).mpr ⟨_, _, _, _, _, rfl, alS 4, .inr ⟨m, n, M, hS, .inr ⟨tones_yes (w := wOf n M) ht, .inr ⟨fun _ => within_t (by omega) (by omega), .inr ⟨y3, .inr ⟨y4, t, p, F, g, rfl, ht, rfl, hp, rfl, rfl, hC, fun r hr => ⟨r, rfl, hr⟩⟩⟩⟩⟩⟩⟩
  have dist : ∀ (t : Nat → Int), (∀ k, k < m → 0 ≤ t k ∧ t k ≤ detN n (M k)) → G 72 [.val (.lst (ls m fun k => sqD n (M k))), .val (intsD m t), .val (.lst (ls (2 ^ m) fun i => colD (F i))), .val (colD g)] fun o _ => o = .ok (.val (.int (farN m (wOf n M) t F g))) := fun t ht =>
    (h72 _ _).mpr ⟨_, _, _, _, rfl, alS 4, .inr ⟨m, n, M, hS, .inr ⟨tones_yes (w := wOf n M) ht, .inr ⟨fun h => (by cases h), .inr ⟨y3, .inr ⟨y4, t, F, g, rfl, ht, rfl, rfl, hC, rfl⟩⟩⟩⟩⟩⟩
  have eq : ∀ d : D, okD d → szD d ≤ 10 ^ 6 → G 75 [.val d, .val d] fun o _ => o = .ok (.val (.bl true)) := fun d h1 h2 => (h75 _ _).mpr ⟨d, rfl, h1, h2, rfl⟩
  refine seq_cut (fun ρ => ∃ (s : Sto) (z11 z12 z13 : Option B), s.Wf 2000000 ∧ ρ = [none, some (.own s.l), some (.val (.lst (ls m fun k => sqD n (M k)))), some (.val (intsD m t)), some (.val (.lst (ls (2 ^ m) fun i => colD (F i)))), some (.val (colD g)), some (.val (.int a)), z7, none, none, some (.own [.lst (ls m fun k => sqD n (M k)), intsD m t, .lst (ls (2 ^ m) fun i => colD (F i))]), z11, z12, z13]) ?_ fun k hk => ⟨⟨by rw [ls_len]; omega, by rw [ls_len]; omega⟩, ?_⟩
  rotate_left
  · rw [ls_len, Int.toNat_natCast]
    refine for_rng (fun i ρ => ∃ (s : Sto) (z11 z12 z13 : Option B), s.Wf (1000000 + 10 * i) ∧ ρ = [none, some (.own s.l), some (.val (.lst (ls m fun k => sqD n (M k)))), some (.val (intsD m t)), some (.val (.lst (ls (2 ^ m) fun i => colD (F i)))), some (.val (colD g)), some (.val (.int a)), z7, none, none, some (.own [.lst (ls m fun k => sqD n (M k)), intsD m t, .lst (ls (2 ^ m) fun i => colD (F i))]), z11, z12, z13]) ⟨s, none, none, none, w1.up (by omega), rfl⟩ ?_ ?_
    rotate_left
    · rintro ρ ⟨s, z11, z12, z13, w2, rfl⟩
      exact hk _ ⟨s, _, _, _, w2.up (by omega), rfl⟩
    rintro i ρ hi ⟨s, z11, z12, z13, w2, rfl⟩ k hk
    have ei : 0 + (i : Int) * 1 = (i : Int) := by omega
    rw [ei]
    refine ⟨rfl, ?_⟩
    have hdi := hS.c.det hi
    have eset : ∀ v : Int, D.lst ((ls m fun k => D.int (t k)).set (i : Int).toNat (.int v)) = intsD m (upd t i v) := fun v => by rw [Int.toNat_natCast, set_upd]
    have ep := ls_at (n := m) (f := fun k => sqD n (M k)) (j := (i : Int)) (by omega) (by omega)
    rw [Int.toNat_natCast] at ep
    refine seq_cut (fun ρ => ∃ r : Int, Best (farU m (wOf n M) t i F g) (detN n (M i)) r ∧ ρ = [none, some (.own s.l), some (.val (.lst (ls m fun k => sqD n (M k)))), some (.val (intsD m t)), some (.val (.lst (ls (2 ^ m) fun i => colD (F i)))), some (.val (colD g)), some (.val (.int a)), z7, none, none, some (.own [.lst (ls m fun k => sqD n (M k)), intsD m t, .lst (ls (2 ^ m) fun i => colD (F i))]), some (.val (.int i)), some (.val (.int r)), z13]) ?_ fun k hk => ⟨rfl, noB, _, best t i hi ht, ?_⟩
    rotate_left
    · rintro o os ⟨r, rfl, hr⟩
      exact ⟨noB, rfl, hk _ ⟨r, hr, rfl⟩⟩
    rintro ρ ⟨r, hr, rfl⟩
    refine seq_cut (fun ρ => ρ = [none, some (.own s.l), some (.val (.lst (ls m fun k => sqD n (M k)))), some (.val (intsD m t)), some (.val (.lst (ls (2 ^ m) fun i => colD (F i)))), some (.val (colD g)), some (.val (.int a)), z7, none, none, some (.own [.lst (ls m fun k => sqD n (M k)), intsD m t, .lst (ls (2 ^ m) fun i => colD (F i))]), some (.val (.int i)), some (.val (.int r)), z13]) ?_ fun k hk => ⟨rfl, _, rfl, rfl, _, rfl, rfl, _, rfl, rfl, noB, cl ((h77 _ _).mpr ⟨m, n, M, t, F, g, i, r, rfl, ⟨by omega, hS.c.h, hT, hC⟩, hi, hr, noB, trivial, br_f rfl (hk _ rfl)⟩)⟩
    rintro ρ rfl
    refine seq_cut (fun ρ => ∃ (s : Sto) (v : Int), s.Wf (1000000 + 10 * i + 1) ∧ 0 ≤ v ∧ v ≤ detN n (M i) ∧ ρ = [none, some (.own s.l), some (.val (.lst (ls m fun k => sqD n (M k)))), some (.val (intsD m t)), some (.val (.lst (ls (2 ^ m) fun i => colD (F i)))), some (.val (colD g)), some (.val (.int a)), z7, none, none, some (.own [.lst (ls m fun k => sqD n (M k)), intsD m t, .lst (ls (2 ^ m) fun i => colD (F i))]), some (.val (.int i)), some (.val (.int r)), some (.val (intsD m (upd t i v)))]) ?_ fun k hk => ⟨rfl, rfl, _, ep, rfl, noB, cl ((h10 _ _).mpr ⟨n, M i, rfl, by omega, fun j hj => (hS.c.h i hi).pos j hj, hdi.2, noB, rfl, noB, cl ((h3 _ _).mpr ⟨s, _, _, rfl, w2, by omega, lg1 (by omega) (by omega), fun v s3 w3 v0 _ v1 => ⟨noB, rfl, noB, cl ((h31 _ _).mpr ⟨false, _, (i : Int), _, rfl, by omega, by rw [ls_len]; omega, noB, rfl, hk _ ⟨s3, v, w3.up (by omega), v0, by have := v1 (by omega); omega, by rw [← eset v]; rfl⟩⟩)⟩⟩)⟩)⟩
    rintro ρ ⟨s3, v, w3, v0, v1, rfl⟩
    have hu : ∀ k, k < m → 0 ≤ upd t i v k ∧ upd t i v k ≤ detN n (M k) := (ton_upd (p := i) (x := v) hT v0 v1).t0
    have okr : okD (.int r) := lg_ok (Nat.le_trans (lgB (m := r) (by have := hr.1; omega) (by have := hr.2.1; omega)) (by omega))
    refine seq_cut (fun ρ => ρ = [none, some (.own s3.l), some (.val (.lst (ls m fun k => sqD n (M k)))), some (.val (intsD m t)), some (.val (.lst (ls (2 ^ m) fun i => colD (F i)))), some (.val (colD g)), some (.val (.int a)), z7, none, none, some (.own [.lst (ls m fun k => sqD n (M k)), intsD m t, .lst (ls (2 ^ m) fun i => colD (F i))]), some (.val (.int i)), some (.val (.int r)), some (.val (intsD m (upd t i v)))]) ?_ fun k hk => ⟨rfl, noB, _, best (upd t i v) i hi hu, ?_⟩
    rotate_left
    · rintro o os ⟨r', rfl, hr'⟩
      rw [farU_upd] at hr'
      have := hr.uniq hr'
      subst this
      refine ⟨noB, rfl, noB, _, eq (.int r) okr (by show 1 ≤ _; omega), ?_⟩
      rintro o os rfl
      exact ⟨noB, trivial, br_f rfl (hk _ rfl)⟩
    rintro ρ rfl
    refine ⟨rfl, noB, _, dist (upd t i v) hu, ?_⟩
    rintro o os rfl
    refine ⟨noB, rfl, _, rfl, rfl, _, rfl, rfl, noB, cl ((h76 _ _).mpr ⟨m, n, M, upd t i v, F, g, rfl, ⟨by omega, hS.c.h, ton_upd hT v0 v1, hC⟩, noB, rfl, noB, _, eq (.int (farN m (wOf n M) (upd t i v) F g)) (lg_ok (Nat.le_trans (far_lg (ton_upd hT v0 v1) hC) (by omega))) (by show 1 ≤ _; omega), ?_⟩)⟩
    rintro o os rfl
    exact ⟨noB, trivial, br_f rfl (hk _ ⟨s3, _, _, _, w3.up (by rw [Int.natCast_add]; omega), rfl⟩)⟩
  rintro ρ ⟨s4, z11, z12, z13, w4, rfl⟩
  -- what was passed stays
  have ok3 : okD (.lst [.lst (ls m fun k => sqD n (M k)), intsD m t, .lst (ls (2 ^ m) fun i => colD (F i))]) := by
    have o1 : ∀ x : Int, -(10 ^ 70) ≤ x → x ≤ 10 ^ 70 → okD (.int x) := fun x h0 h1 => lg_ok (Nat.le_trans (lgB h0 h1) (by omega))
    refine ⟨okL_ls fun k hk => okL_ls fun i hi => okL_ls fun j hj => ?_, okL_ls fun k hk => ?_, okL_ls fun k hk => okL_ls fun c hc => ?_, trivial⟩
    · have := hnf_bound (hS.c.h k hk) (hS.c.det hk).2 i j hi hj
      exact o1 _ (by omega) (by omega)
    · have := ht k hk; have := hS.c.det hk
      exact o1 _ (by omega) (by omega)
    · have := hC.F k hk c hc
      exact o1 _ (by omega) (by omega)
  have sz3 : szD (.lst [.lst (ls m fun k => sqD n (M k)), intsD m t, .lst (ls (2 ^ m) fun i => colD (F i))]) ≤ 10 ^ 6 := by
    have b1 : szL (ls m fun k => sqD n (M k)) ≤ m * 13 := szL_ls fun k hk => by
      have b2 : szL (ls n fun i => D.tup (ls n fun j => .int (M k i j))) ≤ n * 4 := szL_ls fun i hi => by
        have b3 : szL (ls n fun j => D.int (M k i j)) ≤ n * 1 := szL_ls fun j hj => Nat.le_refl 1
        show 1 + szL (ls n fun j => D.int (M k i j)) ≤ 4
        omega
      show 1 + szL (ls n fun i => D.tup (ls n fun j => .int (M k i j))) ≤ 13
      omega
    have b4 : szL (ls m fun k => D.int (t k)) ≤ m * 1 := szL_ls fun k hk => Nat.le_refl 1
    have b5 : szL (ls (2 ^ m) fun i => colD (F i)) ≤ 2 ^ m * 4 := szL_ls fun i hi => by
      have b6 : szL (ls 3 fun c => D.int (F i c)) ≤ 3 * 1 := szL_ls fun c hc => Nat.le_refl 1
      show 1 + szL (ls 3 fun c => D.int (F i c)) ≤ 4
      omega
    show 1 + ((1 + szL (ls m fun k => sqD n (M k))) + ((1 + szL (ls m fun k => D.int (t k))) + ((1 + szL (ls (2 ^ m) fun i => colD (F i))) + 0))) ≤ 10 ^ 6
    omega
  refine seq_cut (fun ρ => ∃ z10 : Option B, ρ = [none, some (.own s4.l), some (.val (.lst (ls m fun k => sqD n (M k)))), some (.val (intsD m t)), some (.val (.lst (ls (2 ^ m) fun i => colD (F i)))), some (.val (colD g)), some (.val (.int a)), z7, none, none, z10, z11, z12, z13]) ?_ fun k hk => ⟨rfl, rfl, noB, _, eq _ ok3 sz3, ?_⟩
  rotate_left
  · rintro o os rfl
    exact ⟨noB, trivial, br_f rfl (hk _ ⟨_, rfl⟩)⟩
  rintro ρ ⟨z10, rfl⟩
  exact ⟨rfl, rfl, noB, cl ((h74 _ _).mpr ⟨s4, _, m, n, M, t, F, g, a, rfl, w4, by omega, hS, ht, hC, ha, fun s5 w5 => ⟨noB, rfl⟩⟩)⟩
end
end K78
end
section
set_option Elab.async false
set_option linter.all false
set_option maxRecDepth 100000
set_option maxHeartbeats 0
/-! K78: the end: the readings kept, the law holds (printed by gen.py). -/
namespace K78
open PySem PySem.Spec PyProof.Rows L2 DV
def rowS : DV.Row := ⟨"_law_start", 1, 1, [], [], [], .nil, []⟩
abbrev allRows : List DV.Row := rows ++ [rowS, rowLaw]
section
variable {K : PySem.W.Frag} {mg : Str → Option Value} {h : Heap}
theorem st0 (KX : K.In h) (M : h.Ns mainGlobals mg) (c : He.SaysD fa fn K) : ∃ f fd, Stands K mg row0 f fd (defBody (top 47)) (defScope (top 47)) :=
  stands_of (e := env) (rows := allRows) (r := row0) (d := d_law_mixed) KX M c (List.mem_of_getElem? (l := allRows) (i := 0) rfl) (List.mem_of_getElem? (l := fn) (i := 0) rfl) rfl fun fd F => ⟨[], FunD.bindsN (ps := ["state", "turn"]) F fun _ _ _ _ _ _ us hl => match us, hl with | [_, _], _ => rfl, .nil⟩
theorem st1 (KX : K.In h) (M : h.Ns mainGlobals mg) (c : He.SaysD fa fn K) : ∃ f fd, Stands K mg row1 f fd (defBody (top 48)) (defScope (top 48)) :=
  stands_of (e := env) (rows := allRows) (r := row1) (d := d_law_wide) KX M c (List.mem_of_getElem? (l := allRows) (i := 1) rfl) (List.mem_of_getElem? (l := fn) (i := 1) rfl) rfl fun fd F => ⟨[], FunD.bindsN (ps := ["state", "turn", "many"]) F fun _ _ _ _ _ _ us hl => match us, hl with | [_, _, _], _ => rfl, .nil⟩
theorem st2 (KX : K.In h) (M : h.Ns mainGlobals mg) (c : He.SaysD fa fn K) : ∃ f fd, Stands K mg row2 f fd (defBody (top 49)) (defScope (top 49)) :=
  stands_of (e := env) (rows := allRows) (r := row2) (d := d_law_move) KX M c (List.mem_of_getElem? (l := allRows) (i := 2) rfl) (List.mem_of_getElem? (l := fn) (i := 2) rfl) rfl fun fd F => ⟨[], FunD.bindsN (ps := ["store"]) F fun _ _ _ _ _ _ us hl => match us, hl with | [_], _ => rfl, .nil⟩
theorem st3 (KX : K.In h) (M : h.Ns mainGlobals mg) (c : He.SaysD fa fn K) : ∃ f fd, Stands K mg row3 f fd (defBody (top 50)) (defScope (top 50)) :=
  stands_of (e := env) (rows := allRows) (r := row3) (d := d_law_take) KX M c (List.mem_of_getElem? (l := allRows) (i := 3) rfl) (List.mem_of_getElem? (l := fn) (i := 3) rfl) rfl fun fd F => ⟨[], FunD.bindsN (ps := ["store", "many"]) F fun _ _ _ _ _ _ us hl => match us, hl with | [_, _], _ => rfl, .nil⟩
theorem st4 (KX : K.In h) (M : h.Ns mainGlobals mg) (c : He.SaysD fa fn K) : ∃ f fd, Stands K mg row4 f fd (defBody (top 53)) (defScope (top 53)) :=
  stands_of (e := env) (rows := allRows) (r := row4) (d := d_law_rare) KX M c (List.mem_of_getElem? (l := allRows) (i := 4) rfl) (List.mem_of_getElem? (l := fn) (i := 4) rfl) rfl fun fd F => ⟨[], FunD.bindsN (ps := ["store", "many"]) F fun _ _ _ _ _ _ us hl => match us, hl with | [_, _], _ => rfl, .nil⟩
theorem st5 (KX : K.In h) (M : h.Ns mainGlobals mg) (c : He.SaysD fa fn K) : ∃ f fd, Stands K mg row5 f fd (defBody (top 55)) (defScope (top 55)) :=
  stands_of (e := env) (rows := allRows) (r := row5) (d := d_law_order) KX M c (List.mem_of_getElem? (l := allRows) (i := 5) rfl) (List.mem_of_getElem? (l := fn) (i := 5) rfl) rfl fun fd F => ⟨[], FunD.bindsN (ps := ["store", "many"]) F fun _ _ _ _ _ _ us hl => match us, hl with | [_, _], _ => rfl, .nil⟩
theorem st6 (KX : K.In h) (M : h.Ns mainGlobals mg) (c : He.SaysD fa fn K) : ∃ f fd, Stands K mg row6 f fd (defBody (top 65)) (defScope (top 65)) :=
  stands_of (e := env) (rows := allRows) (r := row6) (d := d_law_filled) KX M c (List.mem_of_getElem? (l := allRows) (i := 6) rfl) (List.mem_of_getElem? (l := fn) (i := 6) rfl) rfl fun fd F => ⟨[], FunD.bindsN (ps := ["store", "sizes", "free"]) F fun _ _ _ _ _ _ us hl => match us, hl with | [_, _, _], _ => rfl, .nil⟩
theorem st7 (KX : K.In h) (M : h.Ns mainGlobals mg) (c : He.SaysD fa fn K) : ∃ f fd, Stands K mg row7 f fd (defBody (top 51)) (defScope (top 51)) :=
  stands_of (e := env) (rows := allRows) (r := row7) (d := d_law_from) KX M c (List.mem_of_getElem? (l := allRows) (i := 7) rfl) (List.mem_of_getElem? (l := fn) (i := 7) rfl) rfl fun fd F => ⟨[], FunD.bindsN (ps := ["store", "low", "high"]) F fun _ _ _ _ _ _ us hl => match us, hl with | [_, _, _], _ => rfl, .nil⟩
theorem st8 (KX : K.In h) (M : h.Ns mainGlobals mg) (c : He.SaysD fa fn K) : ∃ f fd, Stands K mg row8 f fd (defBody (top 54)) (defScope (top 54)) :=
  stands_of (e := env) (rows := allRows) (r := row8) (d := d_law_count) KX M c (List.mem_of_getElem? (l := allRows) (i := 8) rfl) (List.mem_of_getElem? (l := fn) (i := 8) rfl) rfl fun fd F => ⟨[], FunD.bindsN (ps := ["store", "most"]) F fun _ _ _ _ _ _ us hl => match us, hl with | [_, _], _ => rfl, .nil⟩
theorem st9 (KX : K.In h) (M : h.Ns mainGlobals mg) (c : He.SaysD fa fn K) : ∃ f fd, Stands K mg row9 f fd (defBody (top 66)) (defScope (top 66)) :=
  stands_of (e := env) (rows := allRows) (r := row9) (d := d_law_great_screen) KX M c (List.mem_of_getElem? (l := allRows) (i := 9) rfl) (List.mem_of_getElem? (l := fn) (i := 9) rfl) rfl fun fd F => ⟨[], FunD.bindsN (ps := ["store", "directions", "most"]) F fun _ _ _ _ _ _ us hl => match us, hl with | [_, _, _], _ => rfl, .nil⟩
theorem st10 (KX : K.In h) (M : h.Ns mainGlobals mg) (c : He.SaysD fa fn K) : ∃ f fd, Stands K mg row10 f fd (defBody (top 64)) (defScope (top 64)) :=
  stands_of (e := env) (rows := allRows) (r := row10) (d := d_law_index_of) KX M c (List.mem_of_getElem? (l := allRows) (i := 10) rfl) (List.mem_of_getElem? (l := fn) (i := 10) rfl) rfl fun fd F => ⟨[], FunD.bindsN (ps := ["screen"]) F fun _ _ _ _ _ _ us hl => match us, hl with | [_], _ => rfl, .nil⟩
theorem st11 (KX : K.In h) (M : h.Ns mainGlobals mg) (c : He.SaysD fa fn K) : ∃ f fd, Stands K mg row11 f fd (defBody (top 68)) (defScope (top 68)) :=
  stands_of (e := env) (rows := allRows) (r := row11) (d := d_law_great_stack) KX M c (List.mem_of_getElem? (l := allRows) (i := 11) rfl) (List.mem_of_getElem? (l := fn) (i := 11) rfl) rfl fun fd F => ⟨[], FunD.bindsN (ps := ["store", "directions", "many"]) F fun _ _ _ _ _ _ us hl => match us, hl with | [_, _, _], _ => rfl, .nil⟩
theorem st12 (KX : K.In h) (M : h.Ns mainGlobals mg) (c : He.SaysD fa fn K) : ∃ f fd, Stands K mg row12 f fd (defBody (top 52)) (defScope (top 52)) :=
  stands_of (e := env) (rows := allRows) (r := row12) (d := d_law_pick) KX M c (List.mem_of_getElem? (l := allRows) (i := 12) rfl) (List.mem_of_getElem? (l := fn) (i := 12) rfl) rfl fun fd F => ⟨[], FunD.bindsN (ps := ["store", "things"]) F fun _ _ _ _ _ _ us hl => match us, hl with | [_, _], _ => rfl, .nil⟩
theorem st13 (KX : K.In h) (M : h.Ns mainGlobals mg) (c : He.SaysD fa fn K) : ∃ f fd, Stands K mg row13 f fd (defBody (top 80)) (defScope (top 80)) :=
  stands_of (e := env) (rows := allRows) (r := row13) (d := d_law_drawn_stack) KX M c (List.mem_of_getElem? (l := allRows) (i := 13) rfl) (List.mem_of_getElem? (l := fn) (i := 13) rfl) rfl fun fd F => ⟨[], FunD.bindsN (ps := ["store", "directions"]) F fun _ _ _ _ _ _ us hl => match us, hl with | [_, _], _ => rfl, .nil⟩
theorem st14 (KX : K.In h) (M : h.Ns mainGlobals mg) (c : He.SaysD fa fn K) : ∃ f fd, Stands K mg row14 f fd (defBody (top 71)) (defScope (top 71)) :=
  stands_of (e := env) (rows := allRows) (r := row14) (d := d_law_tones) KX M c (List.mem_of_getElem? (l := allRows) (i := 14) rfl) (List.mem_of_getElem? (l := fn) (i := 14) rfl) rfl fun fd F => ⟨[], FunD.bindsN (ps := ["store", "screens"]) F fun _ _ _ _ _ _ us hl => match us, hl with | [_, _], _ => rfl, .nil⟩
theorem st15 (KX : K.In h) (M : h.Ns mainGlobals mg) (c : He.SaysD fa fn K) : ∃ f fd, Stands K mg row15 f fd (defBody (top 61)) (defScope (top 61)) :=
  stands_of (e := env) (rows := allRows) (r := row15) (d := d_law_power) KX M c (List.mem_of_getElem? (l := allRows) (i := 15) rfl) (List.mem_of_getElem? (l := fn) (i := 15) rfl) rfl fun fd F => ⟨[], FunD.bindsN (ps := ["number", "many"]) F fun _ _ _ _ _ _ us hl => match us, hl with | [_, _], _ => rfl, .nil⟩
theorem st16 (KX : K.In h) (M : h.Ns mainGlobals mg) (c : He.SaysD fa fn K) : ∃ f fd, Stands K mg row16 f fd (defBody (top 69)) (defScope (top 69)) :=
  stands_of (e := env) (rows := allRows) (r := row16) (d := d_law_colour) KX M c (List.mem_of_getElem? (l := allRows) (i := 16) rfl) (List.mem_of_getElem? (l := fn) (i := 16) rfl) rfl fun fd F => ⟨[], FunD.bindsN (ps := ["store"]) F fun _ _ _ _ _ _ us hl => match us, hl with | [_], _ => rfl, .nil⟩
theorem st17 (KX : K.In h) (M : h.Ns mainGlobals mg) (c : He.SaysD fa fn K) : ∃ f fd, Stands K mg row17 f fd (defBody (top 70)) (defScope (top 70)) :=
  stands_of (e := env) (rows := allRows) (r := row17) (d := d_law_colours) KX M c (List.mem_of_getElem? (l := allRows) (i := 17) rfl) (List.mem_of_getElem? (l := fn) (i := 17) rfl) rfl fun fd F => ⟨[], FunD.bindsN (ps := ["store", "inks"]) F fun _ _ _ _ _ _ us hl => match us, hl with | [_, _], _ => rfl, .nil⟩
theorem st18 (KX : K.In h) (M : h.Ns mainGlobals mg) (c : He.SaysD fa fn K) : ∃ f fd, Stands K mg row18 f fd (defBody (top 56)) (defScope (top 56)) :=
  stands_of (e := env) (rows := allRows) (r := row18) (d := d_law_copy) KX M c (List.mem_of_getElem? (l := allRows) (i := 18) rfl) (List.mem_of_getElem? (l := fn) (i := 18) rfl) rfl fun fd F => (FunD.binds1 (ps := ["part", "deep"]) F 2 1 (by simp [He.DefD.dvs, d_law_copy]) rfl fun _ _ _ _ _ _ _ us its h1 h2 => match us, h1, its, h2 with | [_, _], _, [_], _ => ⟨_, rfl, rfl⟩).elim fun ds q => ⟨ds, q.2, q.1⟩
theorem st19 (KX : K.In h) (M : h.Ns mainGlobals mg) (c : He.SaysD fa fn K) : ∃ f fd, Stands K mg row19 f fd (defBody (top 56)) (defScope (top 56)) :=
  stands_of (e := env) (rows := allRows) (r := row19) (d := d_law_copy) KX M c (List.mem_of_getElem? (l := allRows) (i := 19) rfl) (List.mem_of_getElem? (l := fn) (i := 18) rfl) rfl fun fd F => (FunD.binds1 (ps := ["part", "deep"]) F 2 1 (by simp [He.DefD.dvs, d_law_copy]) rfl fun _ _ _ _ _ _ _ us its h1 h2 => match us, h1, its, h2 with | [_, _], _, [_], _ => ⟨_, rfl, rfl⟩).elim fun ds q => ⟨ds, q.2, q.1⟩
theorem st20 (KX : K.In h) (M : h.Ns mainGlobals mg) (c : He.SaysD fa fn K) : ∃ f fd, Stands K mg row20 f fd (defBody (top 56)) (defScope (top 56)) :=
  stands_of (e := env) (rows := allRows) (r := row20) (d := d_law_copy) KX M c (List.mem_of_getElem? (l := allRows) (i := 20) rfl) (List.mem_of_getElem? (l := fn) (i := 18) rfl) rfl fun fd F => (FunD.binds1 (ps := ["part", "deep"]) F 2 1 (by simp [He.DefD.dvs, d_law_copy]) rfl fun _ _ _ _ _ _ _ us its h1 h2 => match us, h1, its, h2 with | [_, _], _, [_], _ => ⟨_, rfl, rfl⟩).elim fun ds q => ⟨ds, q.2, q.1⟩
theorem st21 (KX : K.In h) (M : h.Ns mainGlobals mg) (c : He.SaysD fa fn K) : ∃ f fd, Stands K mg row21 f fd (defBody (top 56)) (defScope (top 56)) :=
  stands_of (e := env) (rows := allRows) (r := row21) (d := d_law_copy) KX M c (List.mem_of_getElem? (l := allRows) (i := 21) rfl) (List.mem_of_getElem? (l := fn) (i := 18) rfl) rfl fun fd F => (FunD.binds1 (ps := ["part", "deep"]) F 2 1 (by simp [He.DefD.dvs, d_law_copy]) rfl fun _ _ _ _ _ _ _ us its h1 h2 => match us, h1, its, h2 with | [_, _], _, [_], _ => ⟨_, rfl, rfl⟩).elim fun ds q => ⟨ds, q.2, q.1⟩
theorem st22 (KX : K.In h) (M : h.Ns mainGlobals mg) (c : He.SaysD fa fn K) : ∃ f fd, Stands K mg row22 f fd (defBody (top 56)) (defScope (top 56)) :=
  stands_of (e := env) (rows := allRows) (r := row22) (d := d_law_copy) KX M c (List.mem_of_getElem? (l := allRows) (i := 22) rfl) (List.mem_of_getElem? (l := fn) (i := 18) rfl) rfl fun fd F => (FunD.binds1 (ps := ["part", "deep"]) F 2 1 (by simp [He.DefD.dvs, d_law_copy]) rfl fun _ _ _ _ _ _ _ us its h1 h2 => match us, h1, its, h2 with | [_, _], _, [_], _ => ⟨_, rfl, rfl⟩).elim fun ds q => ⟨ds, q.2, q.1⟩
theorem st23 (KX : K.In h) (M : h.Ns mainGlobals mg) (c : He.SaysD fa fn K) : ∃ f fd, Stands K mg row23 f fd (defBody (top 56)) (defScope (top 56)) :=
  stands_of (e := env) (rows := allRows) (r := row23) (d := d_law_copy) KX M c (List.mem_of_getElem? (l := allRows) (i := 23) rfl) (List.mem_of_getElem? (l := fn) (i := 18) rfl) rfl fun fd F => (FunD.binds1 (ps := ["part", "deep"]) F 2 1 (by simp [He.DefD.dvs, d_law_copy]) rfl fun _ _ _ _ _ _ _ us its h1 h2 => match us, h1, its, h2 with | [_, _], _, [_], _ => ⟨_, rfl, rfl⟩).elim fun ds q => ⟨ds, q.2, q.1⟩
theorem st24 (KX : K.In h) (M : h.Ns mainGlobals mg) (c : He.SaysD fa fn K) : ∃ f fd, Stands K mg row24 f fd (defBody (top 56)) (defScope (top 56)) :=
  stands_of (e := env) (rows := allRows) (r := row24) (d := d_law_copy) KX M c (List.mem_of_getElem? (l := allRows) (i := 24) rfl) (List.mem_of_getElem? (l := fn) (i := 18) rfl) rfl fun fd F => (FunD.binds1 (ps := ["part", "deep"]) F 2 1 (by simp [He.DefD.dvs, d_law_copy]) rfl fun _ _ _ _ _ _ _ us its h1 h2 => match us, h1, its, h2 with | [_, _], _, [_], _ => ⟨_, rfl, rfl⟩).elim fun ds q => ⟨ds, q.2, q.1⟩
theorem st25 (KX : K.In h) (M : h.Ns mainGlobals mg) (c : He.SaysD fa fn K) : ∃ f fd, Stands K mg row25 f fd (defBody (top 56)) (defScope (top 56)) :=
  stands_of (e := env) (rows := allRows) (r := row25) (d := d_law_copy) KX M c (List.mem_of_getElem? (l := allRows) (i := 25) rfl) (List.mem_of_getElem? (l := fn) (i := 18) rfl) rfl fun fd F => (FunD.binds1 (ps := ["part", "deep"]) F 2 1 (by simp [He.DefD.dvs, d_law_copy]) rfl fun _ _ _ _ _ _ _ us its h1 h2 => match us, h1, its, h2 with | [_, _], _, [_], _ => ⟨_, rfl, rfl⟩).elim fun ds q => ⟨ds, q.2, q.1⟩
theorem st26 (KX : K.In h) (M : h.Ns mainGlobals mg) (c : He.SaysD fa fn K) : ∃ f fd, Stands K mg row26 f fd (defBody (top 56)) (defScope (top 56)) :=
  stands_of (e := env) (rows := allRows) (r := row26) (d := d_law_copy) KX M c (List.mem_of_getElem? (l := allRows) (i := 26) rfl) (List.mem_of_getElem? (l := fn) (i := 18) rfl) rfl fun fd F => (FunD.binds1 (ps := ["part", "deep"]) F 2 1 (by simp [He.DefD.dvs, d_law_copy]) rfl fun _ _ _ _ _ _ _ us its h1 h2 => match us, h1, its, h2 with | [_, _], _, [_], _ => ⟨_, rfl, rfl⟩).elim fun ds q => ⟨ds, q.2, q.1⟩
theorem st27 (KX : K.In h) (M : h.Ns mainGlobals mg) (c : He.SaysD fa fn K) : ∃ f fd, Stands K mg row27 f fd (defBody (top 56)) (defScope (top 56)) :=
  stands_of (e := env) (rows := allRows) (r := row27) (d := d_law_copy) KX M c (List.mem_of_getElem? (l := allRows) (i := 27) rfl) (List.mem_of_getElem? (l := fn) (i := 18) rfl) rfl fun fd F => (FunD.binds1 (ps := ["part", "deep"]) F 2 1 (by simp [He.DefD.dvs, d_law_copy]) rfl fun _ _ _ _ _ _ _ us its h1 h2 => match us, h1, its, h2 with | [_, _], _, [_], _ => ⟨_, rfl, rfl⟩).elim fun ds q => ⟨ds, q.2, q.1⟩
theorem st28 (KX : K.In h) (M : h.Ns mainGlobals mg) (c : He.SaysD fa fn K) : ∃ f fd, Stands K mg row28 f fd (defBody (top 56)) (defScope (top 56)) :=
  stands_of (e := env) (rows := allRows) (r := row28) (d := d_law_copy) KX M c (List.mem_of_getElem? (l := allRows) (i := 28) rfl) (List.mem_of_getElem? (l := fn) (i := 18) rfl) rfl fun fd F => (FunD.binds1 (ps := ["part", "deep"]) F 1 0 (by simp [He.DefD.dvs, d_law_copy]) rfl fun _ _ _ _ _ _ _ us its h1 h2 => match us, h1, its, h2 with | [_], _, [_], _ => ⟨_, rfl, rfl⟩).elim fun ds q => ⟨ds, q.2, q.1⟩
theorem st29 (KX : K.In h) (M : h.Ns mainGlobals mg) (c : He.SaysD fa fn K) : ∃ f fd, Stands K mg row29 f fd (defBody (top 63)) (defScope (top 63)) :=
  stands_of (e := env) (rows := allRows) (r := row29) (d := d_law_unit_cell) KX M c (List.mem_of_getElem? (l := allRows) (i := 29) rfl) (List.mem_of_getElem? (l := fn) (i := 19) rfl) rfl fun fd F => ⟨[], FunD.bindsN (ps := ["directions", "j"]) F fun _ _ _ _ _ _ us hl => match us, hl with | [_, _], _ => rfl, .nil⟩
theorem st30 (KX : K.In h) (M : h.Ns mainGlobals mg) (c : He.SaysD fa fn K) : ∃ f fd, Stands K mg row30 f fd (defBody (top 62)) (defScope (top 62)) :=
  stands_of (e := env) (rows := allRows) (r := row30) (d := d_law_unit) KX M c (List.mem_of_getElem? (l := allRows) (i := 30) rfl) (List.mem_of_getElem? (l := fn) (i := 20) rfl) rfl fun fd F => ⟨[], FunD.bindsN (ps := ["directions"]) F fun _ _ _ _ _ _ us hl => match us, hl with | [_], _ => rfl, .nil⟩
theorem st31 (KX : K.In h) (M : h.Ns mainGlobals mg) (c : He.SaysD fa fn K) : ∃ f fd, Stands K mg row31 f fd (defBody (top 58)) (defScope (top 58)) :=
  stands_of (e := env) (rows := allRows) (r := row31) (d := d_law_with) KX M c (List.mem_of_getElem? (l := allRows) (i := 31) rfl) (List.mem_of_getElem? (l := fn) (i := 21) rfl) rfl fun fd F => ⟨[], FunD.bindsN (ps := ["things", "place", "part"]) F fun _ _ _ _ _ _ us hl => match us, hl with | [_, _, _], _ => rfl, .nil⟩
theorem st32 (KX : K.In h) (M : h.Ns mainGlobals mg) (c : He.SaysD fa fn K) : ∃ f fd, Stands K mg row32 f fd (defBody (top 67)) (defScope (top 67)) :=
  stands_of (e := env) (rows := allRows) (r := row32) (d := d_law_box_basis) KX M c (List.mem_of_getElem? (l := allRows) (i := 32) rfl) (List.mem_of_getElem? (l := fn) (i := 22) rfl) rfl fun fd F => ⟨[], FunD.bindsN (ps := ["sizes"]) F fun _ _ _ _ _ _ us hl => match us, hl with | [_], _ => rfl, .nil⟩
theorem st33 (KX : K.In h) (M : h.Ns mainGlobals mg) (c : He.SaysD fa fn K) : ∃ f fd, Stands K mg row33 f fd (defBody (top 57)) (defScope (top 57)) :=
  stands_of (e := env) (rows := allRows) (r := row33) (d := d_law_is_number) KX M c (List.mem_of_getElem? (l := allRows) (i := 33) rfl) (List.mem_of_getElem? (l := fn) (i := 23) rfl) rfl fun fd F => ⟨[], FunD.bindsN (ps := ["part"]) F fun _ _ _ _ _ _ us hl => match us, hl with | [_], _ => rfl, .nil⟩
theorem st34 (KX : K.In h) (M : h.Ns mainGlobals mg) (c : He.SaysD fa fn K) : ∃ f fd, Stands K mg row34 f fd (defBody (top 60)) (defScope (top 60)) :=
  stands_of (e := env) (rows := allRows) (r := row34) (d := d_law_bent) KX M c (List.mem_of_getElem? (l := allRows) (i := 34) rfl) (List.mem_of_getElem? (l := fn) (i := 24) rfl) rfl fun fd F => ⟨[], FunD.bindsN (ps := ["store", "thing"]) F fun _ _ _ _ _ _ us hl => match us, hl with | [_, _], _ => rfl, .nil⟩
theorem st35 (KX : K.In h) (M : h.Ns mainGlobals mg) (c : He.SaysD fa fn K) : ∃ f fd, Stands K mg row35 f fd (defBody (top 59)) (defScope (top 59)) :=
  stands_of (e := env) (rows := allRows) (r := row35) (d := d_law_entry) KX M c (List.mem_of_getElem? (l := allRows) (i := 35) rfl) (List.mem_of_getElem? (l := fn) (i := 25) rfl) rfl fun fd F => ⟨[], FunD.bindsN (ps := ["screen", "i", "j", "part"]) F fun _ _ _ _ _ _ us hl => match us, hl with | [_, _, _, _], _ => rfl, .nil⟩
theorem st36 (KX : K.In h) (M : h.Ns mainGlobals mg) (c : He.SaysD fa fn K) : ∃ f fd, Stands K mg row36 f fd (defBody (top 74)) (defScope (top 74)) :=
  stands_of (e := env) (rows := allRows) (r := row36) (d := d_law_bad_screens) KX M c (List.mem_of_getElem? (l := allRows) (i := 36) rfl) (List.mem_of_getElem? (l := fn) (i := 26) rfl) rfl fun fd F => ⟨[], FunD.bindsN (ps := ["store", "screen"]) F fun _ _ _ _ _ _ us hl => match us, hl with | [_, _], _ => rfl, .nil⟩
theorem st37 (KX : K.In h) (M : h.Ns mainGlobals mg) (c : He.SaysD fa fn K) : ∃ f fd, Stands K mg row37 f fd (defBody (top 75)) (defScope (top 75)) :=
  stands_of (e := env) (rows := allRows) (r := row37) (d := d_law_bad_catalogs) KX M c (List.mem_of_getElem? (l := allRows) (i := 37) rfl) (List.mem_of_getElem? (l := fn) (i := 27) rfl) rfl fun fd F => ⟨[], FunD.bindsN (ps := ["store", "screens"]) F fun _ _ _ _ _ _ us hl => match us, hl with | [_, _], _ => rfl, .nil⟩
theorem st38 (KX : K.In h) (M : h.Ns mainGlobals mg) (c : He.SaysD fa fn K) : ∃ f fd, Stands K mg row38 f fd (defBody (top 76)) (defScope (top 76)) :=
  stands_of (e := env) (rows := allRows) (r := row38) (d := d_law_bad_stacks) KX M c (List.mem_of_getElem? (l := allRows) (i := 38) rfl) (List.mem_of_getElem? (l := fn) (i := 28) rfl) rfl fun fd F => ⟨[], FunD.bindsN (ps := ["store", "screens"]) F fun _ _ _ _ _ _ us hl => match us, hl with | [_, _], _ => rfl, .nil⟩
theorem st39 (KX : K.In h) (M : h.Ns mainGlobals mg) (c : He.SaysD fa fn K) : ∃ f fd, Stands K mg row39 f fd (defBody (top 72)) (defScope (top 72)) :=
  stands_of (e := env) (rows := allRows) (r := row39) (d := d_law_no_numbers) KX M c (List.mem_of_getElem? (l := allRows) (i := 39) rfl) (List.mem_of_getElem? (l := fn) (i := 29) rfl) rfl fun fd F => ⟨[], FunD.bindsN (ps := []) F fun _ _ _ _ _ _ us hl => match us, hl with | [], _ => rfl, .nil⟩
theorem st40 (KX : K.In h) (M : h.Ns mainGlobals mg) (c : He.SaysD fa fn K) : ∃ f fd, Stands K mg row40 f fd (defBody (top 73)) (defScope (top 73)) :=
  stands_of (e := env) (rows := allRows) (r := row40) (d := d_law_bad_numbers) KX M c (List.mem_of_getElem? (l := allRows) (i := 40) rfl) (List.mem_of_getElem? (l := fn) (i := 30) rfl) rfl fun fd F => ⟨[], FunD.bindsN (ps := ["low", "high"]) F fun _ _ _ _ _ _ us hl => match us, hl with | [_, _], _ => rfl, .nil⟩
theorem st41 (KX : K.In h) (M : h.Ns mainGlobals mg) (c : He.SaysD fa fn K) : ∃ f fd, Stands K mg row41 f fd (defBody (top 78)) (defScope (top 78)) :=
  stands_of (e := env) (rows := allRows) (r := row41) (d := d_law_bad_colour) KX M c (List.mem_of_getElem? (l := allRows) (i := 41) rfl) (List.mem_of_getElem? (l := fn) (i := 31) rfl) rfl fun fd F => ⟨[], FunD.bindsN (ps := ["store", "colour"]) F fun _ _ _ _ _ _ us hl => match us, hl with | [_, _], _ => rfl, .nil⟩
theorem st42 (KX : K.In h) (M : h.Ns mainGlobals mg) (c : He.SaysD fa fn K) : ∃ f fd, Stands K mg row42 f fd (defBody (top 77)) (defScope (top 77)) :=
  stands_of (e := env) (rows := allRows) (r := row42) (d := d_law_bad_colours) KX M c (List.mem_of_getElem? (l := allRows) (i := 42) rfl) (List.mem_of_getElem? (l := fn) (i := 32) rfl) rfl fun fd F => ⟨[], FunD.bindsN (ps := ["store", "colours"]) F fun _ _ _ _ _ _ us hl => match us, hl with | [_, _], _ => rfl, .nil⟩
theorem st43 (KX : K.In h) (M : h.Ns mainGlobals mg) (c : He.SaysD fa fn K) : ∃ f fd, Stands K mg row43 f fd (defBody (top 79)) (defScope (top 79)) :=
  stands_of (e := env) (rows := allRows) (r := row43) (d := d_law_bad_tones) KX M c (List.mem_of_getElem? (l := allRows) (i := 43) rfl) (List.mem_of_getElem? (l := fn) (i := 33) rfl) rfl fun fd F => ⟨[], FunD.bindsN (ps := ["store", "screens", "tones"]) F fun _ _ _ _ _ _ us hl => match us, hl with | [_, _, _], _ => rfl, .nil⟩
theorem st44 (KX : K.In h) (M : h.Ns mainGlobals mg) (c : He.SaysD fa fn K) : ∃ f fd, Stands K mg row44 f fd (defBody (top 19)) (defScope (top 19)) :=
  stands_of (e := env) (rows := allRows) (r := row44) (d := d_index_bounded) KX M c (List.mem_of_getElem? (l := allRows) (i := 44) rfl) (List.mem_of_getElem? (l := fn) (i := 34) rfl) rfl fun fd F => ⟨[], FunD.bindsN (ps := ["screens"]) F fun _ _ _ _ _ _ us hl => match us, hl with | [_], _ => rfl, .nil⟩
theorem st45 (KX : K.In h) (M : h.Ns mainGlobals mg) (c : He.SaysD fa fn K) : ∃ f fd, Stands K mg row45 f fd (defBody (top 12)) (defScope (top 12)) :=
  stands_of (e := env) (rows := allRows) (r := row45) (d := d_is_whole_checks) KX M c (List.mem_of_getElem? (l := allRows) (i := 45) rfl) (List.mem_of_getElem? (l := fn) (i := 35) rfl) rfl fun fd F => ⟨[], FunD.bindsN (ps := ["value"]) F fun _ _ _ _ _ _ us hl => match us, hl with | [_], _ => rfl, .nil⟩
theorem st46 (KX : K.In h) (M : h.Ns mainGlobals mg) (c : He.SaysD fa fn K) : ∃ f fd, Stands K mg row46 f fd (defBody (top 17)) (defScope (top 17)) :=
  stands_of (e := env) (rows := allRows) (r := row46) (d := d_is_square) KX M c (List.mem_of_getElem? (l := allRows) (i := 46) rfl) (List.mem_of_getElem? (l := fn) (i := 36) rfl) rfl fun fd F => ⟨[], FunD.bindsN (ps := ["value"]) F fun _ _ _ _ _ _ us hl => match us, hl with | [_], _ => rfl, .nil⟩
theorem st47 (KX : K.In h) (M : h.Ns mainGlobals mg) (c : He.SaysD fa fn K) : ∃ f fd, Stands K mg row47 f fd (defBody (top 18)) (defScope (top 18)) :=
  stands_of (e := env) (rows := allRows) (r := row47) (d := d_is_basis_row) KX M c (List.mem_of_getElem? (l := allRows) (i := 47) rfl) (List.mem_of_getElem? (l := fn) (i := 37) rfl) rfl fun fd F => ⟨[], FunD.bindsN (ps := ["square", "i"]) F fun _ _ _ _ _ _ us hl => match us, hl with | [_, _], _ => rfl, .nil⟩
theorem st48 (KX : K.In h) (M : h.Ns mainGlobals mg) (c : He.SaysD fa fn K) : ∃ f fd, Stands K mg row48 f fd (defBody (top 20)) (defScope (top 20)) :=
  stands_of (e := env) (rows := allRows) (r := row48) (d := d_is_screen) KX M c (List.mem_of_getElem? (l := allRows) (i := 48) rfl) (List.mem_of_getElem? (l := fn) (i := 38) rfl) rfl fun fd F => ⟨[], FunD.bindsN (ps := ["value"]) F fun _ _ _ _ _ _ us hl => match us, hl with | [_], _ => rfl, .nil⟩
theorem st49 (KX : K.In h) (M : h.Ns mainGlobals mg) (c : He.SaysD fa fn K) : ∃ f fd, Stands K mg row49 f fd (defBody (top 21)) (defScope (top 21)) :=
  stands_of (e := env) (rows := allRows) (r := row49) (d := d_is_catalog) KX M c (List.mem_of_getElem? (l := allRows) (i := 49) rfl) (List.mem_of_getElem? (l := fn) (i := 39) rfl) rfl fun fd F => ⟨[], FunD.bindsN (ps := ["value"]) F fun _ _ _ _ _ _ us hl => match us, hl with | [_], _ => rfl, .nil⟩
theorem st50 (KX : K.In h) (M : h.Ns mainGlobals mg) (c : He.SaysD fa fn K) : ∃ f fd, Stands K mg row50 f fd (defBody (top 22)) (defScope (top 22)) :=
  stands_of (e := env) (rows := allRows) (r := row50) (d := d_is_stack) KX M c (List.mem_of_getElem? (l := allRows) (i := 50) rfl) (List.mem_of_getElem? (l := fn) (i := 40) rfl) rfl fun fd F => ⟨[], FunD.bindsN (ps := ["value"]) F fun _ _ _ _ _ _ us hl => match us, hl with | [_], _ => rfl, .nil⟩
theorem st51 (KX : K.In h) (M : h.Ns mainGlobals mg) (c : He.SaysD fa fn K) : ∃ f fd, Stands K mg row51 f fd (defBody (top 25)) (defScope (top 25)) :=
  stands_of (e := env) (rows := allRows) (r := row51) (d := d_check_stack) KX M c (List.mem_of_getElem? (l := allRows) (i := 51) rfl) (List.mem_of_getElem? (l := fn) (i := 41) rfl) rfl fun fd F => ⟨[], FunD.bindsN (ps := ["value"]) F fun _ _ _ _ _ _ us hl => match us, hl with | [_], _ => rfl, .nil⟩
theorem st52 (KX : K.In h) (M : h.Ns mainGlobals mg) (c : He.SaysD fa fn K) : ∃ f fd, Stands K mg row52 f fd (defBody (top 30)) (defScope (top 30)) :=
  stands_of (e := env) (rows := allRows) (r := row52) (d := d_is_whole_tints) KX M c (List.mem_of_getElem? (l := allRows) (i := 52) rfl) (List.mem_of_getElem? (l := fn) (i := 42) rfl) rfl fun fd F => ⟨[], FunD.bindsN (ps := ["value"]) F fun _ _ _ _ _ _ us hl => match us, hl with | [_], _ => rfl, .nil⟩
theorem st53 (KX : K.In h) (M : h.Ns mainGlobals mg) (c : He.SaysD fa fn K) : ∃ f fd, Stands K mg row53 f fd (defBody (top 36)) (defScope (top 36)) :=
  stands_of (e := env) (rows := allRows) (r := row53) (d := d_has_tones) KX M c (List.mem_of_getElem? (l := allRows) (i := 53) rfl) (List.mem_of_getElem? (l := fn) (i := 43) rfl) rfl fun fd F => ⟨[], FunD.bindsN (ps := ["indices", "value"]) F fun _ _ _ _ _ _ us hl => match us, hl with | [_, _], _ => rfl, .nil⟩
theorem st54 (KX : K.In h) (M : h.Ns mainGlobals mg) (c : He.SaysD fa fn K) : ∃ f fd, Stands K mg row54 f fd (defBody (top 37)) (defScope (top 37)) :=
  stands_of (e := env) (rows := allRows) (r := row54) (d := d_check_tones) KX M c (List.mem_of_getElem? (l := allRows) (i := 54) rfl) (List.mem_of_getElem? (l := fn) (i := 44) rfl) rfl fun fd F => ⟨[], FunD.bindsN (ps := ["indices", "value"]) F fun _ _ _ _ _ _ us hl => match us, hl with | [_, _], _ => rfl, .nil⟩
theorem st55 (KX : K.In h) (M : h.Ns mainGlobals mg) (c : He.SaysD fa fn K) : ∃ f fd, Stands K mg row55 f fd (defBody (top 14)) (defScope (top 14)) :=
  stands_of (e := env) (rows := allRows) (r := row55) (d := d_is_within) KX M c (List.mem_of_getElem? (l := allRows) (i := 55) rfl) (List.mem_of_getElem? (l := fn) (i := 45) rfl) rfl fun fd F => ⟨[], FunD.bindsN (ps := ["value", "low", "high"]) F fun _ _ _ _ _ _ us hl => match us, hl with | [_, _, _], _ => rfl, .nil⟩
theorem st56 (KX : K.In h) (M : h.Ns mainGlobals mg) (c : He.SaysD fa fn K) : ∃ f fd, Stands K mg row56 f fd (defBody (top 15)) (defScope (top 15)) :=
  stands_of (e := env) (rows := allRows) (r := row56) (d := d_check_bounds) KX M c (List.mem_of_getElem? (l := allRows) (i := 56) rfl) (List.mem_of_getElem? (l := fn) (i := 46) rfl) rfl fun fd F => ⟨[], FunD.bindsN (ps := ["low", "high"]) F fun _ _ _ _ _ _ us hl => match us, hl with | [_, _], _ => rfl, .nil⟩
theorem st57 (KX : K.In h) (M : h.Ns mainGlobals mg) (c : He.SaysD fa fn K) : ∃ f fd, Stands K mg row57 f fd (defBody (top 16)) (defScope (top 16)) :=
  stands_of (e := env) (rows := allRows) (r := row57) (d := d_is_number) KX M c (List.mem_of_getElem? (l := allRows) (i := 57) rfl) (List.mem_of_getElem? (l := fn) (i := 47) rfl) rfl fun fd F => (FunD.binds1 (ps := ["value", "low", "high"]) F 3 2 (by simp [He.DefD.dvs, d_is_number]) rfl fun _ _ _ _ _ _ _ us its h1 h2 => match us, h1, its, h2 with | [_, _, _], _, [_, _], _ => ⟨_, rfl, rfl⟩).elim fun ds q => ⟨ds, q.2, q.1⟩
theorem st58 (KX : K.In h) (M : h.Ns mainGlobals mg) (c : He.SaysD fa fn K) : ∃ f fd, Stands K mg row58 f fd (defBody (top 23)) (defScope (top 23)) :=
  stands_of (e := env) (rows := allRows) (r := row58) (d := d_check_number) KX M c (List.mem_of_getElem? (l := allRows) (i := 58) rfl) (List.mem_of_getElem? (l := fn) (i := 48) rfl) rfl fun fd F => (FunD.binds1 (ps := ["value", "low", "high"]) F 3 2 (by simp [He.DefD.dvs, d_check_number]) rfl fun _ _ _ _ _ _ _ us its h1 h2 => match us, h1, its, h2 with | [_, _, _], _, [_, _], _ => ⟨_, rfl, rfl⟩).elim fun ds q => ⟨ds, q.2, q.1⟩
theorem st59 (KX : K.In h) (M : h.Ns mainGlobals mg) (c : He.SaysD fa fn K) : ∃ f fd, Stands K mg row59 f fd (defBody (top 32)) (defScope (top 32)) :=
  stands_of (e := env) (rows := allRows) (r := row59) (d := d_is_colour) KX M c (List.mem_of_getElem? (l := allRows) (i := 59) rfl) (List.mem_of_getElem? (l := fn) (i := 49) rfl) rfl fun fd F => ⟨[], FunD.bindsN (ps := ["value"]) F fun _ _ _ _ _ _ us hl => match us, hl with | [_], _ => rfl, .nil⟩
theorem st60 (KX : K.In h) (M : h.Ns mainGlobals mg) (c : He.SaysD fa fn K) : ∃ f fd, Stands K mg row60 f fd (defBody (top 33)) (defScope (top 33)) :=
  stands_of (e := env) (rows := allRows) (r := row60) (d := d_has_colours) KX M c (List.mem_of_getElem? (l := allRows) (i := 60) rfl) (List.mem_of_getElem? (l := fn) (i := 50) rfl) rfl fun fd F => ⟨[], FunD.bindsN (ps := ["many", "value"]) F fun _ _ _ _ _ _ us hl => match us, hl with | [_, _], _ => rfl, .nil⟩
theorem st61 (KX : K.In h) (M : h.Ns mainGlobals mg) (c : He.SaysD fa fn K) : ∃ f fd, Stands K mg row61 f fd (defBody (top 34)) (defScope (top 34)) :=
  stands_of (e := env) (rows := allRows) (r := row61) (d := d_check_colours) KX M c (List.mem_of_getElem? (l := allRows) (i := 61) rfl) (List.mem_of_getElem? (l := fn) (i := 51) rfl) rfl fun fd F => ⟨[], FunD.bindsN (ps := ["many", "value"]) F fun _ _ _ _ _ _ us hl => match us, hl with | [_, _], _ => rfl, .nil⟩
theorem st62 (KX : K.In h) (M : h.Ns mainGlobals mg) (c : He.SaysD fa fn K) : ∃ f fd, Stands K mg row62 f fd (defBody (top 35)) (defScope (top 35)) :=
  stands_of (e := env) (rows := allRows) (r := row62) (d := d_check_wish) KX M c (List.mem_of_getElem? (l := allRows) (i := 62) rfl) (List.mem_of_getElem? (l := fn) (i := 52) rfl) rfl fun fd F => ⟨[], FunD.bindsN (ps := ["value"]) F fun _ _ _ _ _ _ us hl => match us, hl with | [_], _ => rfl, .nil⟩
theorem st63 (KX : K.In h) (M : h.Ns mainGlobals mg) (c : He.SaysD fa fn K) : ∃ f fd, Stands K mg row63 f fd (defBody (top 39)) (defScope (top 39)) :=
  stands_of (e := env) (rows := allRows) (r := row63) (d := d_blend) KX M c (List.mem_of_getElem? (l := allRows) (i := 63) rfl) (List.mem_of_getElem? (l := fn) (i := 53) rfl) rfl fun fd F => ⟨[], FunD.bindsN (ps := ["weights", "colours"]) F fun _ _ _ _ _ _ us hl => match us, hl with | [_, _], _ => rfl, .nil⟩
theorem st64 (KX : K.In h) (M : h.Ns mainGlobals mg) (c : He.SaysD fa fn K) : ∃ f fd, Stands K mg row64 f fd (defBody (top 40)) (defScope (top 40)) :=
  stands_of (e := env) (rows := allRows) (r := row64) (d := d_total_of) KX M c (List.mem_of_getElem? (l := allRows) (i := 64) rfl) (List.mem_of_getElem? (l := fn) (i := 54) rfl) rfl fun fd F => ⟨[], FunD.bindsN (ps := ["indices"]) F fun _ _ _ _ _ _ us hl => match us, hl with | [_], _ => rfl, .nil⟩
theorem st65 (KX : K.In h) (M : h.Ns mainGlobals mg) (c : He.SaysD fa fn K) : ∃ f fd, Stands K mg row65 f fd (defBody (top 38)) (defScope (top 38)) :=
  stands_of (e := env) (rows := allRows) (r := row65) (d := d_products) KX M c (List.mem_of_getElem? (l := allRows) (i := 65) rfl) (List.mem_of_getElem? (l := fn) (i := 55) rfl) rfl fun fd F => ⟨[], FunD.bindsN (ps := ["indices", "tones"]) F fun _ _ _ _ _ _ us hl => match us, hl with | [_, _], _ => rfl, .nil⟩
theorem st66 (KX : K.In h) (M : h.Ns mainGlobals mg) (c : He.SaysD fa fn K) : ∃ f fd, Stands K mg row66 f fd (defBody (top 41)) (defScope (top 41)) :=
  stands_of (e := env) (rows := allRows) (r := row66) (d := d_gaps) KX M c (List.mem_of_getElem? (l := allRows) (i := 66) rfl) (List.mem_of_getElem? (l := fn) (i := 56) rfl) rfl fun fd F => ⟨[], FunD.bindsN (ps := ["indices", "tones", "colours", "wish"]) F fun _ _ _ _ _ _ us hl => match us, hl with | [_, _, _, _], _ => rfl, .nil⟩
theorem st67 (KX : K.In h) (M : h.Ns mainGlobals mg) (c : He.SaysD fa fn K) : ∃ f fd, Stands K mg row67 f fd (defBody (top 24)) (defScope (top 24)) :=
  stands_of (e := env) (rows := allRows) (r := row67) (d := d_check_screen) KX M c (List.mem_of_getElem? (l := allRows) (i := 67) rfl) (List.mem_of_getElem? (l := fn) (i := 57) rfl) rfl fun fd F => ⟨[], FunD.bindsN (ps := ["value"]) F fun _ _ _ _ _ _ us hl => match us, hl with | [_], _ => rfl, .nil⟩
theorem st68 (KX : K.In h) (M : h.Ns mainGlobals mg) (c : He.SaysD fa fn K) : ∃ f fd, Stands K mg row68 f fd (defBody (top 27)) (defScope (top 27)) :=
  stands_of (e := env) (rows := allRows) (r := row68) (d := d_diagonal_of) KX M c (List.mem_of_getElem? (l := allRows) (i := 68) rfl) (List.mem_of_getElem? (l := fn) (i := 58) rfl) rfl fun fd F => ⟨[], FunD.bindsN (ps := ["basis"]) F fun _ _ _ _ _ _ us hl => match us, hl with | [_], _ => rfl, .nil⟩
theorem st69 (KX : K.In h) (M : h.Ns mainGlobals mg) (c : He.SaysD fa fn K) : ∃ f fd, Stands K mg row69 f fd (defBody (top 28)) (defScope (top 28)) :=
  stands_of (e := env) (rows := allRows) (r := row69) (d := d_index_of) KX M c (List.mem_of_getElem? (l := allRows) (i := 69) rfl) (List.mem_of_getElem? (l := fn) (i := 59) rfl) rfl fun fd F => ⟨[], FunD.bindsN (ps := ["screen"]) F fun _ _ _ _ _ _ us hl => match us, hl with | [_], _ => rfl, .nil⟩
theorem st70 (KX : K.In h) (M : h.Ns mainGlobals mg) (c : He.SaysD fa fn K) : ∃ f fd, Stands K mg row70 f fd (defBody (top 44)) (defScope (top 44)) :=
  stands_of (e := env) (rows := allRows) (r := row70) (d := d_best_tone) KX M c (List.mem_of_getElem? (l := allRows) (i := 70) rfl) (List.mem_of_getElem? (l := fn) (i := 60) rfl) rfl fun fd F => ⟨[], FunD.bindsN (ps := ["screens", "tones", "place", "colours", "wish"]) F fun _ _ _ _ _ _ us hl => match us, hl with | [_, _, _, _, _], _ => rfl, .nil⟩
theorem st71 (KX : K.In h) (M : h.Ns mainGlobals mg) (c : He.SaysD fa fn K) : ∃ f fd, Stands K mg row71 f fd (defBody (top 42)) (defScope (top 42)) :=
  stands_of (e := env) (rows := allRows) (r := row71) (d := d_squared) KX M c (List.mem_of_getElem? (l := allRows) (i := 71) rfl) (List.mem_of_getElem? (l := fn) (i := 61) rfl) rfl fun fd F => ⟨[], FunD.bindsN (ps := ["indices", "tones", "colours", "wish"]) F fun _ _ _ _ _ _ us hl => match us, hl with | [_, _, _, _], _ => rfl, .nil⟩
theorem st72 (KX : K.In h) (M : h.Ns mainGlobals mg) (c : He.SaysD fa fn K) : ∃ f fd, Stands K mg row72 f fd (defBody (top 43)) (defScope (top 43)) :=
  stands_of (e := env) (rows := allRows) (r := row72) (d := d_distance) KX M c (List.mem_of_getElem? (l := allRows) (i := 72) rfl) (List.mem_of_getElem? (l := fn) (i := 62) rfl) rfl fun fd F => ⟨[], FunD.bindsN (ps := ["screens", "tones", "colours", "wish"]) F fun _ _ _ _ _ _ us hl => match us, hl with | [_, _, _, _], _ => rfl, .nil⟩
theorem st73 (KX : K.In h) (M : h.Ns mainGlobals mg) (c : He.SaysD fa fn K) : ∃ f fd, Stands K mg row73 f fd (defBody (top 84)) (defScope (top 84)) :=
  stands_of (e := env) (rows := allRows) (r := row73) (d := d_law_refused) KX M c (List.mem_of_getElem? (l := allRows) (i := 73) rfl) (List.mem_of_getElem? (l := fn) (i := 63) rfl) rfl fun fd F => ⟨[], FunD.bindsN (ps := ["which", "screens", "tones", "place", "colours", "wish"]) F fun _ _ _ _ _ _ us hl => match us, hl with | [_, _, _, _, _, _], _ => rfl, .nil⟩
theorem st74 (KX : K.In h) (M : h.Ns mainGlobals mg) (c : He.SaysD fa fn K) : ∃ f fd, Stands K mg row74 f fd (defBody (top 85)) (defScope (top 85)) :=
  stands_of (e := env) (rows := allRows) (r := row74) (d := d_law_refusals_hold) KX M c (List.mem_of_getElem? (l := allRows) (i := 74) rfl) (List.mem_of_getElem? (l := fn) (i := 64) rfl) rfl fun fd F => ⟨[], FunD.bindsN (ps := ["store", "screens", "tones", "place", "colours", "wish"]) F fun _ _ _ _ _ _ us hl => match us, hl with | [_, _, _, _, _, _], _ => rfl, .nil⟩
theorem st75 (KX : K.In h) (M : h.Ns mainGlobals mg) (c : He.SaysD fa fn K) : ∃ f fd, Stands K mg row75 f fd (defBody (top 81)) (defScope (top 81)) :=
  stands_of (e := env) (rows := allRows) (r := row75) (d := d_law_equal) KX M c (List.mem_of_getElem? (l := allRows) (i := 75) rfl) (List.mem_of_getElem? (l := fn) (i := 65) rfl) rfl fun fd F => ⟨[], FunD.bindsN (ps := ["one", "two"]) F fun _ _ _ _ _ _ us hl => match us, hl with | [_, _], _ => rfl, .nil⟩
theorem st76 (KX : K.In h) (M : h.Ns mainGlobals mg) (c : He.SaysD fa fn K) : ∃ f fd, Stands K mg row76 f fd (defBody (top 82)) (defScope (top 82)) :=
  stands_of (e := env) (rows := allRows) (r := row76) (d := d_law_far) KX M c (List.mem_of_getElem? (l := allRows) (i := 76) rfl) (List.mem_of_getElem? (l := fn) (i := 66) rfl) rfl fun fd F => ⟨[], FunD.bindsN (ps := ["screens", "tones", "colours", "wish"]) F fun _ _ _ _ _ _ us hl => match us, hl with | [_, _, _, _], _ => rfl, .nil⟩
theorem st77 (KX : K.In h) (M : h.Ns mainGlobals mg) (c : He.SaysD fa fn K) : ∃ f fd, Stands K mg row77 f fd (defBody (top 83)) (defScope (top 83)) :=
  stands_of (e := env) (rows := allRows) (r := row77) (d := d_law_is_best) KX M c (List.mem_of_getElem? (l := allRows) (i := 77) rfl) (List.mem_of_getElem? (l := fn) (i := 67) rfl) rfl fun fd F => ⟨[], FunD.bindsN (ps := ["screens", "tones", "place", "colours", "wish", "told"]) F fun _ _ _ _ _ _ us hl => match us, hl with | [_, _, _, _, _, _], _ => rfl, .nil⟩
def tx : Txt := [(defBody (top 47), defScope (top 47)), (defBody (top 48), defScope (top 48)), (defBody (top 49), defScope (top 49)), (defBody (top 50), defScope (top 50)), (defBody (top 53), defScope (top 53)), (defBody (top 55), defScope (top 55)), (defBody (top 65), defScope (top 65)), (defBody (top 51), defScope (top 51)), (defBody (top 54), defScope (top 54)), (defBody (top 66), defScope (top 66)), (defBody (top 64), defScope (top 64)), (defBody (top 68), defScope (top 68)), (defBody (top 52), defScope (top 52)), (defBody (top 80), defScope (top 80)), (defBody (top 71), defScope (top 71)), (defBody (top 61), defScope (top 61)), (defBody (top 69), defScope (top 69)), (defBody (top 70), defScope (top 70)), (defBody (top 56), defScope (top 56)), (defBody (top 56), defScope (top 56)), (defBody (top 56), defScope (top 56)), (defBody (top 56), defScope (top 56)), (defBody (top 56), defScope (top 56)), (defBody (top 56), defScope (top 56)), (defBody (top 56), defScope (top 56)), (defBody (top 56), defScope (top 56)), (defBody (top 56), defScope (top 56)), (defBody (top 56), defScope (top 56)), (defBody (top 56), defScope (top 56)), (defBody (top 63), defScope (top 63)), (defBody (top 62), defScope (top 62)), (defBody (top 58), defScope (top 58)), (defBody (top 67), defScope (top 67)), (defBody (top 57), defScope (top 57)), (defBody (top 60), defScope (top 60)), (defBody (top 59), defScope (top 59)), (defBody (top 74), defScope (top 74)), (defBody (top 75), defScope (top 75)), (defBody (top 76), defScope (top 76)), (defBody (top 72), defScope (top 72)), (defBody (top 73), defScope (top 73)), (defBody (top 78), defScope (top 78)), (defBody (top 77), defScope (top 77)), (defBody (top 79), defScope (top 79)), (defBody (top 19), defScope (top 19)), (defBody (top 12), defScope (top 12)), (defBody (top 17), defScope (top 17)), (defBody (top 18), defScope (top 18)), (defBody (top 20), defScope (top 20)), (defBody (top 21), defScope (top 21)), (defBody (top 22), defScope (top 22)), (defBody (top 25), defScope (top 25)), (defBody (top 30), defScope (top 30)), (defBody (top 36), defScope (top 36)), (defBody (top 37), defScope (top 37)), (defBody (top 14), defScope (top 14)), (defBody (top 15), defScope (top 15)), (defBody (top 16), defScope (top 16)), (defBody (top 23), defScope (top 23)), (defBody (top 32), defScope (top 32)), (defBody (top 33), defScope (top 33)), (defBody (top 34), defScope (top 34)), (defBody (top 35), defScope (top 35)), (defBody (top 39), defScope (top 39)), (defBody (top 40), defScope (top 40)), (defBody (top 38), defScope (top 38)), (defBody (top 41), defScope (top 41)), (defBody (top 24), defScope (top 24)), (defBody (top 27), defScope (top 27)), (defBody (top 28), defScope (top 28)), (defBody (top 44), defScope (top 44)), (defBody (top 42), defScope (top 42)), (defBody (top 43), defScope (top 43)), (defBody (top 84), defScope (top 84)), (defBody (top 85), defScope (top 85)), (defBody (top 81), defScope (top 81)), (defBody (top 82), defScope (top 82)), (defBody (top 83), defScope (top 83))]
theorem stands (KX : K.In h) (M : h.Ns mainGlobals mg) (c : He.SaysD fa fn K) : AllR (fun i r => ∃ f fd body sc, tx[i]? = some (body, sc) ∧ Stands K mg r f fd body sc ∧ r.chk env G body sc = true) 0 rows :=
  ⟨(st0 KX M c).elim fun f q => q.elim fun fd S => ⟨f, fd, _, _, rfl, S, chk0⟩, (st1 KX M c).elim fun f q => q.elim fun fd S => ⟨f, fd, _, _, rfl, S, chk1⟩, (st2 KX M c).elim fun f q => q.elim fun fd S => ⟨f, fd, _, _, rfl, S, chk2⟩, (st3 KX M c).elim fun f q => q.elim fun fd S => ⟨f, fd, _, _, rfl, S, chk3⟩, (st4 KX M c).elim fun f q => q.elim fun fd S => ⟨f, fd, _, _, rfl, S, chk4⟩, (st5 KX M c).elim fun f q => q.elim fun fd S => ⟨f, fd, _, _, rfl, S, chk5⟩, (st6 KX M c).elim fun f q => q.elim fun fd S => ⟨f, fd, _, _, rfl, S, chk6⟩, (st7 KX M c).elim fun f q => q.elim fun fd S => ⟨f, fd, _, _, rfl, S, chk7⟩, (st8 KX M c).elim fun f q => q.elim fun fd S => ⟨f, fd, _, _, rfl, S, chk8⟩, (st9 KX M c).elim fun f q => q.elim fun fd S => ⟨f, fd, _, _, rfl, S, chk9⟩, (st10 KX M c).elim fun f q => q.elim fun fd S => ⟨f, fd, _, _, rfl, S, chk10⟩, (st11 KX M c).elim fun f q => q.elim fun fd S => ⟨f, fd, _, _, rfl, S, chk11⟩, (st12 KX M c).elim fun f q => q.elim fun fd S => ⟨f, fd, _, _, rfl, S, chk12⟩, (st13 KX M c).elim fun f q => q.elim fun fd S => ⟨f, fd, _, _, rfl, S, chk13⟩, (st14 KX M c).elim fun f q => q.elim fun fd S => ⟨f, fd, _, _, rfl, S, chk14⟩, (st15 KX M c).elim fun f q => q.elim fun fd S => ⟨f, fd, _, _, rfl, S, chk15⟩, (st16 KX M c).elim fun f q => q.elim fun fd S => ⟨f, fd, _, _, rfl, S, chk16⟩, (st17 KX M c).elim fun f q => q.elim fun fd S => ⟨f, fd, _, _, rfl, S, chk17⟩, (st18 KX M c).elim fun f q => q.elim fun fd S => ⟨f, fd, _, _, rfl, S, chk18⟩, (st19 KX M c).elim fun f q => q.elim fun fd S => ⟨f, fd, _, _, rfl, S, chk19⟩, (st20 KX M c).elim fun f q => q.elim fun fd S => ⟨f, fd, _, _, rfl, S, chk20⟩, (st21 KX M c).elim fun f q => q.elim fun fd S => ⟨f, fd, _, _, rfl, S, chk21⟩, (st22 KX M c).elim fun f q => q.elim fun fd S => ⟨f, fd, _, _, rfl, S, chk22⟩, (st23 KX M c).elim fun f q => q.elim fun fd S => ⟨f, fd, _, _, rfl, S, chk23⟩, (st24 KX M c).elim fun f q => q.elim fun fd S => ⟨f, fd, _, _, rfl, S, chk24⟩, (st25 KX M c).elim fun f q => q.elim fun fd S => ⟨f, fd, _, _, rfl, S, chk25⟩, (st26 KX M c).elim fun f q => q.elim fun fd S => ⟨f, fd, _, _, rfl, S, chk26⟩, (st27 KX M c).elim fun f q => q.elim fun fd S => ⟨f, fd, _, _, rfl, S, chk27⟩, (st28 KX M c).elim fun f q => q.elim fun fd S => ⟨f, fd, _, _, rfl, S, chk28⟩, (st29 KX M c).elim fun f q => q.elim fun fd S => ⟨f, fd, _, _, rfl, S, chk29⟩, (st30 KX M c).elim fun f q => q.elim fun fd S => ⟨f, fd, _, _, rfl, S, chk30⟩, (st31 KX M c).elim fun f q => q.elim fun fd S => ⟨f, fd, _, _, rfl, S, chk31⟩, (st32 KX M c).elim fun f q => q.elim fun fd S => ⟨f, fd, _, _, rfl, S, chk32⟩, (st33 KX M c).elim fun f q => q.elim fun fd S => ⟨f, fd, _, _, rfl, S, chk33⟩, (st34 KX M c).elim fun f q => q.elim fun fd S => ⟨f, fd, _, _, rfl, S, chk34⟩, (st35 KX M c).elim fun f q => q.elim fun fd S => ⟨f, fd, _, _, rfl, S, chk35⟩, (st36 KX M c).elim fun f q => q.elim fun fd S => ⟨f, fd, _, _, rfl, S, chk36⟩, (st37 KX M c).elim fun f q => q.elim fun fd S => ⟨f, fd, _, _, rfl, S, chk37⟩, (st38 KX M c).elim fun f q => q.elim fun fd S => ⟨f, fd, _, _, rfl, S, chk38⟩, (st39 KX M c).elim fun f q => q.elim fun fd S => ⟨f, fd, _, _, rfl, S, chk39⟩, (st40 KX M c).elim fun f q => q.elim fun fd S => ⟨f, fd, _, _, rfl, S, chk40⟩, (st41 KX M c).elim fun f q => q.elim fun fd S => ⟨f, fd, _, _, rfl, S, chk41⟩, (st42 KX M c).elim fun f q => q.elim fun fd S => ⟨f, fd, _, _, rfl, S, chk42⟩, (st43 KX M c).elim fun f q => q.elim fun fd S => ⟨f, fd, _, _, rfl, S, chk43⟩, (st44 KX M c).elim fun f q => q.elim fun fd S => ⟨f, fd, _, _, rfl, S, chk44⟩, (st45 KX M c).elim fun f q => q.elim fun fd S => ⟨f, fd, _, _, rfl, S, chk45⟩, (st46 KX M c).elim fun f q => q.elim fun fd S => ⟨f, fd, _, _, rfl, S, chk46⟩, (st47 KX M c).elim fun f q => q.elim fun fd S => ⟨f, fd, _, _, rfl, S, chk47⟩, (st48 KX M c).elim fun f q => q.elim fun fd S => ⟨f, fd, _, _, rfl, S, chk48⟩, (st49 KX M c).elim fun f q => q.elim fun fd S => ⟨f, fd, _, _, rfl, S, chk49⟩, (st50 KX M c).elim fun f q => q.elim fun fd S => ⟨f, fd, _, _, rfl, S, chk50⟩, (st51 KX M c).elim fun f q => q.elim fun fd S => ⟨f, fd, _, _, rfl, S, chk51⟩, (st52 KX M c).elim fun f q => q.elim fun fd S => ⟨f, fd, _, _, rfl, S, chk52⟩, (st53 KX M c).elim fun f q => q.elim fun fd S => ⟨f, fd, _, _, rfl, S, chk53⟩, (st54 KX M c).elim fun f q => q.elim fun fd S => ⟨f, fd, _, _, rfl, S, chk54⟩, (st55 KX M c).elim fun f q => q.elim fun fd S => ⟨f, fd, _, _, rfl, S, chk55⟩, (st56 KX M c).elim fun f q => q.elim fun fd S => ⟨f, fd, _, _, rfl, S, chk56⟩, (st57 KX M c).elim fun f q => q.elim fun fd S => ⟨f, fd, _, _, rfl, S, chk57⟩, (st58 KX M c).elim fun f q => q.elim fun fd S => ⟨f, fd, _, _, rfl, S, chk58⟩, (st59 KX M c).elim fun f q => q.elim fun fd S => ⟨f, fd, _, _, rfl, S, chk59⟩, (st60 KX M c).elim fun f q => q.elim fun fd S => ⟨f, fd, _, _, rfl, S, chk60⟩, (st61 KX M c).elim fun f q => q.elim fun fd S => ⟨f, fd, _, _, rfl, S, chk61⟩, (st62 KX M c).elim fun f q => q.elim fun fd S => ⟨f, fd, _, _, rfl, S, chk62⟩, (st63 KX M c).elim fun f q => q.elim fun fd S => ⟨f, fd, _, _, rfl, S, chk63⟩, (st64 KX M c).elim fun f q => q.elim fun fd S => ⟨f, fd, _, _, rfl, S, chk64⟩, (st65 KX M c).elim fun f q => q.elim fun fd S => ⟨f, fd, _, _, rfl, S, chk65⟩, (st66 KX M c).elim fun f q => q.elim fun fd S => ⟨f, fd, _, _, rfl, S, chk66⟩, (st67 KX M c).elim fun f q => q.elim fun fd S => ⟨f, fd, _, _, rfl, S, chk67⟩, (st68 KX M c).elim fun f q => q.elim fun fd S => ⟨f, fd, _, _, rfl, S, chk68⟩, (st69 KX M c).elim fun f q => q.elim fun fd S => ⟨f, fd, _, _, rfl, S, chk69⟩, (st70 KX M c).elim fun f q => q.elim fun fd S => ⟨f, fd, _, _, rfl, S, chk70⟩, (st71 KX M c).elim fun f q => q.elim fun fd S => ⟨f, fd, _, _, rfl, S, chk71⟩, (st72 KX M c).elim fun f q => q.elim fun fd S => ⟨f, fd, _, _, rfl, S, chk72⟩, (st73 KX M c).elim fun f q => q.elim fun fd S => ⟨f, fd, _, _, rfl, S, chk73⟩, (st74 KX M c).elim fun f q => q.elim fun fd S => ⟨f, fd, _, _, rfl, S, chk74⟩, (st75 KX M c).elim fun f q => q.elim fun fd S => ⟨f, fd, _, _, rfl, S, chk75⟩, (st76 KX M c).elim fun f q => q.elim fun fd S => ⟨f, fd, _, _, rfl, S, chk76⟩, (st77 KX M c).elim fun f q => q.elim fun fd S => ⟨f, fd, _, _, rfl, S, chk77⟩, trivial⟩
end
/-- what is owed: the promises keep their readings -/
structure Owed (t : List (List Int × DSp)) : Prop where
  dv : t.map (·.1) = rows.map (·.dv)
  none : ∀ (i : Nat) (r : DV.Row) (dv : List Int) (sp : DSp), rows[i]? = some r → t[i]? = some (dv, sp) → r.lv = 0 → ∀ bs K0, ¬ sp bs K0
  vc : ∀ (i : Nat) (r : DV.Row) (dv : List Int) (sp : DSp), rows[i]? = some r → t[i]? = some (dv, sp) → ∀ bs K0, bs.length = r.ps.length → sp bs K0 → ownPos 0 bs = r.pm ∧ rdDef ⟨gS t, r.pm, .none, subOf env sb⟩ r.ir r.N.length bs K0
  law : ∀ ns : List Int, ns.length ≤ 63 → rdSs ⟨gS t, [], .none, subOf env sb⟩ rowLaw.ir ((List.replicate rowLaw.N.length .none).set 1 (some (.own (.lst (ns.map D.int) :: inits.map D.int)))) ⟨fun _ => False, fun b _ => b = .val (.bl true), fun _ => False, fun _ => False, noEr⟩
theorem facts {t : List (List Int × DSp)} (O : Owed t) {P : Program} {w : World} {K : PySem.W.Frag} {h : Heap} {mg : Str → Option Value} {f : Addr} (X : K.In h) (M : h.Ns mainGlobals mg) (hfa : mg ("law" : Str) = some (.ref f)) (c : He.SaysD fa fn K) (hx : ex K = true) :
    ∃ fd : FuncData, (∀ (s : Shared) (v : Value), BindsTo s fd ⟨[v], []⟩ [("script", v)]) ∧ ∀ base : Heap, K.In base → base.Ns mainGlobals mg → FnOk P w K mg base L2.CX0 11 f fd ["script"] (spLaw K 63) := by
  have W := world_of (rows := allRows) (sb := sb) X M c hx
  have SA := stands X M c
  obtain ⟨fdS, FS⟩ := c.defs (d := d_law_start) (List.mem_of_getElem? (l := fn) (i := 68) rfl)
  obtain ⟨fdL, FL⟩ := c.defs (d := d_law) (List.mem_of_getElem? (l := fn) (i := 69) rfl)
  have gS1 := He.glo_ok X M (c.facts (f := .glo "_law_start") (List.mem_of_getElem? (l := fa) (i := 78) rfl))
  have gL := He.glo_ok X M (c.facts (f := .glo "law") (List.mem_of_getElem? (l := fa) (i := 79) rfl))
  have e := hfa.symm.trans gL
  cases e
  have bL := FunD.bindsA (ps := ["script"]) FL fun _ _ _ _ _ _ us hl => match us, hl with | [_], _ => rfl
  refine ⟨fdL, fun s v => bL s [v] rfl, fun base _ _ => ?_⟩
  have ok : ∀ (i : Nat) (q : DV.Row) (dv : List Int) (sp : DSp), rows[i]? = some q → t[i]? = some (dv, sp) → _ := fun i q dv sp h1 h2 => rows_ok (P := P) (w := w) (base := base) (tx := tx) W O.dv (fun i r hr => by have := allR_get SA hr; rw [Nat.zero_add] at this; exact this) O.none O.vc q.lv i q dv sp h1 h2 (Nat.le_refl _)
  have st := stat_of (r := rowLaw) (sc := defScope (top 86)) W O.dv ok
  have cS := chkStart
  have cL := chkLaw
  simp only [Bool.and_eq_true] at cS cL
  have okS := start_ok (P := P) (w := w) (base := base) (k := 0) (is := inits) FS (scB_of cS.1) cS.2 (W.blt "list" (by decide))
  have bS := FunD.bindsN (ps := ["script"]) FS fun _ _ _ _ _ _ us hl => match us, hl with | [_], _ => rfl
  exact fn_calm (law_ok (c := rowLaw.cc env G (defScope (top 86))) (ir := rowLaw.ir) (i := 1) (m := 63) (ls := 1) (is := inits) (gn := "_law_start") FL lawBody (scB_of cL.1.1) rfl rfl rfl rfl rfl st cL.2 cL.1.2 ⟨_, fdS, gS1, okS, FS.kp, bS⟩ (by decide) O.law) fun vs H Q E hh => hh
theorem holds {t : List (List Int × DSp)} (O : Owed t) : PySem.Challenge.rw_everyshift_k78_best_tone.Holds := by
  w_on; o_law
  refine HandSHeadRun.head_any (r := PySem.W.OpenLaw.row PySem.Challenge.rw_everyshift_k78_best_tone) (q := PySem.W.view (PySem.W.OpenLaw.row PySem.Challenge.rw_everyshift_k78_best_tone).prog [86]) (H := hk) (ob := ob) (M := 6000) (loose := names) (d := HandSHeadRun.topDef (PySem.W.OpenLaw.row PySem.Challenge.rw_everyshift_k78_best_tone).prog 86) (kwd := []) ob_eq
    (by kernel_rfl) (fun s => by kernel_rfl) run (by kernel_rfl) (by kernel_rfl) (by kernel_rfl) (by rfl) (by first | assumption | decide +kernel) (by decide +kernel) ⟨rfl, rfl, rfl, rfl, rfl, by decide +kernel⟩ ?hw ?hc
  case hw => w_witness2
  case hc =>
    refine L2.walk_ofE (l := PySem.Challenge.rw_everyshift_k78_best_tone) (n := 63) (k := 11) (x := "script") (CX := L2.CX0) rfl (by decide) (by kernel_rfl) ⟨rfl, by decide, by decide⟩ ?F (fun _ _ _ _ z => z)
    intro w mg fa' h Y M hmg0
    obtain ⟨K, KX, c⟩ := Y
    have hmg : mg ("law" : PySem.Str) = some (.ref fa') := by
      have e : (HandSHeadRun.topDef (PySem.W.OpenLaw.row PySem.Challenge.rw_everyshift_k78_best_tone).prog 86).name = ("law" : PySem.Str) := by kernel_rfl
      rw [← e]
      exact hmg0
    obtain ⟨fd, hb, hF⟩ := facts O (P := (PySem.Challenge.rw_everyshift_k78_best_tone).prog) (w := w) KX M hmg c.t.d c.more
    exact ⟨K, fd, spLaw K 63, KX, hb, fun H a ns hl _ hS => ⟨a, ns, rfl, hl, hS, fun _ => rfl⟩, hF⟩
end K78
end
section
set_option Elab.async false
set_option maxRecDepth 100000
set_option linter.all false
set_option maxHeartbeats 0
/-! K78Z: the end (printed by mkz78.py). -/
namespace K78
open PySem DV
def tb : List (List Int × DSp) := [([], sp_mixed), ([], sp_wide), ([], sp_move), ([], sp_take), ([], sp_rare), ([], sp_order), ([], sp_filled), ([], sp_from), ([], sp_count), ([], sp_gscreen), ([], sp_index), ([], sp_gstack), ([], sp_pick), ([], sp_dstack), ([], sp_tones), ([], sp_power), ([], sp_colour), ([], sp_colours), ([], (fun _ _ => False)), ([], sp_copy 0), ([], sp_copy 1), ([], sp_copy 2), ([], sp_copy 3), ([], sp_copy 4), ([], sp_copy 5), ([], sp_copy 6), ([], sp_copy 7), ([], sp_copy 8), ([8], sp_copy 8), ([], sp_ucell), ([], sp_unit), ([], sp_with), ([], sp_box), ([], sp_isnum), ([], sp_bent), ([], sp_entry), ([], sp_bscr), ([], sp_bcat), ([], sp_bstk), ([], sp_nonum), ([], sp_bnum), ([], sp_bcol), ([], sp_bcols), ([], sp_btones), ([], sp_ixb), ([], sp_isnum), ([], sp_issq), ([], sp_isbrow), ([], sp_isscr), ([], sp_iscat), ([], sp_isstk), ([], sp_cstk), ([], sp_isnum), ([], sp_hastones), ([], sp_ctones), ([], sp_within), ([], sp_bounds), ([], sp_number), ([], sp_cnumber), ([], sp_iscol), ([], sp_hascols), ([], sp_ccols), ([], sp_cwish), ([], sp_blend), ([], sp_total), ([], sp_prods), ([], sp_gaps), ([], sp_cscr), ([], sp_diag), ([], sp_idx), ([], sp_best), ([], sp_squared), ([], sp_dist), ([], sp_refd), ([], sp_refs), ([], sp_eq), ([], sp_lfar), ([], sp_isbest)]
theorem kp0 : ∀ bs K0, bs.length = row0.ps.length → (sp_mixed : DSp) bs K0 → ownPos 0 bs = row0.pm ∧ rdDef ⟨gS tb, row0.pm, .none, subOf env sb⟩ row0.ir row0.N.length bs K0 :=
  vc_mixed 
theorem kp1 : ∀ bs K0, bs.length = row1.ps.length → (sp_wide : DSp) bs K0 → ownPos 0 bs = row1.pm ∧ rdDef ⟨gS tb, row1.pm, .none, subOf env sb⟩ row1.ir row1.N.length bs K0 :=
  vc_wide (fun _ _ => rfl)
theorem kp2 : ∀ bs K0, bs.length = row2.ps.length → (sp_move : DSp) bs K0 → ownPos 0 bs = row2.pm ∧ rdDef ⟨gS tb, row2.pm, .none, subOf env sb⟩ row2.ir row2.N.length bs K0 :=
  vc_move (fun _ _ => rfl)
theorem kp3 : ∀ bs K0, bs.length = row3.ps.length → (sp_take : DSp) bs K0 → ownPos 0 bs = row3.pm ∧ rdDef ⟨gS tb, row3.pm, .none, subOf env sb⟩ row3.ir row3.N.length bs K0 :=
  vc_take (fun _ _ => rfl) (fun _ _ => rfl)
theorem kp4 : ∀ bs K0, bs.length = row4.ps.length → (sp_rare : DSp) bs K0 → ownPos 0 bs = row4.pm ∧ rdDef ⟨gS tb, row4.pm, .none, subOf env sb⟩ row4.ir row4.N.length bs K0 :=
  vc_rare (fun _ _ => rfl)
theorem kp5 : ∀ bs K0, bs.length = row5.ps.length → (sp_order : DSp) bs K0 → ownPos 0 bs = row5.pm ∧ rdDef ⟨gS tb, row5.pm, .none, subOf env sb⟩ row5.ir row5.N.length bs K0 :=
  vc_order (fun _ _ => rfl)
theorem kp6 : ∀ bs K0, bs.length = row6.ps.length → (sp_filled : DSp) bs K0 → ownPos 0 bs = row6.pm ∧ rdDef ⟨gS tb, row6.pm, .none, subOf env sb⟩ row6.ir row6.N.length bs K0 :=
  vc_filled (fun _ _ => rfl)
theorem kp7 : ∀ bs K0, bs.length = row7.ps.length → (sp_from : DSp) bs K0 → ownPos 0 bs = row7.pm ∧ rdDef ⟨gS tb, row7.pm, .none, subOf env sb⟩ row7.ir row7.N.length bs K0 :=
  vc_from (fun _ _ => rfl)
theorem kp8 : ∀ bs K0, bs.length = row8.ps.length → (sp_count : DSp) bs K0 → ownPos 0 bs = row8.pm ∧ rdDef ⟨gS tb, row8.pm, .none, subOf env sb⟩ row8.ir row8.N.length bs K0 :=
  vc_count (fun _ _ => rfl) (fun _ _ => rfl)
theorem kp9 : ∀ bs K0, bs.length = row9.ps.length → (sp_gscreen : DSp) bs K0 → ownPos 0 bs = row9.pm ∧ rdDef ⟨gS tb, row9.pm, .none, subOf env sb⟩ row9.ir row9.N.length bs K0 :=
  vc_gscreen (fun _ _ => rfl) (fun _ _ => rfl) (fun _ _ => rfl) (fun _ _ => rfl)
theorem kp10 : ∀ bs K0, bs.length = row10.ps.length → (sp_index : DSp) bs K0 → ownPos 0 bs = row10.pm ∧ rdDef ⟨gS tb, row10.pm, .none, subOf env sb⟩ row10.ir row10.N.length bs K0 :=
  vc_index 
theorem kp11 : ∀ bs K0, bs.length = row11.ps.length → (sp_gstack : DSp) bs K0 → ownPos 0 bs = row11.pm ∧ rdDef ⟨gS tb, row11.pm, .none, subOf env sb⟩ row11.ir row11.N.length bs K0 :=
  vc_gstack (fun _ _ => rfl) (fun _ _ => rfl) (fun _ _ => rfl)
theorem kp12 : ∀ bs K0, bs.length = row12.ps.length → (sp_pick : DSp) bs K0 → ownPos 0 bs = row12.pm ∧ rdDef ⟨gS tb, row12.pm, .none, subOf env sb⟩ row12.ir row12.N.length bs K0 :=
  vc_pick (fun _ _ => rfl)
theorem kp13 : ∀ bs K0, bs.length = row13.ps.length → (sp_dstack : DSp) bs K0 → ownPos 0 bs = row13.pm ∧ rdDef ⟨gS tb, row13.pm, .none, subOf env sb⟩ row13.ir row13.N.length bs K0 :=
  vc_dstack (fun _ _ => rfl) (fun _ _ => rfl) (fun _ _ => rfl) (fun _ _ => rfl)
theorem kp14 : ∀ bs K0, bs.length = row14.ps.length → (sp_tones : DSp) bs K0 → ownPos 0 bs = row14.pm ∧ rdDef ⟨gS tb, row14.pm, .none, subOf env sb⟩ row14.ir row14.N.length bs K0 :=
  vc_tones (fun _ _ => rfl) (fun _ _ => rfl)
theorem kp15 : ∀ bs K0, bs.length = row15.ps.length → (sp_power : DSp) bs K0 → ownPos 0 bs = row15.pm ∧ rdDef ⟨gS tb, row15.pm, .none, subOf env sb⟩ row15.ir row15.N.length bs K0 :=
  vc_power 
theorem kp16 : ∀ bs K0, bs.length = row16.ps.length → (sp_colour : DSp) bs K0 → ownPos 0 bs = row16.pm ∧ rdDef ⟨gS tb, row16.pm, .none, subOf env sb⟩ row16.ir row16.N.length bs K0 :=
  vc_colour (fun _ _ => rfl) (fun _ _ => rfl) (fun _ _ => rfl)
theorem kp17 : ∀ bs K0, bs.length = row17.ps.length → (sp_colours : DSp) bs K0 → ownPos 0 bs = row17.pm ∧ rdDef ⟨gS tb, row17.pm, .none, subOf env sb⟩ row17.ir row17.N.length bs K0 :=
  vc_colours (fun _ _ => rfl) (fun _ _ => rfl) (fun _ _ => rfl)
theorem kp18 : ∀ bs K0, bs.length = row18.ps.length → ((fun _ _ => False) : DSp) bs K0 → ownPos 0 bs = row18.pm ∧ rdDef ⟨gS tb, row18.pm, .none, subOf env sb⟩ row18.ir row18.N.length bs K0 :=
  fun bs K0 _ h => h.elim
theorem kp19 : ∀ bs K0, bs.length = row19.ps.length → (sp_copy 0 : DSp) bs K0 → ownPos 0 bs = row19.pm ∧ rdDef ⟨gS tb, row19.pm, .none, subOf env sb⟩ row19.ir row19.N.length bs K0 :=
  vc_copy0 18
theorem kp20 : ∀ bs K0, bs.length = row20.ps.length → (sp_copy 1 : DSp) bs K0 → ownPos 0 bs = row20.pm ∧ rdDef ⟨gS tb, row20.pm, .none, subOf env sb⟩ row20.ir row20.N.length bs K0 :=
  vc_copy 19 0 (fun _ _ => rfl)
theorem kp21 : ∀ bs K0, bs.length = row21.ps.length → (sp_copy 2 : DSp) bs K0 → ownPos 0 bs = row21.pm ∧ rdDef ⟨gS tb, row21.pm, .none, subOf env sb⟩ row21.ir row21.N.length bs K0 :=
  vc_copy 20 1 (fun _ _ => rfl)
theorem kp22 : ∀ bs K0, bs.length = row22.ps.length → (sp_copy 3 : DSp) bs K0 → ownPos 0 bs = row22.pm ∧ rdDef ⟨gS tb, row22.pm, .none, subOf env sb⟩ row22.ir row22.N.length bs K0 :=
  vc_copy 21 2 (fun _ _ => rfl)
theorem kp23 : ∀ bs K0, bs.length = row23.ps.length → (sp_copy 4 : DSp) bs K0 → ownPos 0 bs = row23.pm ∧ rdDef ⟨gS tb, row23.pm, .none, subOf env sb⟩ row23.ir row23.N.length bs K0 :=
  vc_copy 22 3 (fun _ _ => rfl)
theorem kp24 : ∀ bs K0, bs.length = row24.ps.length → (sp_copy 5 : DSp) bs K0 → ownPos 0 bs = row24.pm ∧ rdDef ⟨gS tb, row24.pm, .none, subOf env sb⟩ row24.ir row24.N.length bs K0 :=
  vc_copy 23 4 (fun _ _ => rfl)
theorem kp25 : ∀ bs K0, bs.length = row25.ps.length → (sp_copy 6 : DSp) bs K0 → ownPos 0 bs = row25.pm ∧ rdDef ⟨gS tb, row25.pm, .none, subOf env sb⟩ row25.ir row25.N.length bs K0 :=
  vc_copy 24 5 (fun _ _ => rfl)
theorem kp26 : ∀ bs K0, bs.length = row26.ps.length → (sp_copy 7 : DSp) bs K0 → ownPos 0 bs = row26.pm ∧ rdDef ⟨gS tb, row26.pm, .none, subOf env sb⟩ row26.ir row26.N.length bs K0 :=
  vc_copy 25 6 (fun _ _ => rfl)
theorem kp27 : ∀ bs K0, bs.length = row27.ps.length → (sp_copy 8 : DSp) bs K0 → ownPos 0 bs = row27.pm ∧ rdDef ⟨gS tb, row27.pm, .none, subOf env sb⟩ row27.ir row27.N.length bs K0 :=
  vc_copy 26 7 (fun _ _ => rfl)
theorem kp28 : ∀ bs K0, bs.length = row28.ps.length → (sp_copy 8 : DSp) bs K0 → ownPos 0 bs = row28.pm ∧ rdDef ⟨gS tb, row28.pm, .none, subOf env sb⟩ row28.ir row28.N.length bs K0 :=
  vc_copy 26 7 (fun _ _ => rfl)
theorem kp29 : ∀ bs K0, bs.length = row29.ps.length → (sp_ucell : DSp) bs K0 → ownPos 0 bs = row29.pm ∧ rdDef ⟨gS tb, row29.pm, .none, subOf env sb⟩ row29.ir row29.N.length bs K0 :=
  vc_ucell 
theorem kp30 : ∀ bs K0, bs.length = row30.ps.length → (sp_unit : DSp) bs K0 → ownPos 0 bs = row30.pm ∧ rdDef ⟨gS tb, row30.pm, .none, subOf env sb⟩ row30.ir row30.N.length bs K0 :=
  vc_unit (fun _ _ => rfl)
theorem kp31 : ∀ bs K0, bs.length = row31.ps.length → (sp_with : DSp) bs K0 → ownPos 0 bs = row31.pm ∧ rdDef ⟨gS tb, row31.pm, .none, subOf env sb⟩ row31.ir row31.N.length bs K0 :=
  vc_with 
theorem kp32 : ∀ bs K0, bs.length = row32.ps.length → (sp_box : DSp) bs K0 → ownPos 0 bs = row32.pm ∧ rdDef ⟨gS tb, row32.pm, .none, subOf env sb⟩ row32.ir row32.N.length bs K0 :=
  vc_box (fun _ _ => rfl) (fun _ _ => rfl)
theorem kp33 : ∀ bs K0, bs.length = row33.ps.length → (sp_isnum : DSp) bs K0 → ownPos 0 bs = row33.pm ∧ rdDef ⟨gS tb, row33.pm, .none, subOf env sb⟩ row33.ir row33.N.length bs K0 :=
  vc_isnum 
theorem kp34 : ∀ bs K0, bs.length = row34.ps.length → (sp_bent : DSp) bs K0 → ownPos 0 bs = row34.pm ∧ rdDef ⟨gS tb, row34.pm, .none, subOf env sb⟩ row34.ir row34.N.length bs K0 :=
  vc_bent (fun _ _ => rfl) (fun _ _ => rfl) (fun _ _ => rfl) (fun _ _ => rfl) (fun _ _ => rfl)
theorem kp35 : ∀ bs K0, bs.length = row35.ps.length → (sp_entry : DSp) bs K0 → ownPos 0 bs = row35.pm ∧ rdDef ⟨gS tb, row35.pm, .none, subOf env sb⟩ row35.ir row35.N.length bs K0 :=
  vc_entry (fun _ _ => rfl)
theorem kp36 : ∀ bs K0, bs.length = row36.ps.length → (sp_bscr : DSp) bs K0 → ownPos 0 bs = row36.pm ∧ rdDef ⟨gS tb, row36.pm, .none, subOf env sb⟩ row36.ir row36.N.length bs K0 :=
  vc_bscr (fun _ _ => rfl) (fun _ _ => rfl) (fun _ _ => rfl) (fun _ _ => rfl) (fun _ _ => rfl)
theorem kp37 : ∀ bs K0, bs.length = row37.ps.length → (sp_bcat : DSp) bs K0 → ownPos 0 bs = row37.pm ∧ rdDef ⟨gS tb, row37.pm, .none, subOf env sb⟩ row37.ir row37.N.length bs K0 :=
  vc_bcat (fun _ _ => rfl) (fun _ _ => rfl) (fun _ _ => rfl) (fun _ _ => rfl) (fun _ _ => rfl) (fun _ _ => rfl)
theorem kp38 : ∀ bs K0, bs.length = row38.ps.length → (sp_bstk : DSp) bs K0 → ownPos 0 bs = row38.pm ∧ rdDef ⟨gS tb, row38.pm, .none, subOf env sb⟩ row38.ir row38.N.length bs K0 :=
  vc_bstk (fun _ _ => rfl) (fun _ _ => rfl)
theorem kp39 : ∀ bs K0, bs.length = row39.ps.length → (sp_nonum : DSp) bs K0 → ownPos 0 bs = row39.pm ∧ rdDef ⟨gS tb, row39.pm, .none, subOf env sb⟩ row39.ir row39.N.length bs K0 :=
  vc_nonum 
theorem kp40 : ∀ bs K0, bs.length = row40.ps.length → (sp_bnum : DSp) bs K0 → ownPos 0 bs = row40.pm ∧ rdDef ⟨gS tb, row40.pm, .none, subOf env sb⟩ row40.ir row40.N.length bs K0 :=
  vc_bnum (fun _ _ => rfl)
theorem kp41 : ∀ bs K0, bs.length = row41.ps.length → (sp_bcol : DSp) bs K0 → ownPos 0 bs = row41.pm ∧ rdDef ⟨gS tb, row41.pm, .none, subOf env sb⟩ row41.ir row41.N.length bs K0 :=
  vc_bcol (fun _ _ => rfl) (fun _ _ => rfl) (fun _ _ => rfl)
theorem kp42 : ∀ bs K0, bs.length = row42.ps.length → (sp_bcols : DSp) bs K0 → ownPos 0 bs = row42.pm ∧ rdDef ⟨gS tb, row42.pm, .none, subOf env sb⟩ row42.ir row42.N.length bs K0 :=
  vc_bcols (fun _ _ => rfl) (fun _ _ => rfl) (fun _ _ => rfl) (fun _ _ => rfl)
theorem kp43 : ∀ bs K0, bs.length = row43.ps.length → (sp_btones : DSp) bs K0 → ownPos 0 bs = row43.pm ∧ rdDef ⟨gS tb, row43.pm, .none, subOf env sb⟩ row43.ir row43.N.length bs K0 :=
  vc_btones (fun _ _ => rfl) (fun _ _ => rfl) (fun _ _ => rfl) (fun _ _ => rfl)
theorem kp44 : ∀ bs K0, bs.length = row44.ps.length → (sp_ixb : DSp) bs K0 → ownPos 0 bs = row44.pm ∧ rdDef ⟨gS tb, row44.pm, .none, subOf env sb⟩ row44.ir row44.N.length bs K0 :=
  vc_ixb 
theorem kp45 : ∀ bs K0, bs.length = row45.ps.length → (sp_isnum : DSp) bs K0 → ownPos 0 bs = row45.pm ∧ rdDef ⟨gS tb, row45.pm, .none, subOf env sb⟩ row45.ir row45.N.length bs K0 :=
  vc_whole_c 
theorem kp46 : ∀ bs K0, bs.length = row46.ps.length → (sp_issq : DSp) bs K0 → ownPos 0 bs = row46.pm ∧ rdDef ⟨gS tb, row46.pm, .none, subOf env sb⟩ row46.ir row46.N.length bs K0 :=
  vc_issq (fun _ _ => rfl)
theorem kp47 : ∀ bs K0, bs.length = row47.ps.length → (sp_isbrow : DSp) bs K0 → ownPos 0 bs = row47.pm ∧ rdDef ⟨gS tb, row47.pm, .none, subOf env sb⟩ row47.ir row47.N.length bs K0 :=
  vc_isbrow 
theorem kp48 : ∀ bs K0, bs.length = row48.ps.length → (sp_isscr : DSp) bs K0 → ownPos 0 bs = row48.pm ∧ rdDef ⟨gS tb, row48.pm, .none, subOf env sb⟩ row48.ir row48.N.length bs K0 :=
  vc_isscr (fun _ _ => rfl) (fun _ _ => rfl) (fun _ _ => rfl)
theorem kp49 : ∀ bs K0, bs.length = row49.ps.length → (sp_iscat : DSp) bs K0 → ownPos 0 bs = row49.pm ∧ rdDef ⟨gS tb, row49.pm, .none, subOf env sb⟩ row49.ir row49.N.length bs K0 :=
  vc_iscat (fun _ _ => rfl) (fun _ _ => rfl)
theorem kp50 : ∀ bs K0, bs.length = row50.ps.length → (sp_isstk : DSp) bs K0 → ownPos 0 bs = row50.pm ∧ rdDef ⟨gS tb, row50.pm, .none, subOf env sb⟩ row50.ir row50.N.length bs K0 :=
  vc_isstk (fun _ _ => rfl)
theorem kp51 : ∀ bs K0, bs.length = row51.ps.length → (sp_cstk : DSp) bs K0 → ownPos 0 bs = row51.pm ∧ rdDef ⟨gS tb, row51.pm, .none, subOf env sb⟩ row51.ir row51.N.length bs K0 :=
  vc_cstk (fun _ _ => rfl)
theorem kp52 : ∀ bs K0, bs.length = row52.ps.length → (sp_isnum : DSp) bs K0 → ownPos 0 bs = row52.pm ∧ rdDef ⟨gS tb, row52.pm, .none, subOf env sb⟩ row52.ir row52.N.length bs K0 :=
  vc_whole_t 
theorem kp53 : ∀ bs K0, bs.length = row53.ps.length → (sp_hastones : DSp) bs K0 → ownPos 0 bs = row53.pm ∧ rdDef ⟨gS tb, row53.pm, .none, subOf env sb⟩ row53.ir row53.N.length bs K0 :=
  vc_hastones (fun _ _ => rfl)
theorem kp54 : ∀ bs K0, bs.length = row54.ps.length → (sp_ctones : DSp) bs K0 → ownPos 0 bs = row54.pm ∧ rdDef ⟨gS tb, row54.pm, .none, subOf env sb⟩ row54.ir row54.N.length bs K0 :=
  vc_ctones (fun _ _ => rfl)
theorem kp55 : ∀ bs K0, bs.length = row55.ps.length → (sp_within : DSp) bs K0 → ownPos 0 bs = row55.pm ∧ rdDef ⟨gS tb, row55.pm, .none, subOf env sb⟩ row55.ir row55.N.length bs K0 :=
  vc_within (fun _ _ => rfl)
theorem kp56 : ∀ bs K0, bs.length = row56.ps.length → (sp_bounds : DSp) bs K0 → ownPos 0 bs = row56.pm ∧ rdDef ⟨gS tb, row56.pm, .none, subOf env sb⟩ row56.ir row56.N.length bs K0 :=
  vc_bounds (fun _ _ => rfl)
theorem kp57 : ∀ bs K0, bs.length = row57.ps.length → (sp_number : DSp) bs K0 → ownPos 0 bs = row57.pm ∧ rdDef ⟨gS tb, row57.pm, .none, subOf env sb⟩ row57.ir row57.N.length bs K0 :=
  vc_number (fun _ _ => rfl) (fun _ _ => rfl)
theorem kp58 : ∀ bs K0, bs.length = row58.ps.length → (sp_cnumber : DSp) bs K0 → ownPos 0 bs = row58.pm ∧ rdDef ⟨gS tb, row58.pm, .none, subOf env sb⟩ row58.ir row58.N.length bs K0 :=
  vc_cnumber (fun _ _ => rfl)
theorem kp59 : ∀ bs K0, bs.length = row59.ps.length → (sp_iscol : DSp) bs K0 → ownPos 0 bs = row59.pm ∧ rdDef ⟨gS tb, row59.pm, .none, subOf env sb⟩ row59.ir row59.N.length bs K0 :=
  vc_iscol (fun _ _ => rfl)
theorem kp60 : ∀ bs K0, bs.length = row60.ps.length → (sp_hascols : DSp) bs K0 → ownPos 0 bs = row60.pm ∧ rdDef ⟨gS tb, row60.pm, .none, subOf env sb⟩ row60.ir row60.N.length bs K0 :=
  vc_hascols (fun _ _ => rfl)
theorem kp61 : ∀ bs K0, bs.length = row61.ps.length → (sp_ccols : DSp) bs K0 → ownPos 0 bs = row61.pm ∧ rdDef ⟨gS tb, row61.pm, .none, subOf env sb⟩ row61.ir row61.N.length bs K0 :=
  vc_ccols (fun _ _ => rfl)
theorem kp62 : ∀ bs K0, bs.length = row62.ps.length → (sp_cwish : DSp) bs K0 → ownPos 0 bs = row62.pm ∧ rdDef ⟨gS tb, row62.pm, .none, subOf env sb⟩ row62.ir row62.N.length bs K0 :=
  vc_cwish (fun _ _ => rfl)
theorem kp63 : ∀ bs K0, bs.length = row63.ps.length → (sp_blend : DSp) bs K0 → ownPos 0 bs = row63.pm ∧ rdDef ⟨gS tb, row63.pm, .none, subOf env sb⟩ row63.ir row63.N.length bs K0 :=
  vc_blend 
theorem kp64 : ∀ bs K0, bs.length = row64.ps.length → (sp_total : DSp) bs K0 → ownPos 0 bs = row64.pm ∧ rdDef ⟨gS tb, row64.pm, .none, subOf env sb⟩ row64.ir row64.N.length bs K0 :=
  vc_total 
theorem kp65 : ∀ bs K0, bs.length = row65.ps.length → (sp_prods : DSp) bs K0 → ownPos 0 bs = row65.pm ∧ rdDef ⟨gS tb, row65.pm, .none, subOf env sb⟩ row65.ir row65.N.length bs K0 :=
  vc_prods 
theorem kp66 : ∀ bs K0, bs.length = row66.ps.length → (sp_gaps : DSp) bs K0 → ownPos 0 bs = row66.pm ∧ rdDef ⟨gS tb, row66.pm, .none, subOf env sb⟩ row66.ir row66.N.length bs K0 :=
  vc_gaps (fun _ _ => rfl) (fun _ _ => rfl) (fun _ _ => rfl)
theorem kp67 : ∀ bs K0, bs.length = row67.ps.length → (sp_cscr : DSp) bs K0 → ownPos 0 bs = row67.pm ∧ rdDef ⟨gS tb, row67.pm, .none, subOf env sb⟩ row67.ir row67.N.length bs K0 :=
  vc_cscr (fun _ _ => rfl)
theorem kp68 : ∀ bs K0, bs.length = row68.ps.length → (sp_diag : DSp) bs K0 → ownPos 0 bs = row68.pm ∧ rdDef ⟨gS tb, row68.pm, .none, subOf env sb⟩ row68.ir row68.N.length bs K0 :=
  vc_diag 
theorem kp69 : ∀ bs K0, bs.length = row69.ps.length → (sp_idx : DSp) bs K0 → ownPos 0 bs = row69.pm ∧ rdDef ⟨gS tb, row69.pm, .none, subOf env sb⟩ row69.ir row69.N.length bs K0 :=
  vc_idx (fun _ _ => rfl) (fun _ _ => rfl)
theorem kp70 : ∀ bs K0, bs.length = row70.ps.length → (sp_best : DSp) bs K0 → ownPos 0 bs = row70.pm ∧ rdDef ⟨gS tb, row70.pm, .none, subOf env sb⟩ row70.ir row70.N.length bs K0 :=
  vc_best (fun _ _ => rfl) (fun _ _ => rfl) (fun _ _ => rfl) (fun _ _ => rfl) (fun _ _ => rfl) (fun _ _ => rfl) (fun _ _ => rfl)
theorem kp71 : ∀ bs K0, bs.length = row71.ps.length → (sp_squared : DSp) bs K0 → ownPos 0 bs = row71.pm ∧ rdDef ⟨gS tb, row71.pm, .none, subOf env sb⟩ row71.ir row71.N.length bs K0 :=
  vc_squared (fun _ _ => rfl)
theorem kp72 : ∀ bs K0, bs.length = row72.ps.length → (sp_dist : DSp) bs K0 → ownPos 0 bs = row72.pm ∧ rdDef ⟨gS tb, row72.pm, .none, subOf env sb⟩ row72.ir row72.N.length bs K0 :=
  vc_dist (fun _ _ => rfl) (fun _ _ => rfl) (fun _ _ => rfl) (fun _ _ => rfl) (fun _ _ => rfl) (fun _ _ => rfl)
theorem kp73 : ∀ bs K0, bs.length = row73.ps.length → (sp_refd : DSp) bs K0 → ownPos 0 bs = row73.pm ∧ rdDef ⟨gS tb, row73.pm, .none, subOf env sb⟩ row73.ir row73.N.length bs K0 :=
  vc_refd (fun _ _ => rfl) (fun _ _ => rfl)
theorem kp74 : ∀ bs K0, bs.length = row74.ps.length → (sp_refs : DSp) bs K0 → ownPos 0 bs = row74.pm ∧ rdDef ⟨gS tb, row74.pm, .none, subOf env sb⟩ row74.ir row74.N.length bs K0 :=
  vc_refs (fun _ _ => rfl) (fun _ _ => rfl) (fun _ _ => rfl) (fun _ _ => rfl) (fun _ _ => rfl) (fun _ _ => rfl) (fun _ _ => rfl) (fun _ _ => rfl) (fun _ _ => rfl)
theorem kp75 : ∀ bs K0, bs.length = row75.ps.length → (sp_eq : DSp) bs K0 → ownPos 0 bs = row75.pm ∧ rdDef ⟨gS tb, row75.pm, .none, subOf env sb⟩ row75.ir row75.N.length bs K0 :=
  vc_eq 
theorem kp76 : ∀ bs K0, bs.length = row76.ps.length → (sp_lfar : DSp) bs K0 → ownPos 0 bs = row76.pm ∧ rdDef ⟨gS tb, row76.pm, .none, subOf env sb⟩ row76.ir row76.N.length bs K0 :=
  vc_lfar (fun _ _ => rfl)
theorem kp77 : ∀ bs K0, bs.length = row77.ps.length → (sp_isbest : DSp) bs K0 → ownPos 0 bs = row77.pm ∧ rdDef ⟨gS tb, row77.pm, .none, subOf env sb⟩ row77.ir row77.N.length bs K0 :=
  vc_isbest (fun _ _ => rfl) (fun _ _ => rfl) (fun _ _ => rfl) (fun _ _ => rfl)
def Kp (i : Nat) (r : DV.Row) : Prop := ∀ (dv : List Int) (sp : DSp), tb[i]? = some (dv, sp) → ∀ bs K0, bs.length = r.ps.length → sp bs K0 → ownPos 0 bs = r.pm ∧ rdDef ⟨gS tb, r.pm, .none, subOf env sb⟩ r.ir r.N.length bs K0
theorem kp_of {i : Nat} {r : DV.Row} {dv : List Int} {sp : DSp} (e : tb[i]? = some (dv, sp)) (h : ∀ bs K0, bs.length = r.ps.length → sp bs K0 → ownPos 0 bs = r.pm ∧ rdDef ⟨gS tb, r.pm, .none, subOf env sb⟩ r.ir r.N.length bs K0) : Kp i r := fun dv' sp' e' => by
  rw [e] at e'
  cases e'
  exact h
theorem kps : AllR Kp 0 rows :=
  ⟨kp_of rfl kp0, kp_of rfl kp1, kp_of rfl kp2, kp_of rfl kp3, kp_of rfl kp4, kp_of rfl kp5, kp_of rfl kp6, kp_of rfl kp7, kp_of rfl kp8, kp_of rfl kp9, kp_of rfl kp10, kp_of rfl kp11, kp_of rfl kp12, kp_of rfl kp13, kp_of rfl kp14, kp_of rfl kp15, kp_of rfl kp16, kp_of rfl kp17, kp_of rfl kp18, kp_of rfl kp19, kp_of rfl kp20, kp_of rfl kp21, kp_of rfl kp22, kp_of rfl kp23, kp_of rfl kp24, kp_of rfl kp25, kp_of rfl kp26, kp_of rfl kp27, kp_of rfl kp28, kp_of rfl kp29, kp_of rfl kp30, kp_of rfl kp31, kp_of rfl kp32, kp_of rfl kp33, kp_of rfl kp34, kp_of rfl kp35, kp_of rfl kp36, kp_of rfl kp37, kp_of rfl kp38, kp_of rfl kp39, kp_of rfl kp40, kp_of rfl kp41, kp_of rfl kp42, kp_of rfl kp43, kp_of rfl kp44, kp_of rfl kp45, kp_of rfl kp46, kp_of rfl kp47, kp_of rfl kp48, kp_of rfl kp49, kp_of rfl kp50, kp_of rfl kp51, kp_of rfl kp52, kp_of rfl kp53, kp_of rfl kp54, kp_of rfl kp55, kp_of rfl kp56, kp_of rfl kp57, kp_of rfl kp58, kp_of rfl kp59, kp_of rfl kp60, kp_of rfl kp61, kp_of rfl kp62, kp_of rfl kp63, kp_of rfl kp64, kp_of rfl kp65, kp_of rfl kp66, kp_of rfl kp67, kp_of rfl kp68, kp_of rfl kp69, kp_of rfl kp70, kp_of rfl kp71, kp_of rfl kp72, kp_of rfl kp73, kp_of rfl kp74, kp_of rfl kp75, kp_of rfl kp76, kp_of rfl kp77, trivial⟩
theorem nones : AllR (fun i (r : DV.Row) => ∀ (dv : List Int) (sp : DSp), tb[i]? = some (dv, sp) → r.lv = 0 → ∀ bs K0, ¬ sp bs K0) 0 rows :=
  ⟨(fun _ _ _ e => by cases e), (fun _ _ _ e => by cases e), (fun _ _ _ e => by cases e), (fun _ _ _ e => by cases e), (fun _ _ _ e => by cases e), (fun _ _ _ e => by cases e), (fun _ _ _ e => by cases e), (fun _ _ _ e => by cases e), (fun _ _ _ e => by cases e), (fun _ _ _ e => by cases e), (fun _ _ _ e => by cases e), (fun _ _ _ e => by cases e), (fun _ _ _ e => by cases e), (fun _ _ _ e => by cases e), (fun _ _ _ e => by cases e), (fun _ _ _ e => by cases e), (fun _ _ _ e => by cases e), (fun _ _ _ e => by cases e), (fun dv sp e _ bs K0 h => by cases e; exact h), (fun _ _ _ e => by cases e), (fun _ _ _ e => by cases e), (fun _ _ _ e => by cases e), (fun _ _ _ e => by cases e), (fun _ _ _ e => by cases e), (fun _ _ _ e => by cases e), (fun _ _ _ e => by cases e), (fun _ _ _ e => by cases e), (fun _ _ _ e => by cases e), (fun _ _ _ e => by cases e), (fun _ _ _ e => by cases e), (fun _ _ _ e => by cases e), (fun _ _ _ e => by cases e), (fun _ _ _ e => by cases e), (fun _ _ _ e => by cases e), (fun _ _ _ e => by cases e), (fun _ _ _ e => by cases e), (fun _ _ _ e => by cases e), (fun _ _ _ e => by cases e), (fun _ _ _ e => by cases e), (fun _ _ _ e => by cases e), (fun _ _ _ e => by cases e), (fun _ _ _ e => by cases e), (fun _ _ _ e => by cases e), (fun _ _ _ e => by cases e), (fun _ _ _ e => by cases e), (fun _ _ _ e => by cases e), (fun _ _ _ e => by cases e), (fun _ _ _ e => by cases e), (fun _ _ _ e => by cases e), (fun _ _ _ e => by cases e), (fun _ _ _ e => by cases e), (fun _ _ _ e => by cases e), (fun _ _ _ e => by cases e), (fun _ _ _ e => by cases e), (fun _ _ _ e => by cases e), (fun _ _ _ e => by cases e), (fun _ _ _ e => by cases e), (fun _ _ _ e => by cases e), (fun _ _ _ e => by cases e), (fun _ _ _ e => by cases e), (fun _ _ _ e => by cases e), (fun _ _ _ e => by cases e), (fun _ _ _ e => by cases e), (fun _ _ _ e => by cases e), (fun _ _ _ e => by cases e), (fun _ _ _ e => by cases e), (fun _ _ _ e => by cases e), (fun _ _ _ e => by cases e), (fun _ _ _ e => by cases e), (fun _ _ _ e => by cases e), (fun _ _ _ e => by cases e), (fun _ _ _ e => by cases e), (fun _ _ _ e => by cases e), (fun _ _ _ e => by cases e), (fun _ _ _ e => by cases e), (fun _ _ _ e => by cases e), (fun _ _ _ e => by cases e), (fun _ _ _ e => by cases e), trivial⟩
theorem owed : Owed tb where
  dv := rfl
  none := fun i r dv sp h1 h2 h3 => by
    have h := allR_get (p := fun i r => ∀ (dv : List Int) (sp : DSp), tb[i]? = some (dv, sp) → r.lv = 0 → ∀ bs K0, ¬ sp bs K0) (l := rows) (k := 0) nones h1
    rw [Nat.zero_add] at h
    exact h dv sp h2 h3
  vc := fun i r dv sp h1 h2 => by
    have h := allR_get kps h1
    rw [Nat.zero_add] at h
    exact h dv sp h2
  law := vc_law (fun _ _ => rfl) (fun _ _ => rfl) (fun _ _ => rfl) (fun _ _ => rfl) (fun _ _ => rfl) (fun _ _ => rfl) (fun _ _ => rfl) (fun _ _ => rfl) (fun _ _ => rfl) (fun _ _ => rfl) (fun _ _ => rfl) (fun _ _ => rfl) (fun _ _ => rfl) (fun _ _ => rfl)
theorem law_holds : PySem.Challenge.rw_everyshift_k78_best_tone.Holds := holds owed
end K78
end
theorem PySem.Challenge.cw_everyshift_k78_best_tone_holds : PySem.Challenge.rw_everyshift_k78_best_tone.Holds :=
  K78.law_holds
