import PyProof.Rows.All
import Wide.All
import OpenK.AllK
import Wide.FinOn
import HandS.ForMost
import HandS.Deep
import HandS.Zip
import HandS.Rev
import HandS.WideBits
import HandS.Lambda
import HandS.ExcCtx
import KE.DataFind
import PyProof.MinMaxWalk
import HandS.TupAny
import HandS.TupMul
import HandS.Star
import HandS.AnyAll
import HandS.MakeKw
import HandS.CallLocal
import PyProof.MaxThree
import KE.GoesMore
import HandS.SetFor
import HandS.Conv
import PyProof.FactsAll.tuple_0
import PyProof.FactsAll.tuple_2
import PyProof.EqAt
import HandS.HotCalls
import HandS.ExcIs
import HandS.Defaults
import PyProof.ReprRoads
import KE.KDflt
import KE.DataMinKey
import KE.GoesEnum
import KE.KRevSl
import HandS.Style
import HandS.WordsExc
import HandS.Codes
import HandS.EndTab
import HandS.Words
import HandS.Head0
import HandS.Head1
import HandS.Head2
import HandS.HeadEnd
import HandS.HeadWalk
import HandS.HeadHook4
import HandS.EndBits
import PyProof.ReprBulk
import PySem.Challenge.RW_evenspread_k39_crowded_stretches_judged
/-! part Y1 -/
set_option Elab.async false
set_option linter.all false
set_option maxRecDepth 100000
/-! Y1: data, environments, the small language C, S and its weakest preconditions. -/
namespace Y
open PySem PySem.Spec PyProof.Rows L2

/-- what an expression yields: data, a def, the state, a list of arguments -/
inductive D where
  | py (p : PyData) | fn (k : Nat) | st | scr | args (ds : List D)
abbrev D.I (i : Int) : D := .py (.int i)
abbrev D.B (b : Bool) : D := .py (.bool b)
abbrev D.N : D := .py .none
abbrev D.T (ps : List PyData) : D := .py (.tuple ps)
abbrev D.L (ps : List PyData) : D := .py (.list ps)
abbrev D.S (x : Str) : D := .py (.str x)
/-- a slot: data that is never changed, or a list that is the slot's own -/
inductive Sl where
  | sh (d : D) | ow (ps : List PyData)
abbrev Ev := List (Option Sl)

inductive BO where
  | add | sub | mul | fdiv | mod | pow
inductive BI where
  | len | int | abs | max | min | sum | all | any | tuple | list
inductive ME where
  | index | count
/-- expressions -/
inductive C where
  | var (i : Nat) | bvar (i : Nat) | scr (i : Nat) | glob (p : PyData) | fnv (k : Nat) | lit (p : PyData)
  | nil | cons (a r : C) | star (a r : C)
  | tup (as : C) | lst (as : C)
  | bin (op : BO) (a b : C) | neg (a : C)
  | cmp (op : CmpOp) (a b : C) | chain (o1 o2 : CmpOp) (a b c : C)
  | and (a b : C) | or (a b : C) | not (a : C)
  | ite (t a b : C)
  | ix (a i : C) | slc (a lo hi : C) | rvs (a : C)
  | call (f : Nat) (as : C) | callb (f : Nat) (as : C) | calln (f : Nat) (as : C) | minK (js : List Nat) (a : C) | callv (i : Nat) (fs : List Nat) (as : C)
  | told (a : C) | toldd (i : Nat) (a : C) | same (a b : C) | repr (a : C)
  | bi (b : BI) (as : C) | isi (a : C) (ty : String) | meth (m : ME) (o as : C)
  | rng (as : C) | lrg (a b : C) | enum (a : C) | enumT (a : C) | zip (a b : C) | zip3 (a b c : C) | rev (a : C) | fns (ks : List Nat)
  | comp (own : List (Str × Nat)) (el : C) (tg : C) (src ifs : C)
  | comp2 (own : List (Str × Nat)) (vs1 : List Nat) (el : C) (tg : C) (src ifs : C) (tg1 src1 ifs1 : C)
/-- statements (a list of them by seq; nil) -/
inductive S where
  | nil | seq (s r : S)
  | frz (i : Nat)
  | asg (i : Nat) (c : C) | asgL (i : Nat) (c : C)
  | unp (tg c : C) | par (i j : Nat) (a b : C) | par3 (i j l : Nat) (a b c : C)
  | aug (i : Nat) (op : BO) (c : C)
  | app (i : Nat) (c : C) | rem (i : Nat) (c : C) | ext (i : Nat) (c : C) | seti (i : Nat) (ci c : C)
  | expr (c : C)
  | ite (t : C) (a b : S)
  | for_ (tg src : C) (body : S)
  | while_ (t : C) (body : S)
  | ret (c : C) | raise (k : Nat) (as : C) | brk | cont | pass

/-! ### operations on data -/
def binD : BO → D → D → (D → Prop) → Prop
  | .add, .py (.int i), .py (.int j), Q => Q (.I (i + j))
  | .add, .py (.tuple xs), .py (.tuple ys), Q => xs.length + ys.length ≤ sizeLine ∧ Q (.T (xs ++ ys))
  | .add, .py (.list xs), .py (.list ys), Q => xs.length + ys.length ≤ sizeLine ∧ Q (.L (xs ++ ys))
  | .sub, .py (.int i), .py (.int j), Q => Q (.I (i - j))
  | .sub, .py (.bool i), .py (.bool j), Q => Q (.I (PyProof.Rows.b2i i - PyProof.Rows.b2i j))
  | .mul, .py (.int i), .py (.int j), Q => CMulX i j ∧ Q (.I (i * j))
  | .mul, .py (.list xs), .py (.int k), Q => (-(2 ^ 63) ≤ k ∧ k < 2 ^ 63 ∧ xs.length * k.toNat ≤ sizeLine) ∧ Q (.L (List.replicate k.toNat xs).flatten)
  | .mul, .py (.tuple xs), .py (.int k), Q => (2 ≤ k ∧ k ≤ 1000 ∧ 0 < xs.length ∧ xs.length ≤ 1000) ∧ Q (.T (List.replicate k.toNat xs).flatten)
  | .fdiv, .py (.int i), .py (.int j), Q => (j ≠ 0 ∧ j.natAbs.log2 < 9000) ∧ Q (.I (i.fdiv j))
  | .mod, .py (.int i), .py (.int j), Q => j ≠ 0 ∧ Q (.I (i.fmod j))
  | .pow, .py (.int i), .py (.int j), Q => (0 ≤ j ∧ j ≤ 1000000 ∧ i.natAbs < 2 ^ 64) ∧ Q (.I (i ^ j.toNat))
  | _, _, _, _ => False
def flatP : PyData → Bool
  | .none => true | .bool _ => true | .int _ => true | .str _ => true | _ => false
def isNone : PyData → Bool
  | .none => true | _ => false
def cmpD : CmpOp → D → D → (D → Prop) → Prop
  | .Lt, .py (.int i), .py (.int j), Q => Q (.B (decide (i < j)))
  | .LtE, .py (.int i), .py (.int j), Q => Q (.B (decide (i ≤ j)))
  | .Gt, .py (.int i), .py (.int j), Q => Q (.B (decide (j < i)))
  | .GtE, .py (.int i), .py (.int j), Q => Q (.B (decide (j ≤ i)))
  | .Eq, .py p, .py q, Q => (SeqAt.shaped p = true ∧ SeqAt.shaped q = true) ∧ Q (.B (PyData.eqv p q))
  | .NotEq, .py p, .py q, Q => (SeqAt.shaped p = true ∧ SeqAt.shaped q = true) ∧ Q (.B (!PyData.eqv p q))
  | .In, .py p, .py (.list ds), Q => (SeqAt.shaped p = true ∧ SeqAt.shaped (.list ds) = true) ∧ Q (.B (ds.any fun z => PyData.eqv z p))
  | .NotIn, .py p, .py (.list ds), Q => (SeqAt.shaped p = true ∧ SeqAt.shaped (.list ds) = true) ∧ Q (.B (!ds.any fun z => PyData.eqv z p))
  | .In, .py p, .py (.tuple ds), Q => ((flatP p = true ∧ ds.all flatP = true) ∨ (SeqAt.shaped p = true ∧ SeqAt.shaped (.tuple ds) = true)) ∧ Q (.B (ds.any fun z => PyData.eqv z p))
  | .NotIn, .py p, .py (.tuple ds), Q => ((flatP p = true ∧ ds.all flatP = true) ∨ (SeqAt.shaped p = true ∧ SeqAt.shaped (.tuple ds) = true)) ∧ Q (.B (!ds.any fun z => PyData.eqv z p))
  | .Is, .py p, .py .none, Q => Q (.B (isNone p))
  | .IsNot, .py p, .py .none, Q => Q (.B (!isNone p))
  | .Is, .py (.bool b), .py (.bool c), Q => Q (.B (b == c))
  | .IsNot, .py (.bool b), .py (.bool c), Q => Q (.B (b != c))
  | _, _, _, _ => False
/-- x op= y, ints -/
def augD : BO → D → D → (D → Prop) → Prop
  | .add, .py (.int i), .py (.int j), Q => Q (.I (i + j))
  | .sub, .py (.int i), .py (.int j), Q => Q (.I (i - j))
  | .mul, .py (.int i), .py (.int j), Q => CMulX i j ∧ Q (.I (i * j))
  | .fdiv, .py (.int i), .py (.int j), Q => (j ≠ 0 ∧ j.natAbs.log2 < 9000) ∧ Q (.I (i.fdiv j))
  | _, _, _, _ => False
def intsP : List PyData → Option (List Int)
  | [] => some []
  | .int i :: r => (intsP r).map (i :: ·)
  | _ => none
/-- o.count(k), o a tuple of ints; o.index(k), o a list of ints, k in it -/
def methD : ME → D → D → (D → Prop) → Prop
  | .count, .py (.tuple xs), .args [.py (.int k)], Q => ∃ ns, intsP xs = some ns ∧ Q (.I (ns.count k : Nat))
  | .index, .py (.list xs), .args [.py (.int k)], Q => ∃ ns, intsP xs = some ns ∧ k ∈ ns ∧ Q (.I (ns.idxOf k : Nat))
  | _, _, _, _ => False
def intsP0 : List PyData → Bool
  | [] => true
  | .int _ :: r => intsP0 r
  | _ => false
def tyM : ME → D → Bool
  | .count, .py (.tuple xs) => intsP0 xs
  | .index, .py (.list _) => true
  | _, _ => false
/-- list(range(x, y)) -/
def lrgD : D → D → (D → Prop) → Prop
  | .py (.int i), .py (.int j), Q => (-(2 ^ 62) ≤ i ∧ i < 2 ^ 62 ∧ -(2 ^ 62) ≤ j ∧ j < 2 ^ 62 ∧ (j - i).toNat ≤ 2 ^ 24) ∧ Q (.L ((List.range (j - i).toNat).map fun (k : Nat) => PyData.int (i + (k : Int))))
  | _, _, _ => False
/-- an item by its place -/
def ixD : D → D → (D → Prop) → Prop
  | .py (.list xs), .py (.int i), Q => ∃ p, atI xs i = some p ∧ Q (.py p)
  | .py (.tuple xs), .py (.int i), Q => ∃ p, atI xs i = some p ∧ Q (.py p)
  | _, _, _ => False
def cutP (xs : List PyData) (lo hi : Option Int) : List PyData := (xs.drop (HT.sIx xs.length 0 lo)).take (HT.sIx xs.length xs.length hi - HT.sIx xs.length 0 lo)
/-- a slice's part -/
def partD : D → (Option Int → Prop) → Prop
  | .py (.int i), Q => Q (some i)
  | .args [], Q => Q none
  | _, _ => False
def slcD : D → Option Int → Option Int → (D → Prop) → Prop
  | .py (.list xs), lo, hi, Q => Q (.L (cutP xs lo hi))
  | .py (.tuple xs), lo, hi, Q => Q (.T (cutP xs lo hi))
  | _, _, _, _ => False
mutual
/-- data without lists -/
def noLP : PyData → Bool
  | .list _ => false
  | .tuple xs => noLA xs
  | .dict _ => false
  | _ => true
def noLA : List PyData → Bool
  | [] => true
  | x :: xs => noLP x && noLA xs
end
def noLD : D → Bool
  | .py p => noLP p
  | _ => false
/-- no list in it but itself -/
def lsFree : D → Bool
  | .py (.list ps) => noLA ps
  | .py p => noLP p
  | _ => false
/-- the ints at these places -/
def keyI (xs : List PyData) : List Nat → Option (List Int)
  | [] => some []
  | j :: js => match xs[j]? with
    | some (.int k) => (keyI xs js).map (k :: ·)
    | _ => none
def keyP (js : List Nat) : PyData → Option (List Int)
  | .tuple xs => keyI xs js
  | _ => none
def keyAt (js : List Nat) (ps : List PyData) (i : Nat) : List Int := (keyP js (ps.getD i .none)).getD []
/-- the first of the least by its key -/
def bestI (js : List Nat) (ps : List PyData) : Nat := argBest (fun i j => HT.lexLt (keyAt js ps i) (keyAt js ps j)) (ps.length - 1)
def minKD (js : List Nat) : D → (D → Prop) → Prop
  | .py (.list ps), Q => 0 < ps.length ∧ (∀ p ∈ ps, (keyP js p).isSome = true) ∧ ∀ p, ps[bestI js ps]? = some p → Q (.py p)
  | _, _ => False
def boolsP : List PyData → Option (List Bool)
  | [] => some []
  | .bool i :: r => (boolsP r).map (i :: ·)
  | _ => none
def pysD : List D → Option (List PyData)
  | [] => some []
  | .py p :: r => (pysD r).map (p :: ·)
  | _ => none
/-- what repr asks -/
def ReprOk (p : PyData) : Prop := p.showable = true ∧ p.hasDict = false ∧ p.depth ≤ 50 ∧ p.shown.length ≤ sizeLine
def seqB : PyData → Bool
  | .list _ => true
  | .tuple _ => true
  | _ => false
def biD : BI → List D → (D → Prop) → Prop
  | .len, [.py (.list xs)], Q => Q (.I xs.length)
  | .len, [.py (.tuple xs)], Q => Q (.I xs.length)
  | .int, [.py (.int i)], Q => Q (.I i)
  | .int, [.py (.bool b)], Q => Q (.I (if b then 1 else 0))
  | .abs, [.py (.int i)], Q => Q (.I (if i < 0 then -i else i))
  | .max, [.py (.list xs)], Q => ∃ ns, intsP xs = some ns ∧ 0 < ns.length ∧ ∀ m, m ∈ ns → (∀ y ∈ ns, y ≤ m) → Q (.I m)
  | .max, [.py (.int i), .py (.int j)], Q => Q (.I (max i j))
  | .max, [.py (.int i), .py (.int j), .py (.int k)], Q => Q (.I (max (max i j) k))
  | .max, [.py (.int i), .py (.int j), .py (.int k), .py (.int l)], Q => Q (.I (max (max (max i j) k) l))
  | .min, [.py (.list xs)], Q => ∃ ns, intsP xs = some ns ∧ 0 < ns.length ∧ ∀ m, m ∈ ns → (∀ y ∈ ns, m ≤ y) → Q (.I m)
  | .min, [.py (.int i), .py (.int j)], Q => Q (.I (min i j))
  | .sum, [.py (.list xs)], Q => ∃ ns, intsP xs = some ns ∧ Q (.I ns.sum)
  | .all, [.py (.list xs)], Q => ∃ bs, boolsP xs = some bs ∧ Q (.B (bs.all id))
  | .any, [.py (.list xs)], Q => ∃ bs, boolsP xs = some bs ∧ Q (.B (bs.any id))
  | .tuple, [.py (.list xs)], Q => Q (.T xs)
  | .tuple, [.py (.tuple xs)], Q => Q (.T xs)
  | .list, [.py (.list xs)], Q => Q (.L xs)
  | .list, [.py (.tuple xs)], Q => Q (.L xs)
  | _, _, _ => False
def isiD : PyData → String → Option Bool
  | .tuple _, "tuple" => some true
  | .list _, "tuple" => some false
  | .none, "tuple" => some false
  | .int _, "tuple" => some false
  | .int _, "int" => some true
  | _, _ => none
/-- the items of what a loop walks -/
def itemsD : D → Option (List D)
  | .py (.list xs) => some (xs.map D.py)
  | .py (.tuple xs) => some (xs.map D.py)
  | .args ds => some ds
  | _ => none
def rangeD (lo hi : Int) : List D := (List.range (hi - lo).toNat).map fun (i : Nat) => D.I (lo + i)
def range3D (lo hi st : Int) : List D := (List.range ((hi - lo + st - 1) / st).toNat).map fun (i : Nat) => D.I (lo + i * st)
def rngD : List D → (D → Prop) → Prop
  | [.py (.int hi)], Q => (-(2 ^ 62) ≤ hi ∧ hi < 2 ^ 62) ∧ Q (.args (rangeD 0 hi))
  | [.py (.int lo), .py (.int hi)], Q => (-(2 ^ 62) ≤ lo ∧ lo < 2 ^ 62 ∧ -(2 ^ 62) ≤ hi ∧ hi < 2 ^ 62) ∧ Q (.args (rangeD lo hi))
  | [.py (.int lo), .py (.int hi), .py (.int st)], Q => (-(2 ^ 62) ≤ lo ∧ lo < 2 ^ 62 ∧ -(2 ^ 62) ≤ hi ∧ hi < 2 ^ 62 ∧ 0 < st ∧ st < 2 ^ 30) ∧ Q (.args (range3D lo hi st))
  | _, _ => False
def enumP (xs : List PyData) : List D := xs.zipIdx.map fun (p, i) => D.T [.int i, p]
def zip3P (xs ys zs : List PyData) : List D := (xs.zip (ys.zip zs)).map fun (p, q, r) => D.T [p, q, r]
def zipP (xs ys : List PyData) : List D := (xs.zip ys).map fun (p, q) => D.T [p, q]
def seqP : D → Option (List PyData)
  | .py (.list xs) => some xs
  | .py (.tuple xs) => some xs
  | _ => none

/-! ### environments -/
def getV (ρ : Ev) (i : Nat) (Q : D → Prop) : Prop :=
  match ρ[i]? with
  | some (some (.sh d)) => Q d
  | _ => False
def getB (ρ : Ev) (i : Nat) (Q : D → Prop) : Prop :=
  match ρ[i]? with
  | some (some (.sh d)) => Q d
  | some (some (.ow ps)) => Q (.L ps)
  | _ => False
/-- a target takes a value -/
def bindG : C → D → Ev → (Ev → Prop) → Prop
  | .var i, d, ρ, K => K (ρ.set i (some (.sh d)))
  | .tup as, .py (.tuple ps), ρ, K => bindG as (.args (ps.map D.py)) ρ K
  | .nil, .args [], ρ, K => K ρ
  | .cons a r, .args (d :: ds), ρ, K => bindG a d ρ fun ρ1 => bindG r (.args ds) ρ1 K
  | _, _, _, _ => False
/-- what a lambda sees: no slot's own list -/
def shE (ρ : Ev) : Ev := ρ.map fun s => match s with
  | some (.sh d) => some (.sh d)
  | _ => none
def wipeE (ρ : Ev) : List Nat → Ev
  | [] => ρ
  | v :: vs => (wipeE ρ vs).set v none

/-- comprehension over items -/
def compW (step : D → (List PyData → Prop) → Prop) : List D → List PyData → (List PyData → Prop) → Prop
  | [], acc, K => K acc
  | d :: ds, acc, K => step d fun new => acc.length + new.length ≤ sizeLine ∧ compW step ds (acc ++ new) K
/-- the same, each turn told what is there -/
def compA (step : D → List PyData → (List PyData → Prop) → Prop) : List D → List PyData → (List PyData → Prop) → Prop
  | [], acc, K => K acc
  | d :: ds, acc, K => step d acc fun acc' => compA step ds acc' K

section
variable (Φ : Nat → List D → (D → Prop) → (Nat → Prop) → Prop) (exN : Nat → Str)
def noE : Nat → Prop := fun _ => False
/-- THE READING of an expression: Q holds of its value, E of the class of what it raises -/
def wp : C → Ev → (D → Prop) → (Nat → Prop) → Prop
  | .var i, ρ, Q, _ => getV ρ i Q
  | .bvar i, ρ, Q, _ => getB ρ i Q
  | .scr i, ρ, Q, _ => getV ρ i fun d => match d with
      | .scr => ∀ ns : List Int, ns.length ≤ 63 → (∀ z ∈ ns, Builtin.Int.intBits z ≤ 1048576) → Q (.L (ns.map PyData.int))
      | _ => False
  | .glob p, _, Q, _ => Q (.py p)
  | .fnv k, _, Q, _ => Q (.fn k)
  | .lit p, _, Q, _ => Q (.py p)
  | .nil, _, Q, _ => Q (.args [])
  | .cons a r, ρ, Q, E => wp a ρ (fun d => wp r ρ (fun x => match x with | .args ds => Q (.args (d :: ds)) | _ => False) E) E
  | .star a r, ρ, Q, E => wp a ρ (fun d => match itemsD d with | some es => wp r ρ (fun x => match x with | .args ds => Q (.args (es ++ ds)) | _ => False) E | none => False) E
  | .tup as, ρ, Q, E => wp as ρ (fun x => match x with | .args ds => ∃ ps, pysD ds = some ps ∧ ps.length ≤ sizeLine ∧ Q (.T ps) | _ => False) E
  | .lst as, ρ, Q, E => wp as ρ (fun x => match x with | .args ds => ∃ ps, pysD ds = some ps ∧ ps.length ≤ sizeLine ∧ Q (.L ps) | _ => False) E
  | .bin op a b, ρ, Q, E => wp a ρ (fun x => wp b ρ (fun y => binD op x y Q) E) E
  | .neg a, ρ, Q, E => wp a ρ (fun x => match x with | .py (.int i) => Q (.I (-i)) | _ => False) E
  | .cmp op a b, ρ, Q, E => wp a ρ (fun x => wp b ρ (fun y => cmpD op x y Q) E) E
  | .chain o1 o2 a b c, ρ, Q, E => wp a ρ (fun x => wp b ρ (fun y => cmpD o1 x y fun k => match k with
      | .py (.bool k) => if k = true then wp c ρ (fun z => cmpD o2 y z Q) E else Q (.B false)
      | _ => False) E) E
  | .and a b, ρ, Q, E => wp a ρ (fun x => match x with | .py (.bool k) => if k = true then wp b ρ Q E else Q (.B false) | _ => False) E
  | .or a b, ρ, Q, E => wp a ρ (fun x => match x with | .py (.bool k) => if k = true then Q (.B true) else wp b ρ Q E | _ => False) E
  | .not a, ρ, Q, E => wp a ρ (fun x => match x with | .py (.bool k) => Q (.B (!k)) | _ => False) E
  | .ite t a b, ρ, Q, E => wp t ρ (fun x => match x with | .py (.bool k) => if k = true then wp a ρ Q E else wp b ρ Q E | _ => False) E
  | .ix a i, ρ, Q, E => wp a ρ (fun x => wp i ρ (fun y => ixD x y Q) E) E
  | .slc a lo hi, ρ, Q, E => wp a ρ (fun x => wp lo ρ (fun l => partD l fun l => wp hi ρ (fun h => partD h fun h => slcD x l h Q) E) E) E
  | .rvs a, ρ, Q, E => wp a ρ (fun x => match x with | .py (.tuple ps) => Q (.T ps.reverse) | _ => False) E
  | .call f as, ρ, Q, E => wp as ρ (fun x => match x with | .args ds => Φ f ds Q E | _ => False) E
  | .callb f as, ρ, Q, E => wp as ρ (fun x => match x with | .args ds => Φ f ds (fun d => noLD d = true ∧ Q d) E | _ => False) E
  | .calln f as, ρ, Q, E => wp as ρ (fun x => match x with | .args ds => ds.all noLD = true ∧ Φ f ds (fun d => lsFree d = true ∧ Q d) E | _ => False) E
  | .minK js a, ρ, Q, E => wp a ρ (fun x => minKD js x Q) E
  | .callv i fs as, ρ, Q, E => getV ρ i fun g => match g with
      | .fn k => k ∈ fs ∧ wp as ρ (fun x => match x with | .args ds => Φ k ds Q E | _ => False) E
      | _ => False
  | .told a, ρ, Q, E => wp a (shE ρ) (fun x => match x with | .py p => Q (.T [.str "told", p]) | _ => False) (fun k => k < 3 ∧ Q (.T [.str (exN k)]))
  | .toldd i a, ρ, Q, E => wp a (wipeE (shE ρ) [i]) (fun x => match x with | .py p => Q (.T [.str "told", p]) | _ => False) (fun k => k < 3 ∧ Q (.T [.str (exN k)]))
  | .same a b, ρ, Q, E => wp a ρ (fun x => wp b ρ (fun y => match x, y with
      | .py p, .py q => (ReprOk (.list [p]) ∧ ReprOk (.list [q])) ∧ Q (.B (decide ((PyData.list [p]).shown = (PyData.list [q]).shown)))
      | _, _ => False) E) E
  | .repr a, ρ, Q, E => wp a ρ (fun x => match x with | .py p => (seqB p = true ∧ ReprOk p) ∧ Q (.S p.shown) | _ => False) E
  | .bi b as, ρ, Q, E => wp as ρ (fun x => match x with | .args ds => biD b ds Q | _ => False) E
  | .isi a ty, ρ, Q, E => wp a ρ (fun x => match x with | .py p => ∃ b, isiD p ty = some b ∧ Q (.B b) | _ => False) E
  | .meth m o as, ρ, Q, E => wp o ρ (fun x => tyM m x = true ∧ wp as ρ (fun y => methD m x y Q) E) E
  | .rng as, ρ, Q, E => wp as ρ (fun x => match x with | .args ds => rngD ds Q | _ => False) E
  | .lrg a b, ρ, Q, E => wp a ρ (fun x => wp b ρ (fun y => lrgD x y Q) E) E
  | .enum a, ρ, Q, E => wp a ρ (fun x => match seqP x with | some xs => Q (.args (enumP xs)) | none => False) E
  | .enumT a, ρ, Q, E => wp a ρ (fun x => match x with | .py (.tuple xs) => Q (.args (enumP xs)) | _ => False) E
  | .zip3 a b c, ρ, Q, E => wp a ρ (fun x => wp b ρ (fun y => wp c ρ (fun z => match x, y, z with | .py (.tuple xs), .py (.tuple ys), .py (.tuple zs) => Q (.args (zip3P xs ys zs)) | _, _, _ => False) E) E) E
  | .zip a b, ρ, Q, E => wp a ρ (fun x => wp b ρ (fun y => match x, y with | .py (.list xs), .py (.list ys) => Q (.args (zipP xs ys)) | .py (.tuple xs), .py (.tuple ys) => Q (.args (zipP xs ys)) | _, _ => False) E) E
  | .rev a, ρ, Q, E => wp a ρ (fun x => match seqP x with | some xs => Q (.args (xs.reverse.map D.py)) | none => False) E
  | .fns ks, _, Q, _ => Q (.args (ks.map D.fn))
  | .comp own el tg src ifs, ρ, Q, E => wp src ρ (fun x => match itemsD x with
      | some ds => compW (fun d K => bindG tg d (wipeE ρ (own.map (·.2))) fun ρ1 => wp ifs ρ1 (fun t => match t with
          | .py (.bool k) => if k = true then wp el ρ1 (fun y => match y with | .py p => K [p] | _ => False) noE else K []
          | _ => False) noE) ds [] fun out => Q (.L out)
      | none => False) E
  | .comp2 own vs1 el tg src ifs tg1 src1 ifs1, ρ, Q, E => wp src ρ (fun x => match itemsD x with
      | some ds => compA (fun d acc K => bindG tg d (wipeE ρ (own.map (·.2))) fun ρ1 => wp ifs ρ1 (fun t => match t with
          | .py (.bool k) => if k = true then wp src1 ρ1 (fun x1 => match itemsD x1 with
              | some ds1 => compW (fun d1 K1 => bindG tg1 d1 (wipeE ρ1 vs1) fun ρ2 => wp ifs1 ρ2 (fun t1 => match t1 with
                  | .py (.bool k1) => if k1 = true then wp el ρ2 (fun y => match y with | .py p => K1 [p] | _ => False) noE else K1 []
                  | _ => False) noE) ds1 acc K
              | none => False) noE else K acc
          | _ => False) noE) ds [] fun out => Q (.L out)
      | none => False) E

/-- what is wanted behind a statement -/
structure En where
  nx : Ev → Prop
  rt : D → Prop
  bk : Ev → Prop
  ct : Ev → Prop
  ex : Nat → Prop
def forW (step : D → Ev → (Ev → Prop) → Prop) (nx : Ev → Prop) : List D → Ev → Prop
  | [], ρ => nx ρ
  | d :: ds, ρ => step d ρ (forW step nx ds)
def whileW (turn : Ev → (Ev → Prop) → Prop) : Nat → Ev → Prop
  | 0, _ => False
  | n + 1, ρ => turn ρ (whileW turn n)
def wpS : S → Ev → En → Prop
  | .nil, ρ, D => D.nx ρ
  | .seq s r, ρ, D => wpS s ρ { D with nx := fun ρ1 => wpS r ρ1 D }
  | .frz i, ρ, D => match ρ[i]? with
      | some (some (.ow ps)) => D.nx (ρ.set i (some (.sh (.L ps))))
      | _ => D.nx ρ
  | .asg i c, ρ, D => wp Φ exN c ρ (fun d => D.nx (ρ.set i (some (.sh d)))) D.ex
  | .asgL i c, ρ, D => wp Φ exN c ρ (fun d => match d with | .py (.list ps) => D.nx (ρ.set i (some (.ow ps))) | _ => False) D.ex
  | .unp tg c, ρ, D => wp Φ exN c ρ (fun d => bindG tg d ρ D.nx) D.ex
  | .par3 i j l a b c, ρ, D => wp Φ exN a ρ (fun x => wp Φ exN b ρ (fun y => wp Φ exN c ρ (fun z => D.nx (((ρ.set i (some (.sh x))).set j (some (.sh y))).set l (some (.sh z)))) D.ex) D.ex) D.ex
  | .par i j a b, ρ, D => wp Φ exN a ρ (fun x => wp Φ exN b ρ (fun y => D.nx ((ρ.set i (some (.sh x))).set j (some (.sh y)))) D.ex) D.ex
  | .aug i op c, ρ, D => getV ρ i fun x => wp Φ exN c ρ (fun y => augD op x y fun z => D.nx (ρ.set i (some (.sh z)))) D.ex
  | .app i c, ρ, D => match ρ[i]? with
      | some (some (.ow ps)) => wp Φ exN c ρ (fun d => match d with
        | .py p => ps.length < sizeLine ∧ D.nx (ρ.set i (some (.ow (ps ++ [p]))))
        | _ => False) D.ex
      | _ => False
  | .rem i c, ρ, D => match ρ[i]? with
      | some (some (.ow ps)) => wp Φ exN c ρ (fun d => match d with
        | .py p => (SeqAt.shaped p = true ∧ SeqAt.shaped (.list ps) = true ∧ PyData.plainAll ps = true ∧ p.plain = true) ∧ ∃ j, SeqAt.dataPlace ps p = some j ∧ D.nx (ρ.set i (some (.ow (ps.eraseIdx j))))
        | _ => False) D.ex
      | _ => False
  | .ext i c, ρ, D => match ρ[i]? with
      | some (some (.ow ps)) => wp Φ exN c ρ (fun d => match d with
        | .py (.list qs) => ps.length + qs.length ≤ sizeLine ∧ D.nx (ρ.set i (some (.ow (ps ++ qs))))
        | _ => False) D.ex
      | _ => False
  | .seti i ci c, ρ, D => match ρ[i]? with
      | some (some (.ow ps)) => wp Φ exN c ρ (fun d => wp Φ exN ci ρ (fun x => match x, d with
        | .py (.int k), .py p => ∃ j, ixN ps.length k = some j ∧ D.nx (ρ.set i (some (.ow (ps.set j p))))
        | _, _ => False) D.ex) D.ex
      | _ => False
  | .expr c, ρ, D => wp Φ exN c ρ (fun _ => D.nx ρ) D.ex
  | .ite t a b, ρ, D => wp Φ exN t ρ (fun x => match x with | .py (.bool k) => if k = true then wpS a ρ D else wpS b ρ D | _ => False) D.ex
  | .for_ tg src body, ρ, D => wp Φ exN src ρ (fun x => match itemsD x with
      | some ds => forW (fun d ρ1 K => bindG tg d ρ1 fun ρ2 => wpS body ρ2 { D with nx := K, ct := K, bk := D.nx }) D.nx ds ρ
      | none => False) D.ex
  | .while_ t body, ρ, D => ∃ n, whileW (fun ρ1 K => wp Φ exN t ρ1 (fun x => match x with
      | .py (.bool k) => if k = true then wpS body ρ1 { D with nx := K, ct := K, bk := D.nx } else D.nx ρ1
      | _ => False) D.ex) n ρ
  | .ret c, ρ, D => wp Φ exN c ρ D.rt D.ex
  | .raise k as, ρ, D => wp Φ exN as ρ (fun _ => D.ex k) D.ex
  | .brk, ρ, D => D.bk ρ
  | .cont, ρ, D => D.ct ρ
  | .pass, ρ, D => D.nx ρ
end
end Y

/-! part Y2 -/
set_option Elab.async false
set_option linter.all false
set_option maxRecDepth 100000
set_option maxHeartbeats 1000000
/-! Y2: what the data stand for in the heap; the invariant of a body. -/
namespace Y
open PySem PySem.Spec
open PyProof.Rows hiding St
open L2

/-- what may change, though it is tracked: the state's list; the tables of code objects -/
structure SA where
  s : Option (Addr × Addr)
  T : List (Addr × Str)
def NotS (sa : SA) (b : Addr) : Prop := (∀ s n, sa.s = some (s, n) → b ≠ s) ∧ ∀ p ∈ sa.T, b ≠ p.1
/-- all that was tracked is as it was, but the state and the tables -/
def Ext (sa : SA) (H H' : Hp) : Prop := ∀ b o, H b = some o → NotS sa b → H' b = some o
def StOk (sa : SA) (n : Nat) (H : Hp) : Prop := (∀ s b, sa.s = some (s, b) → ∃ (c : Int) (ns : List Int),
  H s = some (.lst [V.ref b, V.int c]) ∧ 0 ≤ c ∧ c ≤ n ∧ H b = some (.lst (ns.map V.int)) ∧ 0 < ns.length ∧ ns.length ≤ 4000 ∧ ∀ x ∈ ns, 0 ≤ x ∧ x < 1009) ∧ LamX.Tabs sa.T H
/-- they stood at the entry -/
def S0 (sa : SA) (H0 : Hp) : Prop := (∀ s b, sa.s = some (s, b) → H0 s ≠ none ∧ H0 b ≠ none) ∧ ∀ p ∈ sa.T, H0 p.1 ≠ none
def solid : HO → Prop
  | .tup _ => True
  | .frz _ _ => True
  | _ => False
def Keep (F : Addr → Prop) (H H' : Hp) : Prop := ∀ b o, H b = some o → (F b ∨ solid o) → H' b = some o
theorem Ext.refl {sa : SA} {H : Hp} : Ext sa H H := fun _ _ e _ => e
theorem Ext.trans {sa : SA} {H H1 H2 : Hp} (a : Ext sa H H1) (b : Ext sa H1 H2) : Ext sa H H2 := fun c o e n => b c o (a c o e n) n
theorem StOk.mono {sa : SA} {n m : Nat} {H : Hp} (h : StOk sa n H) (l : n ≤ m) : StOk sa m H := ⟨fun s b e => by
  obtain ⟨c, ns, h1, h2, h3, h4, h5, h6, h7⟩ := h.1 s b e
  exact ⟨c, ns, h1, h2, by omega, h4, h5, h6, h7⟩, h.2⟩
theorem notS_of {sa : SA} {n : Nat} {H : Hp} {p : Addr} (st : StOk sa n H) (h : H p = none) : NotS sa p := by
  refine ⟨fun s b e q => ?_, fun r hr q => ?_⟩
  · obtain ⟨c, ns, h1, _⟩ := st.1 s b e
    rw [q, h1] at h
    cases h
  · obtain ⟨ps, h1, _⟩ := st.2 r hr
    rw [q, h1] at h
    cases h
theorem Ext.fresh {sa : SA} {n : Nat} {H H' : Hp} {p : Addr} (e : Ext sa H H') (st : StOk sa n H') (h : H' p = none) : H p = none := by
  cases q : H p with
  | none => rfl
  | some o =>
    rw [e p o q (notS_of st h)] at h
    cases h
theorem S0.notS {sa : SA} {H0 : Hp} {p : Addr} (h : S0 sa H0) (h0 : H0 p = none) : NotS sa p := ⟨fun s b e z => (h.1 s b e).1 (by rw [← z]; exact h0), fun r hr z => h.2 r hr (by rw [← z]; exact h0)⟩
theorem StOk.s0 {sa : SA} {n : Nat} {H : Hp} (h : StOk sa n H) : S0 sa H := ⟨fun s b e => by
    obtain ⟨c, ns, h1, _, _, h4, _⟩ := h.1 s b e
    exact ⟨by rw [h1]; exact fun z => (nomatch z), by rw [h4]; exact fun z => (nomatch z)⟩, fun p hp => by
    obtain ⟨ps, h1, _⟩ := h.2 p hp
    rw [h1]; exact fun z => (nomatch z)⟩
/-- a list, or nothing, is written where no state is -/
theorem StOk.put {sa : SA} {n : Nat} {H : Hp} (st : StOk sa n H) {p : Addr} {o : HO} (h1 : ∀ s b, sa.s = some (s, b) → s ≠ p ∧ b ≠ p) (h2 : ∀ o', H p = some o' → ∃ vs, o' = .lst vs) : StOk sa n (L2.upd H p o) := by
  refine ⟨fun s b es => ?_, fun r hr => ?_⟩
  · obtain ⟨c, ns, q1, q2, q3, q4, q5⟩ := st.1 s b es
    obtain ⟨g1, g2⟩ := h1 s b es
    exact ⟨c, ns, by rw [upd_ne g1]; exact q1, q2, q3, by rw [upd_ne g2]; exact q4, q5⟩
  · obtain ⟨ps, q1, q2, q3⟩ := st.2 r hr
    refine ⟨ps, ?_, q2, fun pos cv hc => ?_⟩
    · rw [upd_ne ?_]
      · exact q1
      · intro z
        rw [z] at q1
        obtain ⟨vs, e⟩ := h2 _ q1
        cases e
    · obtain ⟨c, e1, e2⟩ := q3 pos cv hc
      refine ⟨c, e1, ?_⟩
      rw [upd_ne ?_]
      · exact e2
      · intro z
        rw [z] at e2
        obtain ⟨vs, e⟩ := h2 _ e2
        cases e

/-- a tuple without a dict of its own -/
def PlT (K : PySem.W.Frag) (H : Hp) (a : Addr) : Prop := (∃ o vs, H a = some (.frz o (.tup vs)) ∧ o.dict = none) ∨ ∃ o, K.lookup a = some o ∧ o.dict = none
mutual
inductive Rp (sg : Bool) (K : PySem.W.Frag) (F : Addr → Prop) (H : Hp) : V → PyData → Prop
  | non : Rp sg K F H .non .none
  | bl (b : Bool) : Rp sg K F H (.bl b) (.bool b)
  | int (i : Int) : Rp sg K F H (.int i) (.int i)
  | str (x : Str) : Rp sg K F H (.str x) (.str x)
  | lst {a : Addr} {vs : List V} {ds : List PyData} : H a = some (.lst vs) → F a → RpAll sg K F H vs ds → Rp sg K F H (.ref a) (.list ds)
  | tup {a : Addr} {vs : List V} {ds : List PyData} : SqT K H a vs → (sg = true → intsP0 ds = true → PlT K H a) → RpAll sg K F H vs ds → Rp sg K F H (.ref a) (.tuple ds)
inductive RpAll (sg : Bool) (K : PySem.W.Frag) (F : Addr → Prop) (H : Hp) : List V → List PyData → Prop
  | nil : RpAll sg K F H [] []
  | cons {v : V} {vs : List V} {d : PyData} {ds : List PyData} : Rp sg K F H v d → RpAll sg K F H vs ds → RpAll sg K F H (v :: vs) (d :: ds)
end
section
variable {sg : Bool} {K : PySem.W.Frag} {F F' : Addr → Prop} {H H' : Hp}
theorem Keep.sqt (k : Keep F H H') {a : Addr} {vs : List V} (h : SqT K H a vs) : SqT K H' a vs := by
  rcases h with (h | ⟨o, h⟩) | h
  · exact .inl (.inl (k _ _ h (.inr trivial)))
  · exact .inl (.inr ⟨o, k _ _ h (.inr trivial)⟩)
  · exact .inr h
theorem Keep.plt (k : Keep F H H') {a : Addr} (h : PlT K H a) : PlT K H' a := by
  rcases h with ⟨o, vs, h, d⟩ | h
  · exact .inl ⟨o, vs, k _ _ h (.inr trivial), d⟩
  · exact .inr h
mutual
theorem Rp.mono (k : Keep F H H') (f : ∀ a, F a → F' a) : ∀ {v : V} {p : PyData}, Rp sg K F H v p → Rp sg K F' H' v p
  | _, _, .non => .non
  | _, _, .bl b => .bl b
  | _, _, .int i => .int i
  | _, _, .str x => .str x
  | _, _, .lst h1 h2 h3 => .lst (k _ _ h1 (.inl h2)) (f _ h2) (RpAll.mono k f h3)
  | _, _, .tup h1 h0 h2 => .tup (k.sqt h1) (fun s i => k.plt (h0 s i)) (RpAll.mono k f h2)
theorem RpAll.mono (k : Keep F H H') (f : ∀ a, F a → F' a) : ∀ {vs : List V} {ps : List PyData}, RpAll sg K F H vs ps → RpAll sg K F' H' vs ps
  | _, _, .nil => .nil
  | _, _, .cons h1 h2 => .cons (Rp.mono k f h1) (RpAll.mono k f h2)
end
mutual
theorem Rp.dp : ∀ {v : V} {p : PyData}, Rp sg K F H v p → Dp K H v p
  | _, _, .non => .non
  | _, _, .bl b => .bl b
  | _, _, .int i => .int i
  | _, _, .str x => .str x
  | _, _, .lst h1 h2 h3 => .lst (SqL.of h1) (RpAll.dp h3)
  | _, _, .tup h1 _ h2 => .tup h1 (RpAll.dp h2)
theorem RpAll.dp : ∀ {vs : List V} {ps : List PyData}, RpAll sg K F H vs ps → DpAll K H vs ps
  | _, _, .nil => .nil
  | _, _, .cons h1 h2 => .cons (Rp.dp h1) (RpAll.dp h2)
end
theorem RpAll.length : ∀ {vs : List V} {ps : List PyData}, RpAll sg K F H vs ps → vs.length = ps.length
  | _, _, .nil => rfl
  | _, _, .cons _ h => congrArg (· + 1) h.length
theorem RpAll.append : ∀ {vs ws : List V} {ps qs : List PyData}, RpAll sg K F H vs ps → RpAll sg K F H ws qs → RpAll sg K F H (vs ++ ws) (ps ++ qs)
  | _, _, _, _, .nil, h => h
  | _, _, _, _, .cons a t, h => .cons a (t.append h)
theorem RpAll.get : ∀ {vs : List V} {ps : List PyData} {i : Nat} {p : PyData}, RpAll sg K F H vs ps → ps[i]? = some p → ∃ v, vs[i]? = some v ∧ Rp sg K F H v p
  | _, _, _, _, .nil, e => by simp at e
  | _, _, 0, _, .cons a t, e => by simp at e; subst e; exact ⟨_, rfl, a⟩
  | _, _, i + 1, p, .cons a t, e => by
    obtain ⟨v, h1, h2⟩ := RpAll.get (i := i) (p := p) t (by simpa using e)
    exact ⟨v, by simpa using h1, h2⟩
theorem RpAll.get' : ∀ {vs : List V} {ps : List PyData} {i : Nat} {v : V}, RpAll sg K F H vs ps → vs[i]? = some v → ∃ p, ps[i]? = some p ∧ Rp sg K F H v p
  | _, _, _, _, .nil, e => by simp at e
  | _, _, 0, _, .cons a t, e => by simp at e; subst e; exact ⟨_, rfl, a⟩
  | _, _, i + 1, p, .cons a t, e => by
    obtain ⟨v, h1, h2⟩ := RpAll.get' (i := i) (v := p) t (by simpa using e)
    exact ⟨v, by simpa using h1, h2⟩
theorem RpAll.take : ∀ {vs : List V} {ps : List PyData} (n : Nat), RpAll sg K F H vs ps → RpAll sg K F H (vs.take n) (ps.take n)
  | _, _, 0, _ => .nil
  | _, _, _ + 1, .nil => .nil
  | _, _, n + 1, .cons a t => .cons a (t.take n)
theorem RpAll.drop : ∀ {vs : List V} {ps : List PyData} (n : Nat), RpAll sg K F H vs ps → RpAll sg K F H (vs.drop n) (ps.drop n)
  | _, _, 0, h => h
  | _, _, _ + 1, .nil => .nil
  | _, _, n + 1, .cons _ t => t.drop n
theorem RpAll.set : ∀ {vs : List V} {ps : List PyData} (i : Nat) {v : V} {p : PyData}, RpAll sg K F H vs ps → Rp sg K F H v p → RpAll sg K F H (vs.set i v) (ps.set i p)
  | _, _, _, _, _, .nil, _ => .nil
  | _, _, 0, _, _, .cons _ t, r => .cons r t
  | _, _, i + 1, _, _, .cons a t, r => .cons a (t.set i r)
theorem RpAll.reverse : ∀ {vs : List V} {ps : List PyData}, RpAll sg K F H vs ps → RpAll sg K F H vs.reverse ps.reverse
  | _, _, .nil => .nil
  | _, _, .cons a t => by
    rw [List.reverse_cons, List.reverse_cons]
    exact t.reverse.append (.cons a .nil)
theorem RpAll.rep {vs : List V} {ps : List PyData} (h : RpAll sg K F H vs ps) : ∀ k : Nat, RpAll sg K F H (List.replicate k vs).flatten (List.replicate k ps).flatten
  | 0 => .nil
  | k + 1 => by
    rw [List.replicate_succ, List.replicate_succ, List.flatten_cons, List.flatten_cons]
    exact h.append (h.rep k)
theorem RpAll.cut {vs : List V} {ps : List PyData} (h : RpAll sg K F H vs ps) (lo hi : Option Int) : RpAll sg K F H (cutV vs lo hi) (cutP ps lo hi) := by
  unfold cutV cutP
  rw [h.length]
  exact (h.drop _).take _
theorem RpAll.ints : ∀ {vs : List V} {ps : List PyData} {ns : List Int}, RpAll sg K F H vs ps → intsP ps = some ns → vs = ns.map V.int
  | _, _, ns, .nil, e => by
    simp only [intsP, Option.some.injEq] at e
    subst e
    rfl
  | _, _, ns, .cons (d := d) (ds := ds) a t, e => by
    cases d with
    | int i =>
      cases a
      simp only [intsP] at e
      cases q : intsP ds with
      | none => rw [q] at e; cases e
      | some ms =>
        rw [q] at e
        simp only [Option.map_some, Option.some.injEq] at e
        subst e
        rw [t.ints q]
        rfl
    | _ => simp [intsP] at e
theorem RpAll.bools : ∀ {vs : List V} {ps : List PyData} {ns : List Bool}, RpAll sg K F H vs ps → boolsP ps = some ns → vs = ns.map V.bl
  | _, _, ns, .nil, e => by
    simp only [boolsP, Option.some.injEq] at e
    subst e
    rfl
  | _, _, ns, .cons (d := d) (ds := ds) a t, e => by
    cases d with
    | bool i =>
      cases a
      simp only [boolsP] at e
      cases q : boolsP ds with
      | none => rw [q] at e; cases e
      | some ms =>
        rw [q] at e
        simp only [Option.map_some, Option.some.injEq] at e
        subst e
        rw [t.bools q]
        rfl
    | _ => simp [boolsP] at e
end

/-- the program's facts -/
structure RS where
  P : Program
  w : World
  K : PySem.W.Frag
  mg : Str → Option Value
  base : Heap
  fa : Nat → Addr
  ex : Nat → Addr
  sg : Bool
  T0 : List (Addr × Str)
/-- a run of a def: the program's facts, the state's addresses, its entry; nb: how many draws there may be at most at its end -/
structure RT where
  S : RS
  sa : SA
  nb : Nat
  H0 : Hp
  F0 : Addr → Prop
abbrev RT.K (R : RT) : PySem.W.Frag := R.S.K
abbrev RT.sg (R : RT) : Bool := R.S.sg
abbrev RT.fa (R : RT) : Nat → Addr := R.S.fa
abbrev RT.ex (R : RT) : Nat → Addr := R.S.ex
/-- a list that nobody writes: the script -/
def FzL (K : PySem.W.Frag) (H : Hp) (a : Addr) (vs : List V) : Prop := SqL K H a vs ∧ ∀ H' : Hp, (∀ b o, H b = some o → solid o → H' b = some o) → SqL K H' a vs
def RD (R : RT) (F : Addr → Prop) (H : Hp) : V → D → Prop
  | v, .py p => Rp R.sg R.K F H v p
  | v, .fn k => v = V.ref (R.fa k)
  | v, .st => ∃ s b, R.sa.s = some (s, b) ∧ v = V.ref s
  | v, .scr => ∃ (a : Addr) (ns : List Int), v = V.ref a ∧ FzL R.K H a (ns.map V.int) ∧ ns.length ≤ 63 ∧ ∀ z ∈ ns, Builtin.Int.intBits z ≤ 1048576
  | _, .args _ => False
def RA (R : RT) (F : Addr → Prop) (H : Hp) : List V → List D → Prop
  | [], [] => True
  | v :: vs, d :: ds => RD R F H v d ∧ RA R F H vs ds
  | _, _ => False
/-- data, or a list that may be somebody's own -/
def RB (R : RT) (F : Addr → Prop) (H : Hp) (v : V) (d : D) : Prop :=
  RD R F H v d ∨ ∃ a vs ps, d = .L ps ∧ v = V.ref a ∧ H a = some (.lst vs) ∧ NotS R.sa a ∧ RpAll R.sg R.K F H vs ps
/-- data, or a new list (none yet at H0) -/
def RN (R : RT) (H0 : Hp) (F : Addr → Prop) (H : Hp) (v : V) (d : D) : Prop :=
  (RD R F H v d ∧ ∀ ps, d ≠ .L ps) ∨ ∃ a vs ps, d = .L ps ∧ v = V.ref a ∧ H0 a = none ∧ H a = some (.lst vs) ∧ ¬ F a ∧ RpAll R.sg R.K F H vs ps
def SlotOk (R : RT) (F : Addr → Prop) (σ : St) (H : Hp) (i : Nat) : Sl → Prop
  | .sh d => ∃ v, σ[i]? = some (some v) ∧ RD R F H v d
  | .ow ps => ∃ a vs, σ[i]? = some (some (V.ref a)) ∧ H a = some (.lst vs) ∧ RpAll R.sg R.K F H vs ps ∧ ¬ F a ∧ R.H0 a = none
structure EnvOk (R : RT) (n : Nat) (F : Addr → Prop) (σ : St) (H : Hp) (ρ : Ev) : Prop where
  ext : Ext R.sa R.H0 H
  st : StOk R.sa n H
  s0 : S0 R.sa R.H0
  fs : ∀ b, F b → NotS R.sa b
  fr : ∀ a, F a → H a ≠ none
  new : ∀ a, F a → R.F0 a ∨ R.H0 a = none
  len : ρ.length = σ.length
  slot : ∀ (i : Nat) (s : Sl), ρ[i]? = some (some s) → SlotOk R F σ H i s
  apart : ∀ (i j : Nat) (a : Addr) (ps qs : List PyData), ρ[i]? = some (some (Sl.ow ps)) → ρ[j]? = some (some (Sl.ow qs)) → σ[i]? = some (some (V.ref a)) → σ[j]? = some (some (V.ref a)) → i = j
section
variable {R : RT} {F F' F1 F2 : Addr → Prop} {H H' H1 H2 : Hp} {σ : St} {ρ : Ev} {n m : Nat}
theorem EnvOk.mono (e : EnvOk R n F σ H ρ) (l : n ≤ m) : EnvOk R m F σ H ρ := { e with st := e.st.mono l }
theorem EnvOk.notS (e : EnvOk R n F σ H ρ) {a : Addr} (h : F a) : NotS R.sa a := e.fs a h
theorem EnvOk.keep (e : EnvOk R n F σ H ρ) (x : Ext R.sa H H') : Keep F H H' := fun b o q h => by
  refine x b o q ?_
  rcases h with h | h
  · exact e.notS h
  · refine ⟨fun s n' es z => ?_, fun r hr z => ?_⟩
    · obtain ⟨c, ns, h1, _⟩ := e.st.1 s n' es
      rw [z, h1] at q
      cases q
      exact h
    · obtain ⟨ps, h1, _⟩ := e.st.2 r hr
      rw [z, h1] at q
      cases q
      exact h
theorem RD.mono (k : Keep F H H') (f : ∀ a, F a → F' a) {v : V} {d : D} (h : RD R F H v d) : RD R F' H' v d := by
  cases d with
  | py p => exact Rp.mono k f h
  | fn j => exact h
  | st => exact h
  | scr =>
    obtain ⟨a, ns, h1, h2, h3⟩ := h
    exact ⟨a, ns, h1, ⟨h2.2 _ fun b o q s => k b o q (.inr s), fun H2 k2 => h2.2 _ fun b o q s => k2 b o (k b o q (.inr s)) s⟩, h3⟩
  | args ds => exact h
theorem RA.mono (k : Keep F H H') (f : ∀ a, F a → F' a) : ∀ {vs : List V} {ds : List D}, RA R F H vs ds → RA R F' H' vs ds
  | [], [], _ => trivial
  | v :: vs, d :: ds, ⟨a, b⟩ => ⟨a.mono k f, RA.mono k f b⟩
  | [], _ :: _, h => h.elim
  | _ :: _, [], h => h.elim
theorem RA.length : ∀ {vs : List V} {ds : List D}, RA R F H vs ds → vs.length = ds.length
  | [], [], _ => rfl
  | v :: vs, d :: ds, ⟨a, b⟩ => congrArg (· + 1) b.length
  | [], _ :: _, h => h.elim
  | _ :: _, [], h => h.elim
theorem RA.append : ∀ {vs ws : List V} {ds es : List D}, RA R F H vs ds → RA R F H ws es → RA R F H (vs ++ ws) (ds ++ es)
  | [], _, [], _, _, h => h
  | v :: vs, _, d :: ds, _, ⟨a, b⟩, h => ⟨a, RA.append b h⟩
  | [], _, _ :: _, _, h, _ => h.elim
  | _ :: _, _, [], _, h, _ => h.elim
theorem RA.pys : ∀ {vs : List V} {ds : List D} {ps : List PyData}, RA R F H vs ds → pysD ds = some ps → RpAll R.sg R.K F H vs ps
  | [], [], ps, _, e => by
    simp only [pysD, Option.some.injEq] at e
    subst e
    exact .nil
  | v :: vs, d :: ds, ps, ⟨a, b⟩, e => by
    cases d with
    | py p =>
      simp only [pysD] at e
      cases q : pysD ds with
      | none => rw [q] at e; cases e
      | some qs =>
        rw [q] at e
        simp only [Option.map_some, Option.some.injEq] at e
        subst e
        exact .cons a (RA.pys b q)
    | _ => simp [pysD] at e
  | [], _ :: _, _, h, _ => h.elim
  | _ :: _, [], _, h, _ => h.elim
theorem RpAll.ra : ∀ {vs : List V} {ps : List PyData}, RpAll R.sg R.K F H vs ps → RA R F H vs (ps.map D.py)
  | _, _, .nil => trivial
  | _, _, .cons a t => ⟨a, t.ra⟩
theorem RB.mono (e : EnvOk R n F σ H ρ) (x : Ext R.sa H H') (f : ∀ a, F a → F' a) {v : V} {d : D} (h : RB R F H v d) : RB R F' H' v d := by
  rcases h with h | ⟨a, vs, ps, h1, h2, h3, h4, h5⟩
  · exact .inl (h.mono (e.keep x) f)
  · exact .inr ⟨a, vs, ps, h1, h2, x _ _ h3 h4, h4, h5.mono (e.keep x) f⟩
theorem RB.dp {v : V} {p : PyData} (h : RB R F H v (.py p)) : Dp R.K H v p := by
  rcases h with h | ⟨a, vs, ps, h1, h2, h3, h4, h5⟩
  · exact Rp.dp h
  · cases h1
    subst h2
    exact .lst (SqL.of h3) h5.dp
theorem RB.list (e : EnvOk R n F σ H ρ) {v : V} {ps : List PyData} (h : RB R F H v (.L ps)) : ∃ a vs, v = V.ref a ∧ H a = some (.lst vs) ∧ NotS R.sa a ∧ RpAll R.sg R.K F H vs ps := by
  rcases h with h | ⟨a, vs, ps, h1, h2, h3, h4, h5⟩
  · cases h with
    | lst h1 h2 h3 => exact ⟨_, _, rfl, h1, e.notS h2, h3⟩
  · cases h1
    exact ⟨a, vs, h2, h3, h4, h5⟩
theorem RB.tuple {v : V} {ps : List PyData} (h : RB R F H v (.T ps)) : ∃ a vs, v = V.ref a ∧ SqT R.K H a vs ∧ RpAll R.sg R.K F H vs ps := by
  rcases h with h | ⟨a, vs, ps, h1, h2, h3, h4, h5⟩
  · cases h with
    | tup h1 _ h2 => exact ⟨_, _, rfl, h1, h2⟩
  · cases h1
theorem RB.tupleP {v : V} {ps : List PyData} (h : RB R F H v (.T ps)) : ∃ a vs, v = V.ref a ∧ SqT R.K H a vs ∧ (R.sg = true → intsP0 ps = true → PlT R.K H a) ∧ RpAll R.sg R.K F H vs ps := by
  rcases h with h | ⟨a, vs, ps, h1, h2, h3, h4, h5⟩
  · cases h with
    | tup h1 h0 h2 => exact ⟨_, _, rfl, h1, h0, h2⟩
  · cases h1
theorem RB.int {v : V} {i : Int} (h : RB R F H v (.I i)) : v = .int i := by
  rcases h with h | ⟨a, vs, ps, h1, _⟩
  · cases h; rfl
  · cases h1
theorem RB.bool {v : V} {b : Bool} (h : RB R F H v (.B b)) : v = .bl b := by
  rcases h with h | ⟨a, vs, ps, h1, _⟩
  · cases h; rfl
  · cases h1
theorem RB.flat {v : V} {p : PyData} (f : flatP p = true) (h : RB R F H v (.py p)) : Rp R.sg R.K F H v p := by
  rcases h with h | ⟨a, vs, ps, h1, _⟩
  · exact h
  · cases h1
    cases f
/-- the heap behind an expression -/
structure Nxt (R : RT) (m : Nat) (σ : St) (ρ : Ev) (F : Addr → Prop) (H : Hp) (F' : Addr → Prop) (H' : Hp) : Prop where
  env : EnvOk R m F' σ H' ρ
  ext : Ext R.sa H H'
  sub : ∀ a, F a → F' a
  nw : ∀ a, F' a → F a ∨ H a = none
theorem Nxt.refl (e : EnvOk R m F σ H ρ) : Nxt R m σ ρ F H F H := ⟨e, .refl, fun _ h => h, fun _ h => .inl h⟩
theorem Nxt.trans (a : Nxt R n σ ρ F H F1 H1) (b : Nxt R m σ ρ F1 H1 F2 H2) : Nxt R m σ ρ F H F2 H2 := ⟨b.env, a.ext.trans b.ext, fun c h => b.sub c (a.sub c h), fun c h => by
  rcases b.nw c h with h | h
  · exact a.nw c h
  · exact .inr (a.ext.fresh a.env.st h)⟩
theorem Nxt.mono (a : Nxt R n σ ρ F H F1 H1) (l : n ≤ m) : Nxt R m σ ρ F H F1 H1 := ⟨a.env.mono l, a.ext, a.sub, a.nw⟩
/-- a new object, not frozen -/
theorem EnvOk.upd (e : EnvOk R n F σ H ρ) {p : Addr} {o : HO} (h : H p = none) : EnvOk R n F σ (upd H p o) ρ := by
  have x : Ext R.sa H (L2.upd H p o) := fun b u q _ => by
    rw [upd_ne (ne_of_none q h)]
    exact q
  refine ⟨e.ext.trans x, e.st.put (fun s b es => ?_) (fun o' q => by rw [h] at q; cases q), e.s0, e.fs, fun a ha => ?_, e.new, e.len, fun i s hs => ?_, e.apart⟩
  · obtain ⟨c, ns, h1, h2, h3, h4, h5⟩ := e.st.1 s b es
    exact ⟨ne_of_none h1 h, ne_of_none h4 h⟩
  · intro z
    cases q : H a with
    | none => exact e.fr a ha q
    | some u =>
      rw [upd_ne (ne_of_none q h), q] at z
      cases z
  · have q := e.slot i s hs
    cases s with
    | sh d =>
      obtain ⟨v, h1, h2⟩ := q
      exact ⟨v, h1, h2.mono (e.keep x) fun _ h => h⟩
    | ow ps =>
      obtain ⟨a, vs, h1, h2, h3, h4, h5⟩ := q
      exact ⟨a, vs, h1, by rw [upd_ne (ne_of_none h2 h)]; exact h2, h3.mono (e.keep x) fun _ h => h, h4, h5⟩
theorem Nxt.upd (e : EnvOk R n F σ H ρ) {p : Addr} {o : HO} (h : H p = none) : Nxt R n σ ρ F H F (upd H p o) := ⟨e.upd h, fun b u q _ => by
    rw [upd_ne (ne_of_none q h)]
    exact q, fun _ h => h, fun _ h => .inl h⟩
/-- a list that nobody has is frozen -/
theorem EnvOk.freeze (e : EnvOk R n F σ H ρ) {p : Addr} (h : H p ≠ none) (hn : NotS R.sa p) (h0 : R.H0 p = none) (ho : ∀ (i : Nat) (ps : List PyData), ρ[i]? = some (some (Sl.ow ps)) → σ[i]? ≠ some (some (V.ref p))) :
    EnvOk R n (fun a => F a ∨ a = p) σ H ρ := by
  refine ⟨e.ext, e.st, e.s0, fun b hb => ?_, fun a ha => ?_, fun a ha => ?_, e.len, fun i s hs => ?_, e.apart⟩
  · rcases hb with z | z
    · exact e.fs b z
    · rw [z]; exact hn
  · rcases ha with z | z
    · exact e.fr a z
    · rw [z]; exact h
  · rcases ha with z | z
    · exact e.new a z
    · rw [z]; exact .inr h0
  · have q := e.slot i s hs
    cases s with
    | sh d =>
      obtain ⟨v, h1, h2⟩ := q
      exact ⟨v, h1, h2.mono (fun _ _ q _ => q) fun _ h => .inl h⟩
    | ow ps =>
      obtain ⟨a, vs, h1, h2, h3, h4, h5⟩ := q
      refine ⟨a, vs, h1, h2, h3.mono (fun _ _ q _ => q) fun _ h => .inl h, ?_, h5⟩
      rintro (z | z)
      · exact h4 z
      · rw [z] at h1
        exact ho i ps hs h1
theorem EnvOk.ownH (e : EnvOk R n F σ H ρ) {p : Addr} (h : H p = none) : ∀ (i : Nat) (ps : List PyData), ρ[i]? = some (some (Sl.ow ps)) → σ[i]? ≠ some (some (V.ref p)) := fun i ps hs z => by
  obtain ⟨a, vs, h1, h2, _⟩ := e.slot i _ hs
  rw [z] at h1
  cases h1
  rw [h] at h2
  cases h2
theorem EnvOk.h0 (e : EnvOk R n F σ H ρ) {p : Addr} (h : H p = none) : R.H0 p = none := e.ext.fresh e.st h
end
end Y

/-! part Y35 -/
set_option Elab.async false
set_option linter.all false
set_option maxRecDepth 100000
set_option maxHeartbeats 1000000
/-! Y35: new tuples, known to be without a dict. -/
namespace Y
open PySem PySem.Spec
open PyProof.Rows hiding St
open L2
section
variable {X : Cx}
/-- a new tuple is tracked as the object that it is -/
theorem inv_tupF {pins : List (Addr × Obj)} {s : Shared} {σ : St} {H : Hp} {its : List Value} {xs : List V} (I : Inv X pins σ H s) (z : xs.length ≤ sizeLine) (r : Vals xs its) :
    Inv X pins σ (upd H s.heap.objs.size (.frz { cls := .type "tuple", data := .seq its.toArray } (.tup xs))) { s with heap := s.heap.push { cls := .type "tuple", data := .seq its.toArray } } :=
  I.laid (t' := s.toks) (fun b u e => Heap.get?_push_of_some _ e) (Nat.le_refl _) ⟨Heap.get?_push_size _ rfl, z, its, r, IsTup.new _ _⟩
/-- what is wanted of a new tuple -/
def NewF (H : Hp) (xs : List V) (Q : VK) : Prop := ∀ p (o : Obj), H p = none → o.dict = none → Q (.ref p) (upd H p (.frz o (.tup xs)))
theorem newF_at {pins : List (Addr × Obj)} {s : Shared} {σ : St} {H : Hp} {its : List Value} {xs : List V} {Q : VK} (I : Inv X pins σ H s) (z : xs.length ≤ sizeLine) (r : Vals xs its) (q : NewF H xs Q) :
    EP X pins σ Q (.ref s.heap.objs.size) { s with heap := s.heap.push { cls := .type "tuple", data := .seq its.toArray } } :=
  ⟨.ref s.heap.objs.size, _, inv_tupF I z r, rfl, q _ _ (I.hok.fresh (Nat.le_refl _)) rfl⟩
def tTupF (t : TA) : TE := fun σ H Q => t σ H fun xs H1 => xs.length ≤ sizeLine ∧ NewF H1 xs Q
theorem pe_tupF {es : List Expr} {t : TA} {kk : Nat} {pos : Pos} (h : PA X es t) : PE X (.Tuple es kk pos) (tTupF t) :=
  ⟨fun pins s σ H Q I hq => wpAny_Tuple_spliced (thn (h.run pos pins s σ H _ I hq) fun us s1 ⟨xs, H1, I1, r, z, q⟩ => ⟨by rw [← r.length]; exact z, newF_at I1 z r q⟩)⟩
/-- t + u -/
def rCatF (K : PySem.W.Frag) : R2 := fun x y H Q => ∃ a b xs ys, x = .ref a ∧ y = .ref b ∧ SqT K H a xs ∧ SqT K H b ys ∧ xs.length + ys.length ≤ sizeLine ∧
  (xs = [] → Q (.ref b) H) ∧ (xs ≠ [] → ys = [] → Q (.ref a) H) ∧ (xs ≠ [] → ys ≠ [] → NewF H (xs ++ ys) Q)
theorem op_catF : OpR X (binaryOp .Add) (rCatF X.K) := by
  intro pins s σ H x y v u Q I rx ry h
  obtain ⟨a, b, xs, ys, rfl, rfl, ha, hb, hz, q0, q1, q2⟩ := h
  by_cases hx : xs = []
  · exact op_catA pins s σ H _ _ v u Q I rx ry ⟨a, b, xs, ys, rfl, rfl, ha, hb, hz, q0, fun z => absurd hx z, fun z => absurd hx z⟩
  · cases rx; cases ry
    obtain ⟨its, r1, p1, _⟩ := I.tuple ha
    obtain ⟨its2, r2, p2, _⟩ := I.tuple hb
    refine HT.cat_tup p1 p2 (fun z => hx (r1.nil_iff.mp z)) (fun z => ⟨.ref a, H, I, rfl, q1 hx (r2.nil_iff.mp z)⟩) (fun z => ?_) (by rw [← r1.length, ← r2.length]; exact hz)
    have rr := r1.append r2
    exact newF_at I (by rw [List.length_append]; exact hz) rr (q2 hx fun w => z (r2.nil_iff.mpr w))
/-- t * k -/
def rRepF (K : PySem.W.Frag) : R2 := fun x y H Q => ∃ l k xs, x = .ref l ∧ y = .int k ∧ SqT K H l xs ∧ xs ≠ [] ∧ 2 ≤ k ∧ k ≤ 1000 ∧ xs.length ≤ 1000 ∧ NewF H (List.replicate k.toNat xs).flatten Q
theorem op_repF : OpR X (binaryOp .Mult) (rRepF X.K) := by
  intro pins s σ H x y v u Q I rx ry h
  obtain ⟨l, k, xs, rfl, rfl, hT, hne, h1, h2, hz, q⟩ := h
  cases rx
  obtain ⟨t, rfl⟩ := ry
  obtain ⟨its, r, ⟨⟨cls, dd, data, sl⟩, ho, hc, n, hd⟩, hs⟩ := I.tuple hT
  simp only at hc hd
  subst hc hd
  have hle := r.length
  have hn : its ≠ [] := fun e => by
    rw [e] at hle
    exact hne (List.eq_nil_of_length_eq_zero hle)
  have hi : its.toArray.isEmpty = false := by
    cases its with
    | nil => exact absurd rfl hn
    | cons a b => rfl
  have e0 : its.toArray.size = xs.length := by rw [List.size_toArray]; omega
  have hm : ((its.toArray.size : Nat) : Int) * k ≤ 1000 * 1000 := by
    rw [e0]
    exact Int.mul_le_mul (by omega) h2 (by omega) (by decide)
  have lim : k.toNat * xs.length ≤ 1000 * 1000 := Nat.mul_le_mul (by omega) hz
  have c0 : (decide (k < -(2 ^ 63)) || decide (k ≥ 2 ^ 63)) = false := by
    rw [decide_eq_false (by omega), decide_eq_false (by omega)]
    rfl
  have c1 : (its.toArray.isEmpty || k == 1) = false := by
    rw [hi, Bool.false_or, beq_eq_false_iff_ne]
    omega
  have c2 : (decide (k ≤ 0) || its.toArray.isEmpty) = false := by
    rw [hi, Bool.or_false, decide_eq_false_iff_not]
    omega
  have c4 : Builtin.Tuple.tupleTooMany (((its.toArray.size : Nat) : Int) * k) = false := by
    unfold Builtin.Tuple.tupleTooMany
    rw [sizeLine_eq, decide_eq_false_iff_not]
    omega
  have fl : (List.replicate k.toNat its).flatten.length ≤ sizeLine := by
    rw [PyProof.Rows.lm_len_rep_flat, ← hle, sizeLine_eq]
    omega
  have fx : (List.replicate k.toNat xs).flatten.length ≤ sizeLine := by
    rw [PyProof.Rows.lm_len_rep_flat, sizeLine_eq]
    omega
  have fin := newF_at I fx (r.rep k.toNat) q
  refine wpAny_binaryOp_repeat_ref (T := "tuple") (U := "int") (by decide) ⟨_, ho, rfl⟩ (fun w' => typeIs_int w' k t) noFill_tuple_mul F.fills_int_mul F.slot_int_rmul repeat_tuple F.slot_int_index.lookup ?_
  refine call_meets F.slot_int_rmul (typeIs_int s k t) F.entry_int_rmul (F.args_int_rmul_2 _ _) (int_rmul_tuple k t l its.toArray n dd sl) ⟨ho, rfl, ⟨_, ho, rfl⟩, ?_⟩
  refine call_meets F.slot_tuple_mul ⟨_, ho, rfl⟩ F.entry_tuple_mul (F.args_tuple_mul_2 _ _) (tuple_mulW l its.toArray n dd sl k t c0 c1 c2 (by omega) c4 ?_) ⟨ho, ?_⟩
  · rw [size_rep, List.size_toArray]; exact fl
  · rw [size_rep]; exact fin
/-- t[lo:hi] -/
def rSlF (K : PySem.W.Frag) : V → Option Int → Option Int → Hp → VK → Prop := fun x lo hi H Q => ∃ a xs, x = .ref a ∧ SqT K H a xs ∧
  (HT.sIx xs.length 0 lo = 0 ∧ HT.sIx xs.length xs.length hi = xs.length → Q (.ref a) H) ∧ (¬ (HT.sIx xs.length 0 lo = 0 ∧ HT.sIx xs.length xs.length hi = xs.length) → NewF H (cutV xs lo hi) Q)
theorem sl_tupF : SlR X (rSlF X.K) := by
  intro pins s σ H x v vl vu lo hi sl Q I rx hs pl pu h
  obtain ⟨a, xs, rfl, hx, q1, q2⟩ := h
  by_cases hw : HT.sIx xs.length 0 lo = 0 ∧ HT.sIx xs.length xs.length hi = xs.length
  · exact sl_tupA pins s σ H _ v vl vu lo hi sl Q I rx hs pl pu ⟨a, xs, rfl, hx, q1, fun z => absurd hw z⟩
  · cases rx
    obtain ⟨its, r, ht, hz⟩ := I.tuple hx
    have hlen : its.toArray.size = xs.length := by rw [List.size_toArray]; exact r.length.symm
    refine ⟨"tuple", _, slot_tuple_getitem.lookup, ht.typeIs, HT.getItem_tuple_cut ht hs pl pu (by rw [hlen]; exact hw) ?_ (by rw [hlen]; exact hz)⟩
    rw [hlen]
    have rr := (r.drop (HT.sIx xs.length 0 lo)).take (HT.sIx xs.length xs.length hi - HT.sIx xs.length 0 lo)
    exact newF_at I (Nat.le_trans (cutV_length xs lo hi) hz) rr (q2 hw)
/-- tuple(x) -/
def rTupF (K : PySem.W.Frag) : List V → Hp → VK → Prop := fun xs H Q => ∃ p ys, xs = [.ref p] ∧ ((SqL K H p ys ∧ NewF H ys Q) ∨ (SqT K H p ys ∧ Q (.ref p) H))
theorem call_tupleF : CallR X (.type "tuple") (rTupF X.K) := by
  intro pins s σ H xs us Q I r h
  obtain ⟨p, ys, rfl, h⟩ := h
  rcases h with ⟨hq, q⟩ | h
  · obtain ⟨u, rfl, rx⟩ := vals1 r
    cases rx
    obtain ⟨its, r', pl, hz⟩ := I.list hq
    have hlen := r'.length
    refine call_tuple_list pl.isList (fun h' kp => ?_) (by rw [List.size_toArray]; omega)
    have I1 : Inv X pins σ H { s with heap := h' } := I.kept (t' := s.toks) kp
    exact newF_at I1 hz r' q
  · exact call_tuple_of pins s σ H _ us Q I r ⟨p, ys, rfl, .inr h⟩
end
end Y

/-! part Y3 -/
set_option Elab.async false
set_option linter.all false
set_option maxRecDepth 100000
set_option maxHeartbeats 1000000
/-! Y3: the operations' rules over data. -/
namespace Y
open PySem PySem.Spec
open PyProof.Rows hiding St
open L2

/-! ### weaker readings -/
section
variable {X : Cx}
theorem PEw {e : Expr} {t t' : TE} (h : PE X e t) (w : ∀ σ H Q, t' σ H Q → t σ H Q) : PE X e t' := ⟨fun pins s σ H Q I q => h.run pins s σ H Q I (w _ _ _ q)⟩
theorem PTw {e : Expr} {t t' : TT} (h : PT X e t) (w : ∀ σ H Q, t' σ H Q → t σ H Q) : PT X e t' := ⟨fun pins s σ H Q I q => h.run pins s σ H Q I (w _ _ _ q)⟩
theorem PWw {e : Expr} {t t' : TT} (h : PW X e t) (w : ∀ σ H Q, t' σ H Q → t σ H Q) : PW X e t' := ⟨fun wh pins s σ H Q I q => h.run wh pins s σ H Q I (w _ _ _ q)⟩
theorem PAw {e : List Expr} {t t' : TA} (h : PA X e t) (w : ∀ σ H Q, t' σ H Q → t σ H Q) : PA X e t' := ⟨fun p pins s σ H Q I q => h.run p pins s σ H Q I (w _ _ _ q)⟩
theorem PSw {e : Stmt} {t t' : TS} (h : PS X e t) (w : ∀ D σ H, t' D σ H → t D σ H) : PS X e t' := ⟨fun pins s σ H D I q => h.run pins s σ H D I (w _ _ _ q)⟩
theorem PSsw {e : List Stmt} {t t' : TS} (h : PSs X e t) (w : ∀ D σ H, t' D σ H → t D σ H) : PSs X e t' := ⟨fun pins s σ H D I q => h.run pins s σ H D I (w _ _ _ q)⟩
theorem PIw {tg e : Expr} {t t' : TI} (h : PI X tg e t) (w : ∀ σ H Q, t' σ H Q → t σ H Q) : PI X tg e t' := ⟨fun pins s σ H Q I q => h.run pins s σ H Q I (w _ _ _ q)⟩
theorem PGw {tg : Expr} {t t' : TG} (h : PG X tg t) (w : ∀ v σ H Q, t' v σ H Q → t v σ H Q) : PG X tg t' := ⟨fun pins s σ H v u Q I r q => h.run pins s σ H v u Q I r (w _ _ _ _ q)⟩
theorem PTsw {e : List Expr} {t t' : TT} (h : PTs X e t) (w : ∀ σ H Q, t' σ H Q → t σ H Q) : PTs X e t' := ⟨fun pins s σ H Q I q => h.run pins s σ H Q I (w _ _ _ q)⟩
end

/-! ### binary operators -/
def opM : BO → Operator
  | .add => .Add | .sub => .Sub | .mul => .Mult | .fdiv => .FloorDiv | .mod => .Mod | .pow => .Pow
def CDivG (_ j : Int) : Prop := j ≠ 0 ∧ j.natAbs.log2 < 9000
def rSubB : R2 := fun x y H Q => ∃ i j, x = .bl i ∧ y = .bl j ∧ Q (.int (PyProof.Rows.b2i i - PyProof.Rows.b2i j)) H
theorem op_subB {X : Cx} : OpR X (binaryOp .Sub) rSubB := by
  intro pins s σ H x y v u Q I rx ry h
  obtain ⟨i, j, rfl, rfl, q⟩ := h
  cases rx; cases ry
  exact PyProof.Rows.sub_bool ⟨.int _, H, I.tok _, ⟨_, rfl⟩, q⟩
def rB (K : PySem.W.Frag) : BO → R2
  | .add => fun x y H Q => rI0 (fun i j => .int (i + j)) x y H Q ∨ rCatA K x y H Q ∨ rCat x y H Q ∨ rCatF K x y H Q
  | .sub => fun x y H Q => rI0 (fun i j => .int (i - j)) x y H Q ∨ rSubB x y H Q
  | .mul => fun x y H Q => rI CMulX (fun i j => .int (i * j)) x y H Q ∨ rRep x y H Q ∨ rRepT K x y H Q ∨ rRepF K x y H Q
  | .fdiv => rI CDivG fun i j => .int (i.fdiv j)
  | .mod => rI (fun _ j => j ≠ 0) fun i j => .int (i.fmod j)
  | .pow => rI CPow fun i j => .int (i ^ j.toNat)
theorem op_bin {X : Cx} (op : BO) : OpR X (binaryOp (opM op)) (rB X.K op) := by
  cases op with
  | add => exact OpR.or op_add (OpR.or op_catA (OpR.or op_cat op_catF))
  | sub => exact OpR.or op_sub op_subB
  | mul => exact OpR.or op_mulX (OpR.or op_rep (OpR.or op_repT op_repF))
  | fdiv => exact opI fun i j _ _ _ _ _ hc q => floordiv_int hc.1 q (.inl (PyProof.noPylong_of_log2 hc.2))
  | mod => exact op_modN
  | pow => exact op_pow
section
variable {R : RT} {F F' F1 F2 : Addr → Prop} {H H' H1 H2 : Hp} {σ : St} {ρ : Ev} {n m : Nat}
theorem RN.of_int {i : Int} : RN R H F H1 (.int i) (.I i) := .inl ⟨.int i, fun _ z => nomatch z⟩
theorem RN.of_bool {i : Bool} : RN R H F H1 (.bl i) (.B i) := .inl ⟨.bl i, fun _ z => nomatch z⟩
theorem RN.of_tup {a : Addr} {vs : List V} {ps : List PyData} (h : SqT R.K H1 a vs) (h0 : R.sg = true → intsP0 ps = true → PlT R.K H1 a) (h2 : RpAll R.sg R.K F H1 vs ps) : RN R H F H1 (.ref a) (.T ps) := .inl ⟨.tup h h0 h2, fun _ z => nomatch z⟩
theorem SqT.new {K : PySem.W.Frag} {H : Hp} {p : Addr} {vs : List V} : SqT K (upd H p (.tup vs)) p vs := .inl (.inl upd_same)
theorem SqT.newF {K : PySem.W.Frag} {H : Hp} {p : Addr} {o : Obj} {vs : List V} : SqT K (upd H p (.frz o (.tup vs))) p vs := .inl (.inr ⟨o, upd_same⟩)
/-- a new tuple, a new list at p -/
theorem EnvOk.newT (e : EnvOk R n F σ H ρ) {p : Addr} {vs : List V} {ps : List PyData} (hs : R.sg = false ∨ intsP0 ps = false) (hp : H p = none) (r : RpAll R.sg R.K F H vs ps) : RN R H F (L2.upd H p (.tup vs)) (.ref p) (.T ps) :=
  RN.of_tup SqT.new (fun a b => by rcases hs with z | z <;> first | (rw [z] at a; cases a) | (rw [z] at b; cases b)) (r.mono (e.keep (Nxt.upd e hp).ext) fun _ h => h)
theorem EnvOk.newTF (e : EnvOk R n F σ H ρ) {p : Addr} {o : Obj} {vs : List V} {ps : List PyData} (hp : H p = none) (hd : o.dict = none) (r : RpAll R.sg R.K F H vs ps) : RN R H F (L2.upd H p (.frz o (.tup vs))) (.ref p) (.T ps) :=
  RN.of_tup SqT.newF (fun _ _ => .inl ⟨o, vs, upd_same, hd⟩) (r.mono (e.keep (Nxt.upd e hp).ext) fun _ h => h)
theorem EnvOk.newL (e : EnvOk R n F σ H ρ) {p : Addr} {vs : List V} {ps : List PyData} (hp : H p = none) (r : RpAll R.sg R.K F H vs ps) : RN R H F (L2.upd H p (.lst vs)) (.ref p) (.L ps) :=
  .inr ⟨p, vs, ps, rfl, rfl, hp, upd_same, fun z => e.fr p z hp, r.mono (e.keep (Nxt.upd e hp).ext) fun _ h => h⟩
theorem bin_ok {op : BO} {x y : V} {d e : D} {Qd : D → Prop} {Q : VK} (E : EnvOk R n F σ H ρ) (rx : RB R F H x d) (ry : RB R F H y e) (q : binD op d e Qd)
    (k : ∀ d' v F' H', Qd d' → Nxt R n σ ρ F H F' H' → RN R H F' H' v d' → Q v H') : rB R.K op x y H Q := by
  unfold binD at q
  split at q
  · cases rx.int; cases ry.int
    exact .inl ⟨_, _, rfl, rfl, k _ _ _ _ q (.refl E) .of_int⟩
  · rename_i xs ys Qi
    obtain ⟨a, vs, rfl, h1, h10, h2⟩ := rx.tupleP
    obtain ⟨b, ws, rfl, h3, h30, h4⟩ := ry.tupleP
    obtain ⟨hz, q⟩ := q
    have c1 : vs = [] → Q (.ref b) H := fun z => by
      subst z
      cases h2
      exact k _ _ _ _ q (.refl E) (RN.of_tup h3 h30 (by simpa using h4))
    have c2 : ws = [] → Q (.ref a) H := fun z => by
      subst z
      cases h4
      exact k _ _ _ _ q (.refl E) (RN.of_tup h1 (by simpa using h10) (by simpa using h2))
    cases hs : R.sg with
    | false => exact .inr (.inl ⟨a, b, vs, ws, rfl, rfl, h1, h3, by rw [h2.length, h4.length]; exact hz, c1, fun _ z => c2 z, fun _ _ p hp => k _ _ _ _ q (Nxt.upd E hp) (E.newT (.inl hs) hp (h2.append h4))⟩)
    | true => exact .inr (.inr (.inr ⟨a, b, vs, ws, rfl, rfl, h1, h3, by rw [h2.length, h4.length]; exact hz, c1, fun _ z => c2 z, fun _ _ p o hp ho => k _ _ _ _ q (Nxt.upd E hp) (E.newTF hp ho (h2.append h4))⟩))
  · rename_i xs ys Q
    obtain ⟨a, vs, rfl, h1, _, h2⟩ := rx.list E
    obtain ⟨b, ws, rfl, h3, _, h4⟩ := ry.list E
    obtain ⟨hz, q⟩ := q
    exact .inr (.inr (.inl ⟨a, b, vs, ws, rfl, rfl, h1, h3, by rw [h2.length, h4.length]; exact hz, fun p hp => k _ _ _ _ q (Nxt.upd E hp) (E.newL hp (h2.append h4))⟩))
  · cases rx.int; cases ry.int
    exact .inl ⟨_, _, rfl, rfl, k _ _ _ _ q (.refl E) .of_int⟩
  · cases rx.bool; cases ry.bool
    exact .inr ⟨_, _, rfl, rfl, k _ _ _ _ q (.refl E) .of_int⟩
  · cases rx.int; cases ry.int
    exact .inl ⟨_, _, rfl, rfl, q.1, k _ _ _ _ q.2 (.refl E) .of_int⟩
  · obtain ⟨a, vs, rfl, h1, _, h2⟩ := rx.list E
    cases ry.int
    obtain ⟨⟨z1, z2, z3⟩, q⟩ := q
    exact .inr (.inl ⟨a, _, vs, rfl, rfl, h1, z1, z2, by rw [h2.length]; exact z3, fun p hp => k _ _ _ _ q (Nxt.upd E hp) (E.newL hp (h2.rep _))⟩)
  · obtain ⟨a, vs, rfl, h1, h2⟩ := rx.tuple
    cases ry.int
    obtain ⟨⟨z1, z2, z3, z4⟩, q⟩ := q
    have hl := h2.length
    have hv : vs ≠ [] := fun z => by
      rw [z] at hl
      simp only [List.length_nil] at hl
      omega
    cases hs : R.sg with
    | false => exact .inr (.inr (.inl ⟨a, _, vs, rfl, rfl, h1, hv, z1, z2, by omega, fun p hp => k _ _ _ _ q (Nxt.upd E hp) (E.newT (.inl hs) hp (h2.rep _))⟩))
    | true => exact .inr (.inr (.inr ⟨a, _, vs, rfl, rfl, h1, hv, z1, z2, by omega, fun p o hp ho => k _ _ _ _ q (Nxt.upd E hp) (E.newTF hp ho (h2.rep _))⟩))
  · cases rx.int; cases ry.int
    exact ⟨_, _, rfl, rfl, q.1, k _ _ _ _ q.2 (.refl E) .of_int⟩
  · cases rx.int; cases ry.int
    exact ⟨_, _, rfl, rfl, q.1, k _ _ _ _ q.2 (.refl E) .of_int⟩
  · cases rx.int; cases ry.int
    exact ⟨_, _, rfl, rfl, q.1, k _ _ _ _ q.2 (.refl E) .of_int⟩
  · exact q.elim

/-! ### comparisons -/
/-- x in a tuple, deep -/
def rInT (K : PySem.W.Frag) (neg : Bool) : R2 := fun x y H Q => ∃ d ds, Dp K H x d ∧ Dp K H y (.tuple ds) ∧ SeqAt.shaped d = true ∧ SeqAt.shaped (.tuple ds) = true ∧ Q (.bl (if neg then !(ds.any fun z => PyData.eqv z d) else ds.any fun z => PyData.eqv z d)) H
theorem op_inT {X : Cx} (hu : X.A.units + 65 < cLine) : OpR X (compareOp .In) (rInT X.K false) := by
  intro pins s σ H x y v u Q I rx ry h
  obtain ⟨d, ds, hd, he, sd, se, q⟩ := h
  obtain ⟨as, r1⟩ := Dp.reads I d x v hd rx
  obtain ⟨bs, r2⟩ := Dp.reads I (.tuple ds) y u he ry
  exact SeqAt.in_tuple_reads r2 r1 (SeqAt.canLay_of_shaped se) (SeqAt.canLay_of_shaped sd) (room_in_shaped sd hu) ⟨.bl _, H, I, rfl, q⟩
theorem op_notInT {X : Cx} (hu : X.A.units + 65 < cLine) : OpR X (compareOp .NotIn) (rInT X.K true) := by
  intro pins s σ H x y v u Q I rx ry h
  obtain ⟨d, ds, hd, he, sd, se, q⟩ := h
  obtain ⟨as, r1⟩ := Dp.reads I d x v hd rx
  obtain ⟨bs, r2⟩ := Dp.reads I (.tuple ds) y u he ry
  exact SeqAt.notIn_tuple_reads r2 r1 (SeqAt.canLay_of_shaped se) (SeqAt.canLay_of_shaped sd) (room_in_shaped sd hu) ⟨.bl _, H, I, rfl, q⟩
def rC (K : PySem.W.Frag) : CmpOp → R2
  | .Lt => rI0 fun i j => .bl (decide (i < j))
  | .LtE => rI0 fun i j => .bl (decide (i ≤ j))
  | .Gt => rI0 fun i j => .bl (decide (j < i))
  | .GtE => rI0 fun i j => .bl (decide (j ≤ i))
  | .Eq => rEqD K
  | .NotEq => rNeD K
  | .In => fun x y H Q => rInD K x y H Q ∨ (rIn K false x y H Q ∨ rInT K false x y H Q)
  | .NotIn => fun x y H Q => rNotInD K x y H Q ∨ (rIn K true x y H Q ∨ rInT K true x y H Q)
  | .Is => fun x y H Q => (y = .non ∧ Q (.bl (decide (x = .non))) H) ∨ (∃ b c, x = .bl b ∧ y = .bl c ∧ Q (.bl (b == c)) H)
  | .IsNot => fun x y H Q => (y = .non ∧ Q (.bl (!decide (x = .non))) H) ∨ (∃ b c, x = .bl b ∧ y = .bl c ∧ Q (.bl (b != c)) H)
/-- is between truth values -/
theorem op_isB {X : Cx} : OpR X (compareOp .Is) (fun x y H Q => ∃ b c, x = .bl b ∧ y = .bl c ∧ Q (.bl (b == c)) H) := by
  intro pins s σ H x y v u Q I rx ry h
  obtain ⟨b, c, rfl, rfl, q⟩ := h
  cases rx
  cases ry
  by_cases e : b = c
  · subst e
    exact wpAny_is_self rfl ⟨.bl true, H, I, rfl, by simpa using q⟩
  · rw [show (b == c) = false from beq_eq_false_iff_ne.mpr e] at q
    exact wpAny_is_other rfl (fun z => e (Value.bool.inj z)) ⟨.bl false, H, I, rfl, q⟩
theorem op_notB {X : Cx} : OpR X (compareOp .IsNot) (fun x y H Q => ∃ b c, x = .bl b ∧ y = .bl c ∧ Q (.bl (b != c)) H) := by
  intro pins s σ H x y v u Q I rx ry h
  obtain ⟨b, c, rfl, rfl, q⟩ := h
  cases rx
  cases ry
  by_cases e : b = c
  · subst e
    exact wpAny_isNot_self rfl ⟨.bl false, H, I, rfl, by simpa using q⟩
  · rw [show (b != c) = true from bne_iff_ne.mpr e] at q
    exact wpAny_isNot_other rfl (fun z => e (Value.bool.inj z)) ⟨.bl true, H, I, rfl, q⟩
theorem op_cmp {X : Cx} {k : Nat} (hr : Room k X.A) (op : CmpOp) : OpR X (compareOp op) (rC X.K op) := by
  have h1 : X.A.units + 65 < cLine := by have := hr.un; omega
  cases op with
  | Lt => exact op_lt
  | LtE => exact op_le
  | Gt => exact op_gt
  | GtE => exact op_ge
  | Eq => exact op_eqD (by omega)
  | NotEq => exact op_neD (by omega)
  | In => exact OpR.or (op_inD h1) (OpR.or op_in_seq (op_inT h1))
  | NotIn => exact OpR.or (op_notInD h1) (OpR.or op_notIn_seq (op_notInT h1))
  | Is => exact OpR.or op_isN op_isB
  | IsNot => exact OpR.or op_notN op_notB
theorem flat_v {v : V} {p : PyData} (h : Rp R.sg R.K F H v p) (f : flatP p = true) : flatV v = true := by
  cases h <;> first | rfl | cases f
theorem eqv_flat {v w : V} {p q : PyData} (h : Rp R.sg R.K F H v p) (h2 : Rp R.sg R.K F H w q) (f : flatP p = true) (f2 : flatP q = true) : eqV v w = PyData.eqv p q := by
  cases h <;> (first | cases f; done | skip) <;> cases h2 <;> first
    | cases f2; done
    | (simp only [eqV, PyData.eqv]; done)
    | rfl
theorem any_flat {w : V} {q : PyData} (h2 : Rp R.sg R.K F H w q) (f2 : flatP q = true) : ∀ {vs : List V} {ps : List PyData}, RpAll R.sg R.K F H vs ps → ps.all flatP = true → vs.all flatV = true ∧ inV w vs = ps.any fun z => PyData.eqv z q
  | _, _, .nil, _ => ⟨rfl, rfl⟩
  | v :: vs, p :: ps, .cons a t, f => by
    simp only [List.all_cons, Bool.and_eq_true] at f
    obtain ⟨i1, i2⟩ := any_flat h2 f2 t f.2
    refine ⟨by simp only [List.all_cons, flat_v a f.1, i1, Bool.and_self], ?_⟩
    unfold inV at i2 ⊢
    rw [List.any_cons, List.any_cons, i2, eqv_flat a h2 f.1 f2]
theorem none_v {v : V} {p : PyData} (h : RB R F H v (.py p)) : decide (v = .non) = isNone p := by
  rcases h with h | ⟨a, vs, ps, h1, h2, _⟩
  · cases h <;> simp [isNone]
  · cases h1
    subst h2
    simp [isNone]
theorem cmp_ok {op : CmpOp} {x y : V} {d e : D} {Qd : D → Prop} {Q : VK} (E : EnvOk R n F σ H ρ) (rx : RB R F H x d) (ry : RB R F H y e) (q : cmpD op d e Qd)
    (k : ∀ b, Qd (.B b) → Q (.bl b) H) : rC R.K op x y H Q := by
  unfold cmpD at q
  split at q
  · cases rx.int; cases ry.int; exact ⟨_, _, rfl, rfl, k _ q⟩
  · cases rx.int; cases ry.int; exact ⟨_, _, rfl, rfl, k _ q⟩
  · cases rx.int; cases ry.int; exact ⟨_, _, rfl, rfl, k _ q⟩
  · cases rx.int; cases ry.int; exact ⟨_, _, rfl, rfl, k _ q⟩
  · exact ⟨_, _, rx.dp, ry.dp, q.1.1, q.1.2, k _ q.2⟩
  · exact ⟨_, _, rx.dp, ry.dp, q.1.1, q.1.2, k _ q.2⟩
  · exact .inl ⟨_, _, rx.dp, ry.dp, q.1.1, q.1.2, k _ q.2⟩
  · exact .inl ⟨_, _, rx.dp, ry.dp, q.1.1, q.1.2, k _ q.2⟩
  · rcases q with ⟨q1 | q1, q2⟩
    · obtain ⟨a, vs, rfl, h1, h2⟩ := ry.tuple
      obtain ⟨h3, h4⟩ := any_flat (rx.flat q1.1) q1.1 h2 q1.2
      refine .inr (.inl ⟨a, vs, rfl, .inr h1, flat_v (rx.flat q1.1) q1.1, h3, ?_⟩)
      show Q (.bl (inV x vs)) H
      rw [h4]
      exact k _ q2
    · exact .inr (.inr ⟨_, _, rx.dp, ry.dp, q1.1, q1.2, k _ q2⟩)
  · rcases q with ⟨q1 | q1, q2⟩
    · obtain ⟨a, vs, rfl, h1, h2⟩ := ry.tuple
      obtain ⟨h3, h4⟩ := any_flat (rx.flat q1.1) q1.1 h2 q1.2
      refine .inr (.inl ⟨a, vs, rfl, .inr h1, flat_v (rx.flat q1.1) q1.1, h3, ?_⟩)
      show Q (.bl (!inV x vs)) H
      rw [h4]
      exact k _ q2
    · exact .inr (.inr ⟨_, _, rx.dp, ry.dp, q1.1, q1.2, k _ q2⟩)
  · refine .inl ⟨?_, ?_⟩
    · cases (ry.flat rfl); rfl
    · rw [none_v rx]; exact k _ q
  · refine .inl ⟨?_, ?_⟩
    · cases (ry.flat rfl); rfl
    · rw [none_v rx]; exact k _ q
  · cases (rx.flat rfl); cases (ry.flat rfl)
    exact .inr ⟨_, _, rfl, rfl, k _ q⟩
  · cases (rx.flat rfl); cases (ry.flat rfl)
    exact .inr ⟨_, _, rfl, rfl, k _ q⟩
  · exact q.elim

/-! ### items and slices -/
theorem at_rp {vs : List V} {ps : List PyData} {i : Int} {p : PyData} (h : RpAll R.sg R.K F H vs ps) (e : atI ps i = some p) : ∃ v, atI vs i = some v ∧ Rp R.sg R.K F H v p := by
  unfold atI at e ⊢
  rw [h.length]
  cases q : ixN ps.length i with
  | none => rw [q] at e; cases e
  | some j =>
    rw [q] at e
    exact h.get e
theorem ix_ok {x y : V} {d e : D} {Qd : D → Prop} {Q : VK} (E : EnvOk R n F σ H ρ) (rx : RB R F H x d) (ry : RB R F H y e) (q : ixD d e Qd)
    (k : ∀ p v, Qd (.py p) → Rp R.sg R.K F H v p → Q v H) : rIx R.K x y H Q := by
  unfold ixD at q
  split at q
  · obtain ⟨a, vs, rfl, h1, _, h2⟩ := rx.list E
    cases ry.int
    obtain ⟨p, e1, q⟩ := q
    obtain ⟨v, e2, r⟩ := at_rp h2 e1
    exact .inl ⟨a, vs, _, v, rfl, rfl, SqL.of h1, e2, k p v q r⟩
  · obtain ⟨a, vs, rfl, h1, h2⟩ := rx.tuple
    cases ry.int
    obtain ⟨p, e1, q⟩ := q
    obtain ⟨v, e2, r⟩ := at_rp h2 e1
    exact .inr (.inl ⟨a, vs, _, v, rfl, rfl, h1, e2, k p v q r⟩)
  · exact q.elim
def rSl (K : PySem.W.Frag) : V → Option Int → Option Int → Hp → VK → Prop := fun x lo hi H Q => rSlL K x lo hi H Q ∨ (rSlA K x lo hi H Q ∨ rSlF K x lo hi H Q)
theorem sl_any {X : Cx} : SlR X (rSl X.K) := SlR.or sl_list (SlR.or sl_tupA sl_tupF)
theorem cut_whole {α : Type} (xs : List α) (lo hi : Option Int) (h : HT.sIx xs.length 0 lo = 0 ∧ HT.sIx xs.length xs.length hi = xs.length) : (xs.drop (HT.sIx xs.length 0 lo)).take (HT.sIx xs.length xs.length hi - HT.sIx xs.length 0 lo) = xs := by
  rw [h.1, h.2]
  simp
theorem cut_rp {vs : List V} {ps : List PyData} {lo hi : Option Int} (h2 : RpAll R.sg R.K F H vs ps) (z : HT.sIx vs.length 0 lo = 0 ∧ HT.sIx vs.length vs.length hi = vs.length) : RpAll R.sg R.K F H vs (cutP ps lo hi) ∧ cutP ps lo hi = ps := by
  have hc := h2.cut lo hi
  have e : cutV vs lo hi = vs := cut_whole vs lo hi z
  rw [e] at hc
  exact ⟨hc, cut_whole ps lo hi (by rw [← h2.length]; exact z)⟩
theorem slc_ok {x : V} {d : D} {lo hi : Option Int} {Qd : D → Prop} {Q : VK} (E : EnvOk R n F σ H ρ) (rx : RB R F H x d) (q : slcD d lo hi Qd)
    (k : ∀ d' v F' H', Qd d' → Nxt R n σ ρ F H F' H' → RN R H F' H' v d' → Q v H') : rSl R.K x lo hi H Q := by
  unfold slcD at q
  split at q
  · obtain ⟨a, vs, rfl, h1, _, h2⟩ := rx.list E
    exact .inl ⟨a, vs, rfl, SqL.of h1, fun p hp => k _ _ _ _ q (Nxt.upd E hp) (E.newL hp (h2.cut _ _))⟩
  · obtain ⟨a, vs, rfl, h1, h10, h2⟩ := rx.tupleP
    cases hs : R.sg with
    | false =>
      refine .inr (.inl ⟨a, vs, rfl, h1, fun z => ?_, fun z p hp => k _ _ _ _ q (Nxt.upd E hp) (E.newT (.inl hs) hp (h2.cut _ _))⟩)
      obtain ⟨e1, e2⟩ := cut_rp h2 z
      exact k _ _ _ _ q (.refl E) (RN.of_tup h1 (by rw [e2]; exact h10) e1)
    | true =>
      refine .inr (.inr ⟨a, vs, rfl, h1, fun z => ?_, fun z p o hp ho => k _ _ _ _ q (Nxt.upd E hp) (E.newTF hp ho (h2.cut _ _))⟩)
      obtain ⟨e1, e2⟩ := cut_rp h2 z
      exact k _ _ _ _ q (.refl E) (RN.of_tup h1 (by rw [e2]; exact h10) e1)
  · exact q.elim
end
end Y

/-! part Y4 -/
set_option Elab.async false
set_option linter.all false
set_option maxRecDepth 100000
set_option maxHeartbeats 1000000
/-! Y4: the readings of expressions, node by node. -/
namespace Y
open PySem PySem.Spec
open PyProof.Rows hiding St
open L2

/-! ### how many draws at most -/
def manyD : Nat := 2 ^ 63
def drw (dr : Nat → Nat) : C → Nat
  | .cons a r => drw dr a + drw dr r
  | .star a r => drw dr a + drw dr r
  | .tup as => drw dr as
  | .lst as => drw dr as
  | .bin _ a b => drw dr a + drw dr b
  | .neg a => drw dr a
  | .cmp _ a b => drw dr a + drw dr b
  | .chain _ _ a b c => drw dr a + drw dr b + drw dr c
  | .and a b => drw dr a + drw dr b
  | .or a b => drw dr a + drw dr b
  | .not a => drw dr a
  | .ite t a b => drw dr t + (drw dr a + drw dr b)
  | .ix a i => drw dr a + drw dr i
  | .slc a lo hi => drw dr a + drw dr lo + drw dr hi
  | .rvs a => drw dr a
  | .call f as => drw dr as + dr f
  | .callb f as => drw dr as + dr f
  | .calln f as => drw dr as + dr f
  | .minK _ a => drw dr a
  | .callv _ fs as => drw dr as + (fs.map dr).foldr max 0
  | .told a => drw dr a
  | .toldd _ a => drw dr a
  | .same a b => drw dr a + drw dr b
  | .repr a => drw dr a
  | .bi _ as => drw dr as
  | .isi a _ => drw dr a
  | .meth _ o as => drw dr o + drw dr as
  | .rng as => drw dr as
  | .lrg a b => drw dr a + drw dr b
  | .enum a => drw dr a
  | .enumT a => drw dr a
  | .zip a b => drw dr a + drw dr b
  | .zip3 a b c => drw dr a + drw dr b + drw dr c
  | .rev a => drw dr a
  | .comp _ el _ src ifs => drw dr src + manyD * (drw dr ifs + drw dr el)
  | .comp2 _ _ el _ src ifs _ src1 ifs1 => drw dr src + manyD * (drw dr ifs + (drw dr src1 + manyD * (drw dr ifs1 + drw dr el)))
  | _ => 0
def lenC : C → Option Nat
  | .nil => some 0
  | .cons _ r => (lenC r).map (· + 1)
  | _ => none

/-! ### where one stands -/
structure Pz where
  N : List Str
  sc : Scope
  own : Option Scope
  L : Nat
  gd : Bool := false
  lm : Bool := false
structure At (S : RS) (z : Pz) (X : Cx) : Prop where
  hP : X.prog = S.P
  hw : X.w = S.w
  hK : X.K = S.K
  hm : X.mg = S.mg
  hb : X.base = S.base
  hN : X.N = z.N
  nd : X.N.Nodup
  hs : X.env.scope = z.sc
  hf : ∀ x, (match z.own with | none => true | some s => s.names.lookup x == some .cell) = true → X.fn x = true
  calm : X.calm = true
  hr : Room z.L X.A
  hg : z.gd = true → X.A.guards = some []
/-- the largest number of draws -/
def BIG : Nat := 2 ^ 4000
/-- what is wished of an exception -/
structure Wsh (R : RT) (Ed : Nat → Prop) (X : Cx) : Prop where
  ex : ∃ W, L2N.Takes X W ∧ ∀ k σ H', Ed k → Ext R.sa R.H0 H' → StOk R.sa R.nb H' → W (.ref (R.ex k)) none σ H'
  big : R.nb ≤ BIG
  tt : R.sa.T = R.S.T0

section
variable (Φ : Nat → List D → (D → Prop) → (Nat → Prop) → Prop) (exN : Nat → Str) (dr : Nat → Nat)
abbrev Rl := Hp → (Addr → Prop) → Hp → V → D → Prop
def rlD (R : RT) : Rl := fun _ F' H' v d => RD R F' H' v d
def rlB (R : RT) : Rl := fun _ F' H' v d => RB R F' H' v d
def rlN (R : RT) : Rl := fun H F' H' v d => RN R H F' H' v d
/-- an expression's reading over data -/
def TEx (R : RT) (rl : Rl) (Ed : Nat → Prop) (c : C) : TE := fun σ H Q => ∃ n F ρ Qd, EnvOk R n F σ H ρ ∧ n + drw dr c ≤ R.nb ∧ wp Φ exN c ρ Qd Ed ∧
  ∀ d v F' H', Qd d → Nxt R (n + drw dr c) σ ρ F H F' H' → rl H F' H' v d → Q v H'
/-- a test's -/
def TTx (R : RT) (Ed : Nat → Prop) (c : C) : TT := fun σ H Q => ∃ n F ρ Qd, EnvOk R n F σ H ρ ∧ n + drw dr c ≤ R.nb ∧ wp Φ exN c ρ Qd Ed ∧
  ∀ d F' H', Qd d → Nxt R (n + drw dr c) σ ρ F H F' H' → ∃ k, d = .B k ∧ Q k H'
/-- an argument list's -/
def RAx (rl : V → D → Prop) : List V → List D → Prop
  | [], [] => True
  | v :: vs, d :: ds => rl v d ∧ RAx rl vs ds
  | _, _ => False
def TAx (R : RT) (rl : Rl) (Ed : Nat → Prop) (c : C) : TA := fun σ H Q => ∃ n F ρ Qd, EnvOk R n F σ H ρ ∧ n + drw dr c ≤ R.nb ∧ wp Φ exN c ρ Qd Ed ∧
  ∀ ds vs F' H', Qd (.args ds) → Nxt R (n + drw dr c) σ ρ F H F' H' → RAx (rl H F' H') vs ds → (∀ l, lenC c = some l → ds.length = l) → Q vs H'
end
section
variable {R : RT} {F F' F1 F2 : Addr → Prop} {H H' H1 H2 : Hp} {σ : St} {ρ : Ev} {n m : Nat}
theorem RAx.ra : ∀ {vs : List V} {ds : List D}, RAx (RD R F H) vs ds → RA R F H vs ds
  | [], [], _ => trivial
  | v :: vs, d :: ds, ⟨a, b⟩ => ⟨a, RAx.ra b⟩
  | [], _ :: _, h => h.elim
  | _ :: _, [], h => h.elim
theorem RAx.of : ∀ {vs : List V} {ds : List D}, RA R F H vs ds → RAx (RD R F H) vs ds
  | [], [], _ => trivial
  | v :: vs, d :: ds, ⟨a, b⟩ => ⟨a, RAx.of b⟩
  | [], _ :: _, h => h.elim
  | _ :: _, [], h => h.elim
theorem RAx.imp {rl rl' : V → D → Prop} (h : ∀ v d, rl v d → rl' v d) : ∀ {vs : List V} {ds : List D}, RAx rl vs ds → RAx rl' vs ds
  | [], [], _ => trivial
  | v :: vs, d :: ds, ⟨a, b⟩ => ⟨h _ _ a, RAx.imp h b⟩
  | [], _ :: _, h => h.elim
  | _ :: _, [], h => h.elim
theorem RAx.append {rl : V → D → Prop} : ∀ {vs ws : List V} {ds es : List D}, RAx rl vs ds → RAx rl ws es → RAx rl (vs ++ ws) (ds ++ es)
  | [], _, [], _, _, h => h
  | v :: vs, _, d :: ds, _, ⟨a, b⟩, h => ⟨a, RAx.append b h⟩
  | [], _, _ :: _, _, h, _ => h.elim
  | _ :: _, _, [], _, h, _ => h.elim
theorem RAx.length {rl : V → D → Prop} : ∀ {vs : List V} {ds : List D}, RAx rl vs ds → vs.length = ds.length
  | [], [], _ => rfl
  | v :: vs, d :: ds, ⟨a, b⟩ => congrArg (· + 1) b.length
  | [], _ :: _, h => h.elim
  | _ :: _, [], h => h.elim
/-- a new list is frozen -/
theorem RN.freeze {n0 : Nat} (e0 : EnvOk R n0 F σ H ρ) {v : V} {d : D} (x : Nxt R n σ ρ F H F' H') (r : RN R H F' H' v d) : ∃ F2, Nxt R n σ ρ F H F2 H' ∧ RD R F2 H' v d := by
  rcases r with ⟨r, _⟩ | ⟨a, vs, ps, h1, h2, h3, h4, h5, h6⟩
  · exact ⟨F', x, r⟩
  · subst h1 h2
    refine ⟨fun b => F' b ∨ b = a, ⟨x.env.freeze (by rw [h4]; exact fun z => nomatch z) (notS_of e0.st h3) (e0.h0 h3) (e0.ownH h3), x.ext, fun b hb => .inl (x.sub b hb), fun b hb => hb.elim (x.nw b) fun z => .inr (z ▸ h3)⟩, ?_⟩
    exact .lst h4 (.inr rfl) (h6.mono (fun _ _ q _ => q) fun _ h => .inl h)
theorem RN.back {v : V} {d : D} (e0 : EnvOk R n F σ H ρ) (x : Ext R.sa H H1) (st : StOk R.sa m H2) (y : Ext R.sa H1 H2) (st1 : StOk R.sa m H1) (r : RN R H1 F' H2 v d) : RN R H F' H2 v d := by
  rcases r with r | ⟨a, vs, ps, h1, h2, h3, h4⟩
  · exact .inl r
  · exact .inr ⟨a, vs, ps, h1, h2, x.fresh st1 h3, h4⟩
end

section
variable {Φ : Nat → List D → (D → Prop) → (Nat → Prop) → Prop} {exN : Nat → Str} {dr : Nat → Nat}
variable {X : Cx} {R : RT} {z : Pz} {Ed : Nat → Prop} {e l r : Expr} {a b c : C} {pos : Pos}
theorem TE.n2d (h : PE X e (TEx Φ exN dr R (rlN R) Ed c)) : PE X e (TEx Φ exN dr R (rlD R) Ed c) := PEw h fun σ H Q ⟨n, F, ρ, Qd, E, hn, hw, k⟩ =>
  ⟨n, F, ρ, Qd, E, hn, hw, fun d v F' H' q x r => let ⟨F2, x2, r2⟩ := RN.freeze E x r; k d v F2 H' q x2 r2⟩
theorem TE.d2b (h : PE X e (TEx Φ exN dr R (rlD R) Ed c)) : PE X e (TEx Φ exN dr R (rlB R) Ed c) := PEw h fun σ H Q ⟨n, F, ρ, Qd, E, hn, hw, k⟩ =>
  ⟨n, F, ρ, Qd, E, hn, hw, fun d v F' H' q x r => k d v F' H' q x (.inl r)⟩
/-- a value that is a bool, as a test -/
theorem TE.test (h : PE X e (TEx Φ exN dr R (rlD R) Ed c)) (he : ∀ whole, isTrue e X.env whole = (do let v ← whole; standAt e.pos; holding [v] (truthy v))) : PT X e (TTx Φ exN dr R Ed c) :=
  PTw (pt_val h he) fun σ H Q ⟨n, F, ρ, Qd, E, hn, hw, k⟩ => ⟨n, F, ρ, Qd, E, hn, hw, fun d v F' H' q x r => by
    obtain ⟨b, e, q2⟩ := k d F' H' q x
    subst e
    exact ⟨b, RB.bool (.inl r), q2⟩⟩

/-! ### names, constants -/
theorem nd_var {i : Nat} {x : Str} (hN : X.N[i]? = some x) (hv : Vis X.env.scope x) (hd : (x == ("__debug__" : Str)) = false) (hcd : (x == ("__classdict__" : Str)) = false) : PE X (.Name x pos) (TEx Φ exN dr R (rlD R) Ed (.var i)) :=
  PEw (pe_var hN hv hd hcd) fun σ H Q ⟨n, F, ρ, Qd, E, hn, hw, k⟩ => by
    simp only [wp, getV] at hw
    split at hw
    · rename_i d hd
      obtain ⟨v, h1, h2⟩ := E.slot i _ hd
      exact ⟨v, h1, k d v F H hw (.refl (by simpa [drw] using E)) h2⟩
    · exact hw.elim
theorem nd_bvar {i : Nat} {x : Str} (hN : X.N[i]? = some x) (hv : Vis X.env.scope x) (hd : (x == ("__debug__" : Str)) = false) (hcd : (x == ("__classdict__" : Str)) = false) : PE X (.Name x pos) (TEx Φ exN dr R (rlB R) Ed (.bvar i)) :=
  PEw (pe_var hN hv hd hcd) fun σ H Q ⟨n, F, ρ, Qd, E, hn, hw, k⟩ => by
    simp only [wp, getB] at hw
    split at hw
    · rename_i d hd
      obtain ⟨v, h1, h2⟩ := E.slot i _ hd
      exact ⟨v, h1, k d v F H hw (.refl (by simpa [drw] using E)) (.inl h2)⟩
    · rename_i ps hd
      obtain ⟨a, vs, h1, h2, h3, h4, h5⟩ := E.slot i _ hd
      exact ⟨_, h1, k _ _ F H hw (.refl (by simpa [drw] using E)) (.inr ⟨a, vs, ps, rfl, rfl, h2, E.s0.notS h5, h3⟩)⟩
    · exact hw.elim
theorem nd_const {v : V} {p : PyData} (h : PE X e (tC v)) (hr : ∀ F H, Rp R.sg R.K F H v p) (hc : drw dr c = 0) (hp : ∀ ρ Q E, wp Φ exN c ρ Q E = Q (.py p)) (hl : ∀ ps, p ≠ .list ps) : PE X e (TEx Φ exN dr R (rlN R) Ed c) :=
  PEw h fun σ H Q ⟨n, F, ρ, Qd, E, hn, hw, k⟩ => by
    rw [hp] at hw
    refine k _ v F H hw (.refl (by rw [hc]; exact E)) (.inl ⟨hr F H, fun ps q => ?_⟩)
    cases q
    exact hl ps rfl
theorem nd_fnv {x : Str} {k : Nat} (hg : Gl X x) (hm : X.mg x = some (.ref (R.fa k))) (hd : (x == ("__debug__" : Str)) = false) : PE X (.Name x pos) (TEx Φ exN dr R (rlD R) Ed (.fnv k)) :=
  PEw (pe_glob (v := .ref (R.fa k)) hg hm rfl hd) fun σ H Q ⟨n, F, ρ, Qd, E, hn, hw, kk⟩ => kk (.fn k) _ F H (by simpa [wp] using hw) (.refl (by simpa [drw] using E)) rfl

/-! ### two operands -/
/-- the one, then the other, both read as B -/
theorem two {σ : St} {H : Hp} {n : Nat} {F : Addr → Prop} {ρ : Ev} {Kd : D → D → Prop} {Q : V → V → Hp → Prop} (E : EnvOk R n F σ H ρ) (hn : n + (drw dr a + drw dr b) ≤ R.nb) (hw : wp Φ exN a ρ (fun x => wp Φ exN b ρ (fun y => Kd x y) Ed) Ed)
    (k : ∀ d1 d2 v1 v2 F2 H2, Kd d1 d2 → Nxt R (n + (drw dr a + drw dr b)) σ ρ F H F2 H2 → RB R F2 H2 v1 d1 → RB R F2 H2 v2 d2 → Q v1 v2 H2) :
    TEx Φ exN dr R (rlB R) Ed a σ H fun x H1 => TEx Φ exN dr R (rlB R) Ed b σ H1 fun y H2 => Q x y H2 := by
  refine ⟨n, F, ρ, _, E, by omega, hw, fun d v F1 H1 q1 x1 r1 => ?_⟩
  refine ⟨n + drw dr a, F1, ρ, _, x1.env, by omega, q1, fun d2 y F2 H2 q2 x2 r2 => ?_⟩
  exact k d d2 v y F2 H2 q2 ((x1.trans x2).mono (by omega)) (RB.mono x1.env x2.ext x2.sub r1) r2
theorem nd_bin (hK : X.K = R.K) {op : BO} (ha : PE X l (TEx Φ exN dr R (rlB R) Ed a)) (hb : PE X r (TEx Φ exN dr R (rlB R) Ed b)) : PE X (.BinOp l (opM op) r pos) (TEx Φ exN dr R (rlN R) Ed (.bin op a b)) :=
  PEw (pe_op (op_bin op) ha hb) fun σ H Q ⟨n, F, ρ, Qd, E, hn, hw, k⟩ => by
    simp only [wp] at hw
    simp only [drw] at hn k
    refine two E hn hw fun d1 d2 v1 v2 F2 H2 q x r1 r2 => ?_
    rw [hK]
    refine bin_ok x.env r1 r2 q fun d' v F' H' q' x' r' => k d' v F' H' q' (x.trans x') ?_
    exact RN.back E x.ext x'.env.st x'.ext x.env.st r'
theorem nd_neg (ha : PE X l (TEx Φ exN dr R (rlD R) Ed a)) : PE X (.UnaryOp .USub l pos) (TEx Φ exN dr R (rlN R) Ed (.neg a)) :=
  PEw (pe_un un_neg ha) fun σ H Q ⟨n, F, ρ, Qd, E, hn, hw, k⟩ => by
    simp only [wp] at hw
    simp only [drw] at hn k
    refine ⟨n, F, ρ, _, E, hn, hw, fun d v F1 H1 q1 x1 r1 => ?_⟩
    split at q1
    · cases (RB.int (.inl r1))
      exact ⟨_, rfl, k _ _ _ _ q1 x1 .of_int⟩
    · exact q1.elim
theorem nd_cmp (hK : X.K = R.K) {j : Nat} (hr : Room j X.A) {op : CmpOp} (ha : PE X l (TEx Φ exN dr R (rlB R) Ed a)) (hb : PE X r (TEx Φ exN dr R (rlB R) Ed b)) (hm : behindInMarks op r = false) :
    PE X (.Compare l [op] [r] pos) (TEx Φ exN dr R (rlN R) Ed (.cmp op a b)) :=
  PEw (pe_cmpR (op_cmp hr op) ha hb hm) fun σ H Q ⟨n, F, ρ, Qd, E, hn, hw, k⟩ => by
    simp only [wp] at hw
    simp only [drw] at hn k
    refine two E hn hw fun d1 d2 v1 v2 F2 H2 q x r1 r2 => ?_
    rw [hK]
    exact cmp_ok x.env r1 r2 q fun b q' => k _ _ _ _ q' x .of_bool
theorem nd_cmpT (hK : X.K = R.K) {j : Nat} (hr : Room j X.A) {op : CmpOp} (ha : PE X l (TEx Φ exN dr R (rlB R) Ed a)) (hb : PE X r (TEx Φ exN dr R (rlB R) Ed b)) (hm : behindInMarks op r = false) :
    PT X (.Compare l [op] [r] pos) (TTx Φ exN dr R Ed (.cmp op a b)) :=
  PTw (pt_cmpR (op_cmp hr op) ha hb hm) fun σ H Q ⟨n, F, ρ, Qd, E, hn, hw, k⟩ => by
    simp only [wp] at hw
    simp only [drw] at hn k
    refine two E hn hw fun d1 d2 v1 v2 F2 H2 q x r1 r2 => ?_
    rw [hK]
    refine cmp_ok x.env r1 r2 q fun b q' => ?_
    obtain ⟨b1, e, q2⟩ := k _ _ _ q' x
    cases e
    exact ⟨_, rfl, q2⟩
theorem chain_ok (hK : X.K = R.K) {o1 o2 : CmpOp} {σ : St} {H : Hp} {n : Nat} {F : Addr → Prop} {ρ : Ev} {Qd : D → Prop} {Q : VK} (E : EnvOk R n F σ H ρ) (hn : n + drw dr (.chain o1 o2 a b c) ≤ R.nb) (hw : wp Φ exN (.chain o1 o2 a b c) ρ Qd Ed)
    (k : ∀ (kb : Bool) F' H', Qd (.B kb) → Nxt R (n + drw dr (.chain o1 o2 a b c)) σ ρ F H F' H' → Q (.bl kb) H') :
    tChain (rC X.K o1) (rC X.K o2) (TEx Φ exN dr R (rlB R) Ed a) (TEx Φ exN dr R (rlB R) Ed b) (TEx Φ exN dr R (rlB R) Ed c) σ H Q := by
  simp only [wp] at hw
  simp only [drw] at hn k
  refine two E (by omega) hw fun d1 d2 v1 v2 F2 H2 q x r1 r2 => ?_
  rw [hK]
  refine cmp_ok x.env r1 r2 q fun b q' => ⟨b, rfl, ?_⟩
  cases b with
  | false =>
    simp only [Bool.false_eq_true, if_false] at q' ⊢
    exact k _ _ _ q' (x.mono (by omega))
  | true =>
    simp only [if_true] at q' ⊢
    refine ⟨_, F2, ρ, _, x.env, by omega, q', fun d v F3 H3 q3 x3 r3 => ?_⟩
    exact cmp_ok x3.env (RB.mono x.env x3.ext x3.sub r2) r3 q3 fun b q4 => k _ _ _ q4 ((x.trans x3).mono (by omega))
theorem nd_chain (hK : X.K = R.K) {j : Nat} (hr : Room j X.A) {o1 o2 : CmpOp} {e3 : Expr} (ha : PE X l (TEx Φ exN dr R (rlB R) Ed a)) (hb : PE X r (TEx Φ exN dr R (rlB R) Ed b)) (hc : PE X e3 (TEx Φ exN dr R (rlB R) Ed c)) (hm : lastMarks [o1, o2] [r, e3] = false) :
    PE X (.Compare l [o1, o2] [r, e3] pos) (TEx Φ exN dr R (rlN R) Ed (.chain o1 o2 a b c)) :=
  PEw (pe_chain (op_cmp hr o1) (op_cmp hr o2) ha hb hc hm) fun σ H Q ⟨n, F, ρ, Qd, E, hn, hw, k⟩ => chain_ok hK E hn hw fun kb F' H' q x => k _ _ _ _ q x .of_bool
theorem nd_chainT (hK : X.K = R.K) {j : Nat} (hr : Room j X.A) {o1 o2 : CmpOp} {e3 : Expr} (ha : PE X l (TEx Φ exN dr R (rlB R) Ed a)) (hb : PE X r (TEx Φ exN dr R (rlB R) Ed b)) (hc : PE X e3 (TEx Φ exN dr R (rlB R) Ed c)) (hm : lastMarks [o1, o2] [r, e3] = false) :
    PT X (.Compare l [o1, o2] [r, e3] pos) (TTx Φ exN dr R Ed (.chain o1 o2 a b c)) :=
  PTw (pt_chain (op_cmp hr o1) (op_cmp hr o2) ha hb hc hm) fun σ H Q ⟨n, F, ρ, Qd, E, hn, hw, k⟩ => chain_ok hK E hn hw fun kb F' H' q x => by
    obtain ⟨b1, e, q2⟩ := k _ _ _ q x
    cases e
    exact ⟨_, rfl, q2⟩

/-! ### and, or, not, if -/
theorem andV_ok {σ : St} {H : Hp} {Q : VK} {rl : Rl} (hrl : ∀ b H F' H', rl H F' H' (.bl b) (.B b)) (hback : ∀ {n m : Nat} {F : Addr → Prop} {H H1 H2 : Hp} {ρ : Ev} {F' : Addr → Prop} {v d}, EnvOk R n F σ H ρ → Ext R.sa H H1 → StOk R.sa m H1 → StOk R.sa m H2 → Ext R.sa H1 H2 → rl H1 F' H2 v d → rl H F' H2 v d)
    (h : TEx Φ exN dr R rl Ed (.and a b) σ H Q) : tAndV (TEx Φ exN dr R (rlD R) Ed a) (TEx Φ exN dr R rl Ed b) σ H Q := by
  obtain ⟨n, F, ρ, Qd, E, hn, hw, k⟩ := h
  simp only [wp] at hw
  simp only [drw] at hn k
  refine ⟨n, F, ρ, _, E, by omega, hw, fun d v F1 H1 q1 x1 r1 => ?_⟩
  split at q1
  · rename_i kb
    refine ⟨kb, RB.bool (.inl r1), ?_⟩
    cases kb with
    | false =>
      simp only [Bool.false_eq_true, if_false] at q1 ⊢
      exact k _ _ _ _ q1 (x1.mono (by omega)) (hrl _ _ _ _)
    | true =>
      simp only [if_true] at q1 ⊢
      refine ⟨_, F1, ρ, _, x1.env, by omega, q1, fun d v F3 H3 q3 x3 r3 => k _ _ _ _ q3 ((x1.trans x3).mono (by omega)) (hback E x1.ext (x1.env.st.mono (Nat.le_add_right _ (drw dr b))) x3.env.st x3.ext r3)⟩
  · exact q1.elim
theorem orV_ok {σ : St} {H : Hp} {Q : VK} {rl : Rl} (hrl : ∀ b H F' H', rl H F' H' (.bl b) (.B b)) (hback : ∀ {n m : Nat} {F : Addr → Prop} {H H1 H2 : Hp} {ρ : Ev} {F' : Addr → Prop} {v d}, EnvOk R n F σ H ρ → Ext R.sa H H1 → StOk R.sa m H1 → StOk R.sa m H2 → Ext R.sa H1 H2 → rl H1 F' H2 v d → rl H F' H2 v d)
    (h : TEx Φ exN dr R rl Ed (.or a b) σ H Q) : tOrV (TEx Φ exN dr R (rlD R) Ed a) (TEx Φ exN dr R rl Ed b) σ H Q := by
  obtain ⟨n, F, ρ, Qd, E, hn, hw, k⟩ := h
  simp only [wp] at hw
  simp only [drw] at hn k
  refine ⟨n, F, ρ, _, E, by omega, hw, fun d v F1 H1 q1 x1 r1 => ?_⟩
  split at q1
  · rename_i kb
    refine ⟨kb, RB.bool (.inl r1), ?_⟩
    cases kb with
    | true =>
      simp only [if_true] at q1 ⊢
      exact k _ _ _ _ q1 (x1.mono (by omega)) (hrl _ _ _ _)
    | false =>
      simp only [Bool.false_eq_true, if_false] at q1 ⊢
      refine ⟨_, F1, ρ, _, x1.env, by omega, q1, fun d v F3 H3 q3 x3 r3 => k _ _ _ _ q3 ((x1.trans x3).mono (by omega)) (hback E x1.ext (x1.env.st.mono (Nat.le_add_right _ (drw dr b))) x3.env.st x3.ext r3)⟩
  · exact q1.elim
theorem nd_and {rest : List Expr} (ha : PE X l (TEx Φ exN dr R (rlD R) Ed a)) (hb : PE X (.BoolOp .And (r :: rest) pos) (TEx Φ exN dr R (rlD R) Ed b)) : PE X (.BoolOp .And (l :: r :: rest) pos) (TEx Φ exN dr R (rlD R) Ed (.and a b)) :=
  PEw (pe_and ha hb) fun σ H Q h => andV_ok (rl := rlD R) (fun b _ _ _ => .bl b) (fun _ _ _ _ _ h => h) h
theorem nd_or {rest : List Expr} (ha : PE X l (TEx Φ exN dr R (rlD R) Ed a)) (hb : PE X (.BoolOp .Or (r :: rest) pos) (TEx Φ exN dr R (rlD R) Ed b)) : PE X (.BoolOp .Or (l :: r :: rest) pos) (TEx Φ exN dr R (rlD R) Ed (.or a b)) :=
  PEw (pe_or ha hb) fun σ H Q h => orV_ok (rl := rlD R) (fun b _ _ _ => .bl b) (fun _ _ _ _ _ h => h) h
theorem nd_not (ha : PE X l (TEx Φ exN dr R (rlD R) Ed a)) : PE X (.UnaryOp .Not l pos) (TEx Φ exN dr R (rlN R) Ed (.not a)) :=
  PEw (pe_not ha) fun σ H Q ⟨n, F, ρ, Qd, E, hn, hw, k⟩ => by
    simp only [wp] at hw
    simp only [drw] at hn k
    refine ⟨n, F, ρ, _, E, hn, hw, fun d v F1 H1 q1 x1 r1 => ?_⟩
    split at q1
    · exact ⟨_, RB.bool (.inl r1), k _ _ _ _ q1 x1 .of_bool⟩
    · exact q1.elim
theorem nd_andT {rest : List Expr} (ha : PT X l (TTx Φ exN dr R Ed a)) (hb : PW X (.BoolOp .And (r :: rest) pos) (TTx Φ exN dr R Ed b)) : PW X (.BoolOp .And (l :: r :: rest) pos) (TTx Φ exN dr R Ed (.and a b)) :=
  PWw (pw_and ha hb) fun σ H Q ⟨n, F, ρ, Qd, E, hn, hw, k⟩ => by
    simp only [wp] at hw
    simp only [drw] at hn k
    refine ⟨n, F, ρ, _, E, by omega, hw, fun d F1 H1 q1 x1 => ?_⟩
    split at q1
    · rename_i kb
      refine ⟨kb, rfl, ?_⟩
      cases kb with
      | false =>
        simp only [Bool.false_eq_true, if_false] at q1 ⊢
        obtain ⟨b', e, q⟩ := k _ _ _ q1 (x1.mono (by omega))
        cases e
        exact q
      | true =>
        simp only [if_true] at q1 ⊢
        exact ⟨_, F1, ρ, _, x1.env, by omega, q1, fun d F3 H3 q3 x3 => k _ _ _ q3 ((x1.trans x3).mono (by omega))⟩
    · exact q1.elim
theorem nd_orT {rest : List Expr} (ha : PT X l (TTx Φ exN dr R Ed a)) (hb : PW X (.BoolOp .Or (r :: rest) pos) (TTx Φ exN dr R Ed b)) : PW X (.BoolOp .Or (l :: r :: rest) pos) (TTx Φ exN dr R Ed (.or a b)) :=
  PWw (pw_or ha hb) fun σ H Q ⟨n, F, ρ, Qd, E, hn, hw, k⟩ => by
    simp only [wp] at hw
    simp only [drw] at hn k
    refine ⟨n, F, ρ, _, E, by omega, hw, fun d F1 H1 q1 x1 => ?_⟩
    split at q1
    · rename_i kb
      refine ⟨kb, rfl, ?_⟩
      cases kb with
      | true =>
        simp only [if_true] at q1 ⊢
        obtain ⟨b', e, q⟩ := k _ _ _ q1 (x1.mono (by omega))
        cases e
        exact q
      | false =>
        simp only [Bool.false_eq_true, if_false] at q1 ⊢
        exact ⟨_, F1, ρ, _, x1.env, by omega, q1, fun d F3 H3 q3 x3 => k _ _ _ q3 ((x1.trans x3).mono (by omega))⟩
    · exact q1.elim
theorem nd_notT (ha : PT X l (TTx Φ exN dr R Ed a)) : PT X (.UnaryOp .Not l pos) (TTx Φ exN dr R Ed (.not a)) :=
  PTw (pt_not ha) fun σ H Q ⟨n, F, ρ, Qd, E, hn, hw, k⟩ => by
    simp only [wp] at hw
    simp only [drw] at hn k
    refine ⟨n, F, ρ, _, E, hn, hw, fun d F1 H1 q1 x1 => ?_⟩
    split at q1
    · obtain ⟨b', e, q⟩ := k _ _ _ q1 x1
      cases e
      exact ⟨_, rfl, q⟩
    · exact q1.elim
theorem nd_ite {t : C} {et : Expr} (ht : PT X et (TTx Φ exN dr R Ed t)) (ha : PE X l (TEx Φ exN dr R (rlD R) Ed a)) (hb : PE X r (TEx Φ exN dr R (rlD R) Ed b)) : PE X (.IfExp et l r pos) (TEx Φ exN dr R (rlD R) Ed (.ite t a b)) :=
  PEw (pe_ifExp ht ha hb) fun σ H Q ⟨n, F, ρ, Qd, E, hn, hw, k⟩ => by
    simp only [wp] at hw
    simp only [drw] at hn k
    refine ⟨n, F, ρ, _, E, by omega, hw, fun d F1 H1 q1 x1 => ?_⟩
    split at q1
    · rename_i kb
      refine ⟨kb, rfl, ?_⟩
      cases kb with
      | true =>
        simp only [if_true] at q1 ⊢
        exact ⟨_, F1, ρ, _, x1.env, by omega, q1, fun d v F3 H3 q3 x3 r3 => k _ _ _ _ q3 ((x1.trans x3).mono (by omega)) r3⟩
      | false =>
        simp only [Bool.false_eq_true, if_false] at q1 ⊢
        exact ⟨_, F1, ρ, _, x1.env, by omega, q1, fun d v F3 H3 q3 x3 r3 => k _ _ _ _ q3 ((x1.trans x3).mono (by omega)) r3⟩
    · exact q1.elim

/-! ### items, slices -/
theorem nd_ix (hK : X.K = R.K) (ha : PE X l (TEx Φ exN dr R (rlB R) Ed a)) (hb : PE X r (TEx Φ exN dr R (rlB R) Ed b)) (hs : PlainIx r) : PE X (.Subscript l r pos) (TEx Φ exN dr R (rlD R) Ed (.ix a b)) :=
  PEw (pe_ix ix_seq ha hb hs) fun σ H Q ⟨n, F, ρ, Qd, E, hn, hw, k⟩ => by
    simp only [wp] at hw
    simp only [drw] at hn k
    refine two E hn hw fun d1 d2 v1 v2 F2 H2 q x r1 r2 => ?_
    rw [hK]
    exact ix_ok x.env r1 r2 q fun p v q' r' => k _ _ _ _ q' x r'
/-- a slice's part -/
def TOx (Φ : Nat → List D → (D → Prop) → (Nat → Prop) → Prop) (exN : Nat → Str) (dr : Nat → Nat) (R : RT) (Ed : Nat → Prop) (c : C) : TO := fun σ H Q => ∃ n F ρ Qd, EnvOk R n F σ H ρ ∧ n + drw dr c ≤ R.nb ∧ wp Φ exN c ρ (fun d => partD d Qd) Ed ∧
  ∀ o F' H', Qd o → Nxt R (n + drw dr c) σ ρ F H F' H' → Q o H'
theorem nd_part0 : PO X none (TOx Φ exN dr R Ed .nil) := ⟨fun pins s σ H Q I ⟨n, F, ρ, Qd, E, hn, hw, k⟩ => po_none.run pins s σ H Q I (k none F H (by simpa [wp, partD] using hw) (.refl (by simpa [drw] using E)))⟩
theorem nd_part1 (ha : PE X e (TEx Φ exN dr R (rlD R) Ed a)) : PO X (some e) (TOx Φ exN dr R Ed a) := ⟨fun pins s σ H Q I ⟨n, F, ρ, Qd, E, hn, hw, k⟩ => (po_some ha).run pins s σ H Q I ⟨n, F, ρ, _, E, hn, hw, fun d v F1 H1 q1 x1 r1 => by
  unfold partD at q1
  split at q1
  · cases (RB.int (.inl r1))
    exact ⟨_, rfl, k _ _ _ q1 x1⟩
  · exact r1.elim
  · exact q1.elim⟩⟩
theorem nd_slc (hK : X.K = R.K) {lo hi : Option Expr} {p2 : Pos} (ha : PE X l (TEx Φ exN dr R (rlB R) Ed a)) (hb : PO X lo (TOx Φ exN dr R Ed b)) (hc : PO X hi (TOx Φ exN dr R Ed c)) : PE X (.Subscript l (.Slice lo hi none p2) pos) (TEx Φ exN dr R (rlN R) Ed (.slc a b c)) :=
  PEw (pe_slice sl_any ha hb hc) fun σ H Q ⟨n, F, ρ, Qd, E, hn, hw, k⟩ => by
    simp only [wp] at hw
    simp only [drw] at hn k
    refine ⟨n, F, ρ, _, E, by omega, hw, fun d v F1 H1 q1 x1 r1 => ?_⟩
    refine ⟨_, F1, ρ, _, x1.env, by omega, q1, fun o F2 H2 q2 x2 => ?_⟩
    refine ⟨_, F2, ρ, _, x2.env, by omega, q2, fun o3 F3 H3 q3 x3 => ?_⟩
    rw [hK]
    have x13 := (x1.trans x2).trans x3
    refine slc_ok x3.env (RB.mono x2.env x3.ext x3.sub (RB.mono x1.env x2.ext x2.sub r1)) q3 fun d' v F' H' q' x' r' => k d' v F' H' q' ((x13.trans x').mono (by omega)) ?_
    exact RN.back E x13.ext x'.env.st x'.ext x3.env.st r'
theorem cut_ints (ns : List Int) (lo hi : Option Int) : ∃ ms : List Int, cutV (ns.map V.int) lo hi = ms.map V.int ∧ ms.length ≤ ns.length ∧ ∀ z ∈ ms, z ∈ ns := by
  unfold cutV
  rw [← List.map_drop, ← List.map_take]
  refine ⟨_, rfl, ?_, fun z hz => List.mem_of_mem_drop (List.mem_of_mem_take hz)⟩
  rw [List.length_take, List.length_drop]
  omega
theorem rp_ints {sg : Bool} {K : PySem.W.Frag} {F : Addr → Prop} {H : Hp} : ∀ ns : List Int, RpAll sg K F H (ns.map V.int) (ns.map PyData.int)
  | [] => .nil
  | n :: ns => .cons (.int n) (rp_ints ns)
/-- script[:63] -/
theorem nd_scr {i j : Nat} {x : Str} {p p2 p3 : Pos} (hK : X.K = R.K) (hN : X.N[i]? = some x) (hv : Vis X.env.scope x) (hd : (x == ("__debug__" : Str)) = false) (hcd : (x == ("__classdict__" : Str)) = false) :
    PE X (.Subscript (.Name x p) (.Slice none (some (.Constant (.int 63) j p2)) none p3) pos) (TEx Φ exN dr R (rlN R) Ed (.scr i)) :=
  PEw (pe_slice sl_list (pe_var hN hv hd hcd) po_none (po_some pe_int)) fun σ H Q ⟨n, F, ρ, Qd, E, hn, hw, k⟩ => by
    simp only [wp, getV] at hw
    simp only [drw, Nat.add_zero] at hn k
    split at hw
    · rename_i d hd
      obtain ⟨v, h1, h2⟩ := E.slot i _ hd
      split at hw
      · obtain ⟨a, ns, e1, e2, e3, e4⟩ := h2
        subst e1
        refine ⟨_, h1, ⟨63, rfl, a, _, rfl, by rw [hK]; exact e2.1, fun q hq => ?_⟩⟩
        obtain ⟨ms, c1, c2, c3⟩ := cut_ints ns none (some 63)
        rw [c1]
        exact k _ _ F _ (hw ms (Nat.le_trans c2 e3) fun z hz => e4 z (c3 z hz)) (Nxt.upd E hq) (E.newL hq (rp_ints ms))
      · exact hw.elim
    · exact hw.elim
end
end Y

/-! part Y5 -/
set_option Elab.async false
set_option linter.all false
set_option maxRecDepth 100000
set_option maxHeartbeats 1000000
/-! Y5: argument lists, displays, calls of defs and of built-ins. -/
namespace Y
open PySem PySem.Spec
open PyProof.Rows hiding St
open L2
/-! ### stars -/
def isStar : Expr → Bool
  | .Starred _ _ => true
  | _ => false
theorem each_plain {e : Expr} {es : List Expr} {env : Env} (h : isStar e = false) : starEach (e :: es) env = (false, eval e env) :: starEach es env := by
  cases e <;> first | rfl | cases h
theorem none_star {env : Env} {pos : Pos} : ∀ {es : List Expr}, es.all (fun e => !isStar e) = true → (backTo pos (starEach es env)).any (·.1) = false
  | [], _ => rfl
  | e :: es, h => by
    rw [List.all_cons, Bool.and_eq_true, Bool.not_eq_true'] at h
    rw [each_plain h.1]
    show (false || (backTo pos (starEach es env)).any (·.1)) = false
    rw [none_star h.2]
    rfl
section
variable {Φ : Nat → List D → (D → Prop) → (Nat → Prop) → Prop} {exN : Nat → Str} {dr : Nat → Nat}
variable {X : Cx} {R : RT} {z : Pz} {Ed : Nat → Prop} {e l r : Expr} {es : List Expr} {a b c : C} {pos : Pos} {rl : Rl}
/-- what is said of a value stays said -/
def RlOk (R : RT) (rl : Rl) : Prop := ∀ {n : Nat} {σ : St} {ρ : Ev} {F F' : Addr → Prop} {H H' Ha Hb : Hp} {v : V} {d : D}, EnvOk R n F σ H ρ → Ext R.sa H H' → (∀ a, F a → F' a) → rl Ha F H v d → rl Hb F' H' v d
theorem rlD_ok : RlOk R (rlD R) := fun e x f h => RD.mono (e.keep x) f h
theorem rlB_ok : RlOk R (rlB R) := fun e x f h => RB.mono e x f h
theorem nd_anil : PA X [] (TAx Φ exN dr R rl Ed .nil) := PAw pa_nil fun σ H Q ⟨n, F, ρ, Qd, E, hn, hw, k⟩ => k [] [] F H (by simpa [wp] using hw) (.refl (by simpa [drw] using E)) trivial (fun l q => by simpa [lenC] using q)
theorem nd_acons (hrl : RlOk R rl) (hs : isStar e = false) (ha : PE X e (TEx Φ exN dr R rl Ed a)) (hb : PA X es (TAx Φ exN dr R rl Ed b)) : PA X (e :: es) (TAx Φ exN dr R rl Ed (.cons a b)) :=
  PAw (pa_cons ha hb (each_plain hs)) fun σ H Q ⟨n, F, ρ, Qd, E, hn, hw, k⟩ => by
    simp only [wp] at hw
    simp only [drw] at hn k
    refine ⟨n, F, ρ, _, E, by omega, hw, fun d v F1 H1 q1 x1 r1 => ?_⟩
    refine ⟨_, F1, ρ, _, x1.env, by omega, q1, fun ds vs F2 H2 q2 x2 r2 h2 => ?_⟩
    refine k (d :: ds) (v :: vs) F2 H2 q2 ((x1.trans x2).mono (by omega)) ⟨hrl x1.env x2.ext x2.sub r1, r2.imp fun v d h => hrl x2.env .refl (fun _ h => h) h⟩ fun l ql => ?_
    simp only [lenC] at ql
    cases q : lenC b with
    | none => rw [q] at ql; cases ql
    | some j =>
      rw [q] at ql
      simp only [Option.map_some, Option.some.injEq] at ql
      rw [List.length_cons, h2 j q, ql]
theorem nd_astar (hK : X.K = R.K) {p : Pos} (ha : PE X e (TEx Φ exN dr R (rlB R) Ed a)) (hb : PA X es (TAx Φ exN dr R (rlD R) Ed b)) : PA X (.Starred e p :: es) (TAx Φ exN dr R (rlD R) Ed (.star a b)) :=
  PAw (StX.pa_star ha hb) fun σ H Q ⟨n, F, ρ, Qd, E, hn, hw, k⟩ => by
    simp only [wp] at hw
    simp only [drw] at hn k
    refine ⟨n, F, ρ, _, E, by omega, hw, fun d v F1 H1 q1 x1 r1 => ?_⟩
    have go : ∀ (vs : List V) (ps : List PyData), itemsD d = some (ps.map D.py) → RpAll R.sg R.K F1 H1 vs ps → TAx Φ exN dr R (rlD R) Ed b σ H1 fun ys H2 => Q (vs ++ ys) H2 := fun vs ps hd hr => by
      rw [hd] at q1
      refine ⟨_, F1, ρ, _, x1.env, by omega, q1, fun ds ws F2 H2 q2 x2 r2 h2 => ?_⟩
      exact k (ps.map D.py ++ ds) (vs ++ ws) F2 H2 q2 ((x1.trans x2).mono (by omega)) (((RAx.of hr.ra).imp fun v d h => RD.mono (x1.env.keep x2.ext) x2.sub h).append r2) (fun l ql => by simp [lenC] at ql)
    cases d with
    | py p =>
      cases p with
      | list ps =>
        obtain ⟨a1, vs, rfl, h1, _, h2⟩ := RB.list x1.env r1
        exact ⟨a1, vs, rfl, .inr (SqL.of h1), go vs ps rfl h2⟩
      | tuple ps =>
        obtain ⟨a1, vs, rfl, h1, h2⟩ := RB.tuple r1
        exact ⟨a1, vs, rfl, .inl (hK ▸ h1), go vs ps rfl h2⟩
      | _ => simp [itemsD] at q1
    | args ds => rcases r1 with r1 | ⟨_, _, _, h, _⟩ <;> first | exact r1.elim | cases h
    | _ => simp [itemsD] at q1
/-! ### displays -/
theorem nd_tup {kk : Nat} (ha : PA X es (TAx Φ exN dr R (rlD R) Ed a)) : PE X (.Tuple es kk pos) (TEx Φ exN dr R (rlN R) Ed (.tup a)) :=
  match hs : R.sg with
  | false => PEw (pe_tup ha) fun σ H Q ⟨n, F, ρ, Qd, E, hn, hw, k⟩ => by
    simp only [wp] at hw
    simp only [drw] at hn k
    refine ⟨n, F, ρ, _, E, hn, hw, fun ds vs F1 H1 q1 x1 r1 _ => ?_⟩
    obtain ⟨ps, e1, e2, q⟩ := q1
    have hr := RA.pys r1.ra e1
    refine ⟨by rw [hr.length]; exact e2, fun p hp => k _ _ F1 _ q (x1.trans (Nxt.upd x1.env hp)) ?_⟩
    exact RN.back E x1.ext (Nxt.upd x1.env hp).env.st (Nxt.upd x1.env hp (o := .tup vs)).ext x1.env.st (x1.env.newT (.inl hs) hp hr)
  | true => PEw (pe_tupF ha) fun σ H Q ⟨n, F, ρ, Qd, E, hn, hw, k⟩ => by
    simp only [wp] at hw
    simp only [drw] at hn k
    refine ⟨n, F, ρ, _, E, hn, hw, fun ds vs F1 H1 q1 x1 r1 _ => ?_⟩
    obtain ⟨ps, e1, e2, q⟩ := q1
    have hr := RA.pys r1.ra e1
    refine ⟨by rw [hr.length]; exact e2, fun p o hp ho => k _ _ F1 _ q (x1.trans (Nxt.upd x1.env hp)) ?_⟩
    exact RN.back E x1.ext (Nxt.upd x1.env hp).env.st (Nxt.upd x1.env hp (o := .frz o (.tup vs))).ext x1.env.st (x1.env.newTF hp ho hr)
theorem nd_lst (ha : PA X es (TAx Φ exN dr R (rlD R) Ed a)) : PE X (.List es pos) (TEx Φ exN dr R (rlN R) Ed (.lst a)) :=
  PEw (pe_lst ha) fun σ H Q ⟨n, F, ρ, Qd, E, hn, hw, k⟩ => by
    simp only [wp] at hw
    simp only [drw] at hn k
    refine ⟨n, F, ρ, _, E, hn, hw, fun ds vs F1 H1 q1 x1 r1 _ => ?_⟩
    obtain ⟨ps, e1, e2, q⟩ := q1
    have hr := RA.pys r1.ra e1
    refine ⟨by rw [hr.length]; exact e2, fun p hp => k _ _ F1 _ q (x1.trans (Nxt.upd x1.env hp)) ?_⟩
    exact RN.back E x1.ext (Nxt.upd x1.env hp).env.st (Nxt.upd x1.env hp (o := .lst vs)).ext x1.env.st (x1.env.newL hp hr)

/-! ### a def's promise -/
/-- behind a call -/
structure Aft (R : RT) (F : Addr → Prop) (H : Hp) (F' : Addr → Prop) (H' : Hp) : Prop where
  ext : Ext R.sa H H'
  st : StOk R.sa R.nb H'
  sub : ∀ a, F a → F' a
  fr : ∀ a, F' a → H' a ≠ none
  new : ∀ a, F' a → F a ∨ H a = none
  fs : ∀ b, F' b → NotS R.sa b
structure Bef (R : RT) (n : Nat) (F : Addr → Prop) (H : Hp) : Prop where
  st : StOk R.sa n H
  s0 : S0 R.sa H
  fs : ∀ b, F b → NotS R.sa b
  fr : ∀ a, F a → H a ≠ none
  tt : R.sa.T = R.S.T0
def spF (S : RS) (Φ : Nat → List D → (D → Prop) → (Nat → Prop) → Prop) (dr : Nat → Nat) (k : Nat) : Sp := fun vs H Q E => ∃ (sa : SA) (n : Nat) (F : Addr → Prop) (ds : List D) (Qd : D → Prop) (Ed : Nat → Prop),
  Bef ⟨S, sa, n + dr k, H, F⟩ n F H ∧ n + dr k ≤ BIG ∧ RA ⟨S, sa, n + dr k, H, F⟩ F H vs ds ∧ Φ k ds Qd Ed ∧
  (∀ d v F' H', Qd d → Aft ⟨S, sa, n + dr k, H, F⟩ F H F' H' → RD ⟨S, sa, n + dr k, H, F⟩ F' H' v d → Q v H') ∧
  (∀ j H', Ed j → Ext sa H H' → StOk sa (n + dr k) H' → E (.ref (S.ex j)) none H')
/-- the def k stands and keeps its promise -/
structure FHeld (S : RS) (Φ : Nat → List D → (D → Prop) → (Nat → Prop) → Prop) (dr lv : Nat → Nat) (k : Nat) : Prop where
  ex : ∃ fd ps, FnOk S.P S.w S.K S.mg S.base (L2N.CX S.P S.w) (lv k) (S.fa k) fd ps (spF S Φ dr k) ∧ Binds S.K fd ps []
  kp : PySem.W.keepIn S.K (.ref (S.fa k)) = true
theorem EnvOk.bef {n : Nat} {F : Addr → Prop} {σ : St} {H : Hp} {ρ : Ev} (E : EnvOk R n F σ H ρ) (tt : R.sa.T = R.S.T0) : ∀ m, Bef ⟨R.S, R.sa, m, H, F⟩ n F H := fun m =>
  ⟨E.st, E.st.s0, E.fs, E.fr, tt⟩
/-- a caller's invariant behind a call -/
theorem EnvOk.after {n m : Nat} {F F' : Addr → Prop} {σ : St} {H H' : Hp} {ρ : Ev} (E : EnvOk R n F σ H ρ) (A : Aft ⟨R.S, R.sa, m, H, F⟩ F H F' H') : Nxt R m σ ρ F H F' H' := by
  refine ⟨⟨E.ext.trans A.ext, A.st, E.s0, A.fs, A.fr, fun a ha => ?_, E.len, fun i s hs => ?_, E.apart⟩, A.ext, A.sub, A.new⟩
  · rcases A.new a ha with h | h
    · exact E.new a h
    · exact .inr (E.h0 h)
  · have q := E.slot i s hs
    cases s with
    | sh d =>
      obtain ⟨v, h1, h2⟩ := q
      exact ⟨v, h1, h2.mono (E.keep A.ext) A.sub⟩
    | ow ps =>
      obtain ⟨a, vs, h1, h2, h3, h4, h5⟩ := q
      refine ⟨a, vs, h1, A.ext a _ h2 (E.s0.notS h5), h3.mono (E.keep A.ext) A.sub, fun z => ?_, h5⟩
      · rcases A.new a z with h | h
        · exact h4 h
        · rw [h2] at h
          cases h
theorem RD.to {R R' : RT} (h1 : R.S = R'.S) (h2 : R.sa = R'.sa) {F : Addr → Prop} {H : Hp} {v : V} {d : D} (h : RD R F H v d) : RD R' F H v d := by
  cases d with
  | py p =>
    have h : Rp R.S.sg R.S.K F H v p := h
    rw [h1] at h
    exact h
  | fn k =>
    have h : v = .ref (R.S.fa k) := h
    rw [h1] at h
    exact h
  | st =>
    obtain ⟨s, b, e1, e2⟩ := h
    exact ⟨s, b, h2 ▸ e1, e2⟩
  | scr =>
    obtain ⟨a, ns, e1, e2, e3⟩ := h
    exact ⟨a, ns, e1, by show FzL R'.S.K H a _; rw [← h1]; exact e2, e3⟩
  | args ds => exact h
theorem RA.to {R R' : RT} (h1 : R.S = R'.S) (h2 : R.sa = R'.sa) {F : Addr → Prop} {H : Hp} : ∀ {vs : List V} {ds : List D}, RA R F H vs ds → RA R' F H vs ds
  | [], [], _ => trivial
  | v :: vs, d :: ds, ⟨a, b⟩ => ⟨a.to h1 h2, RA.to h1 h2 b⟩
  | [], _ :: _, h => h.elim
  | _ :: _, [], h => h.elim
/-- the promise is met -/
theorem sp_met {k n : Nat} {F : Addr → Prop} {σ : St} {H : Hp} {ρ : Ev} {vs : List V} {ds : List D} {Qd : D → Prop} {Q : VK} (E : EnvOk R n F σ H ρ) (hn : n + dr k ≤ R.nb) (hB : R.nb ≤ BIG) (tt : R.sa.T = R.S.T0) (hr : RA R F H vs ds) (hw : Φ k ds Qd Ed)
    (kk : ∀ d v F' H', Qd d → Nxt R (n + dr k) σ ρ F H F' H' → RD R F' H' v d → Q v H') :
    spF R.S Φ dr k vs H Q (fun cls d H' => ∃ j, Ed j ∧ cls = .ref (R.ex j) ∧ d = none ∧ Ext R.sa R.H0 H' ∧ StOk R.sa R.nb H') :=
  ⟨R.sa, n, F, ds, Qd, Ed, E.bef tt _, Nat.le_trans hn hB, RA.to (R := R) (R' := ⟨R.S, R.sa, n + dr k, H, F⟩) rfl rfl hr, hw, fun d v F' H' q A r => kk d v F' H' q (E.after A) (RD.to (R := ⟨R.S, R.sa, n + dr k, H, F⟩) (R' := R) rfl rfl r), fun j H' q x st => ⟨j, q, rfl, rfl, E.ext.trans x, st.mono hn⟩⟩
/-- what it may raise is taken -/
theorem Wsh.passes (w : Wsh R Ed X) (hP : X.prog = R.S.P) (hW : X.w = R.S.w) : Passes (L2N.CX R.S.P R.S.w) X (fun cls d H' => ∃ j, Ed j ∧ cls = .ref (R.ex j) ∧ d = none ∧ Ext R.sa R.H0 H' ∧ StOk R.sa R.nb H') := by
  obtain ⟨W, tk, hw⟩ := w.ex
  rw [← hP, ← hW]
  exact L2N.passes_call tk fun cls d σ H ⟨j, q, e1, e2, x, st⟩ => by subst e1 e2; exact hw j σ H q x st
theorem nd_call {S : RS} {lv : Nat → Nat} {k : Nat} {x : Str} {p : Pos} (hA : At S z X) (hS : R.S = S) (w : Wsh R Ed X) (FH : FHeld S Φ dr lv k) (hl : lv k ≤ z.L) (hg : Gl X x) (hm : S.mg x = some (.ref (S.fa k))) (hd : (x == ("__debug__" : Str)) = false)
    (hs : (e :: es).all (fun e => !isStar e) = true) (ha : PA X (e :: es) (TAx Φ exN dr R (rlD R) Ed a)) : PE X (.Call (.Name x p) (e :: es) [] pos) (TEx Φ exN dr R (rlD R) Ed (.call k a)) := by
  subst hS
  obtain ⟨fd, ps, F, b⟩ := FH.ex
  rw [List.all_cons, Bool.and_eq_true, Bool.not_eq_true'] at hs
  refine PEw (pe_call (F := by rw [hA.hP, hA.hw, hA.hK, hA.hm, hA.hb]; exact F) (hA.hr.mono hl) hg (by rw [hA.hm]; exact hm) (by rw [hA.hK]; exact FH.kp) (by rw [hA.hK]; exact b) .nil (w.passes hA.hP hA.hw) ha hd (each_plain hs.1) (none_star hs.2)) fun σ H Q ⟨n, F, ρ, Qd, E, hn, hw, kk⟩ => ?_
  simp only [wp] at hw
  simp only [drw] at hn kk
  refine ⟨n, F, ρ, _, E, by omega, hw, fun ds vs F1 H1 q1 x1 r1 _ => ?_⟩
  show spF R.S Φ dr k (vs ++ []) H1 Q _
  rw [List.append_nil]
  exact sp_met x1.env (by omega) w.big w.tt r1.ra q1 fun d v F' H' q x2 r => kk d v F' H' q ((x1.trans x2).mono (by omega)) r
theorem nd_call0 {S : RS} {lv : Nat → Nat} {k : Nat} {x : Str} {p : Pos} (hA : At S z X) (hS : R.S = S) (w : Wsh R Ed X) (FH : FHeld S Φ dr lv k) (hl : lv k ≤ z.L) (hg : Gl X x) (hm : S.mg x = some (.ref (S.fa k))) (hd : (x == ("__debug__" : Str)) = false) :
    PE X (.Call (.Name x p) [] [] pos) (TEx Φ exN dr R (rlD R) Ed (.call k .nil)) := by
  subst hS
  obtain ⟨fd, ps, F, b⟩ := FH.ex
  refine PEw (pe_call0 (F := by rw [hA.hP, hA.hw, hA.hK, hA.hm, hA.hb]; exact F) (hA.hr.mono hl) hg (by rw [hA.hm]; exact hm) (by rw [hA.hK]; exact FH.kp) (by rw [hA.hK]; exact b) .nil (w.passes hA.hP hA.hw) hd) fun σ H Q ⟨n, F, ρ, Qd, E, hn, hw, kk⟩ => ?_
  simp only [wp] at hw
  simp only [drw] at hn kk
  unfold tCall tNil
  exact sp_met (vs := []) (ds := []) E (by omega) w.big w.tt trivial hw fun d v F' H' q x2 r => kk d v F' H' q (x2.mono (by omega)) r
theorem le_foldr {l : List Nat} {a : Nat} (h : a ∈ l) : a ≤ l.foldr max 0 := by
  induction l with
  | nil => cases h
  | cons b l ih =>
    rw [List.foldr_cons]
    rcases List.mem_cons.mp h with e | h
    · subst e; exact Nat.le_max_left _ _
    · exact Nat.le_trans (ih h) (Nat.le_max_right _ _)
theorem nd_callv {S : RS} {lv : Nat → Nat} {i : Nat} {fs : List Nat} {x : Str} {p : Pos} (hA : At S z X) (hS : R.S = S) (w : Wsh R Ed X) (FH : ∀ k ∈ fs, FHeld S Φ dr lv k ∧ lv k ≤ z.L) (hN : X.N[i]? = some x) (hv : Vis X.env.scope x) (hd : (x == ("__debug__" : Str)) = false) (hcd : (x == ("__classdict__" : Str)) = false)
    (hs : (e :: es).all (fun e => !isStar e) = true) (ha : PA X (e :: es) (TAx Φ exN dr R (rlD R) Ed a)) : PE X (.Call (.Name x p) (e :: es) [] pos) (TEx Φ exN dr R (rlD R) Ed (.callv i fs a)) := by
  subst hS
  rw [List.all_cons, Bool.and_eq_true, Bool.not_eq_true'] at hs
  refine ⟨fun pins s σ H Q I ⟨n, F, ρ, Qd, E, hn, hw, kk⟩ => ?_⟩
  simp only [wp, getV] at hw
  simp only [drw] at hn kk
  split at hw
  · rename_i d hd2
    split at hw
    · rename_i d k
      obtain ⟨hk, hw⟩ := hw
      obtain ⟨v, h1, h2⟩ := E.slot i _ hd2
      obtain ⟨FH, hl⟩ := FH k hk
      obtain ⟨fd, ps, Fk, b⟩ := FH.ex
      have hle : dr k ≤ (fs.map dr).foldr max 0 := le_foldr (List.mem_map_of_mem hk)
      refine (pe_callL (f := R.S.fa k) (i := i) (F := by rw [hA.hP, hA.hw, hA.hK, hA.hm, hA.hb]; exact Fk) (hA.hr.mono hl) hN hv (by rw [hA.hK]; exact FH.kp) (by rw [hA.hK]; exact b) .nil (w.passes hA.hP hA.hw) ha hd hcd (each_plain hs.1) (none_star hs.2)).run pins s σ H Q I ⟨?_, ?_⟩
      · have h2 : v = .ref (R.fa k) := h2
        rw [h1, h2]
      · refine ⟨n, F, ρ, _, E, by omega, hw, fun ds vs F1 H1 q1 x1 r1 _ => ?_⟩
        show spF R.S Φ dr k (vs ++ []) H1 Q _
        rw [List.append_nil]
        exact sp_met x1.env (by omega) w.big w.tt r1.ra q1 fun d v F' H' q x2 r => kk d v F' H' q ((x1.trans x2).mono (by omega)) r
    · exact hw.elim
  · exact hw.elim
end
end Y

/-! part Y6 -/
set_option Elab.async false
set_option linter.all false
set_option maxRecDepth 100000
set_option maxHeartbeats 1000000
/-! Y6: built-ins; what a loop walks; targets. -/
namespace Y
open PySem PySem.Spec
open PyProof.Rows hiding St
open L2
/-! ### the greatest of four ints -/
section
variable {prog : Program} {w : World} {A : Around} {E : Value → Shared → Prop} {s : Shared}
theorem args_max4 (a b c d : Value) : argsOk "max" ⟨[a, b, c, d], []⟩ := by unfold argsOk; kernel_rfl
theorem call_max_four {a b c e : Value} {Q : Value → Shared → Prop}
    (h : wpAny (model prog w) A.in1 (pyIter (.ref s.heap.objs.size)) (fun it s₂ => ∃ I fp wr n P St bt, it = .ref I ∧ Walks prog w A.in1 I fp wr n P St ∧ St 0 s₂.heap ∧ (∀ z ∈ fp, z < s₂.heap.objs.size) ∧ 0 < n ∧ CmpOf prog w A.in1 .Gt P bt ∧
      ∀ v h' tk, P (argBest bt (n - 1)) v → (∀ z o, z ∉ wr → s₂.heap.get? z = some o → h'.get? z = some o) → Q v { s₂ with heap := h', toks := tk }) E
      { s with heap := s.heap.push { cls := .type "tuple", data := .seq #[a, b, c, e] } }) :
    wpAny (model prog w) A (call (.builtin "max") [a, b, c, e]) Q E s := by
  have hnm : (toString "max" ++ toString ".loop" : String) = "max.loop" := by decide
  refine call_function_tree F.kind_max F.plain_max F.entry_max (args_max4 _ _ _ _) ?_
  show wpAny _ A.in1 (Builtin.Builtins.bindParams "max" ["key", "default"] 0 ⟨[], []⟩ >>= _) _ _ s
  refine wpAny_bind (wpAny_of_eq (show Builtin.Builtins.bindParams "max" ["key", "default"] 0 ⟨[], []⟩ = pure [none, none] from rfl) ?_)
  show wpAny _ A.in1 (newTuple [a, b, c, e] >>= _) _ _ s
  refine wpAny_bind (wpAny_newObj_type ?_)
  refine wpAny_bind (wpAny_mono h (fun it s₂ h₂ => ?_) fun _ _ z => z)
  obtain ⟨I, fp, wr, n, P, St, bt, rfl, W, hst, hfp, hn, hcmp, hQ⟩ := h₂
  refine wpAny_bind (wpAny_newObj_type ?_)
  have hSf : s₂.heap.objs.size ∉ fp := fun hm => Nat.lt_irrefl _ (hfp _ hm)
  rw [hnm]
  exact wpAny_pure ⟨plainId_quiet F.plain_max_loop _, codeAny_max_loop_first W bt hcmp s₂.heap.objs.size hSf hn (W.frame _ _ _ hst fun z _ o y => Heap.get?_push_of_some _ y) (Heap.get?_push_size _ rfl) fun v h' tk hP hk =>
    hQ v h' tk hP fun z o hbw y => hk z o hbw (Nat.ne_of_lt (Heap.lt_size y)) (Heap.get?_push_of_some _ y)⟩
theorem max_four_ints {a b c e : Int} {t u x y : Tok} {Q : Value → Shared → Prop} (hh : A.handled = none)
    (h : ∀ h' tk to, (∀ d o, s.heap.get? d = some o → h'.get? d = some o) → Q (.int (max (max (max a b) c) e) to) { s with heap := h', toks := tk }) :
    wpAny (model prog w) A (call (.builtin "max") [.int a t, .int b u, .int c x, .int e y]) Q E s := by
  let L : Array (Int × Tok) := #[(a, t), (b, u), (c, x), (e, y)]
  have hT : (s.heap.push { cls := .type "tuple", data := .seq #[.int a t, .int b u, .int c x, .int e y] }).IsTuple s.heap.objs.size (intItems L) := ⟨_, Heap.get?_push_size _ rfl, rfl, 0, by simp [L, intItems]⟩
  refine call_max_four (wpAny_pyIter_tuple hT ?_)
  have hsz : (s.heap.push { cls := .type "tuple", data := .seq #[.int a t, .int b u, .int c x, .int e y] }).objs.size = s.heap.objs.size + 1 := Heap.size_push ..
  refine ⟨_, [_, s.heap.objs.size], [_], _, _, _, _, rfl, Walks.tuple (A := A.in1) hh _ s.heap.objs.size (by rw [hsz]; exact Nat.ne_of_lt (Nat.lt_succ_self _)) (intItems L),
    ⟨⟨_, Heap.get?_push_size _ rfl, rfl, rfl⟩, hT.push _⟩, fun d hd => ?_, by simp [L, intItems], CmpOf.ints_gt (numAt L) (fun _ _ => intItems_at), fun v h' tk hP hk => ?_⟩
  · show d < ((s.heap.push _).push _).objs.size
    rw [Heap.size_push, hsz]
    rcases List.mem_cons.mp hd with rfl | hd
    · rw [hsz]; exact Nat.lt_succ_self _
    · rcases List.mem_cons.mp hd with rfl | hd
      · exact Nat.lt_succ_of_lt (Nat.lt_succ_self _)
      · cases hd
  · have hold : ∀ d o, s.heap.get? d = some o → h'.get? d = some o := fun d o z => by
      refine hk d o (fun hm => ?_) (Heap.get?_push_of_some _ (Heap.get?_push_of_some _ z))
      rcases List.mem_cons.mp hm with e1 | hm
      · have := Heap.lt_size z; rw [e1, hsz] at this; exact Nat.lt_irrefl _ (Nat.lt_of_succ_lt this)
      · cases hm
    have hv : ∃ to, v = Value.int (max (max (max a b) c) e) to := by
      have hP' : (intItems L)[argBest (fun i j => decide (numAt L i > numAt L j)) 3]? = some v := by
        have hsz2 : (intItems L).size - 1 = 3 := by simp [L, intItems]
        rw [← hsz2]; exact hP
      have n0 : numAt L 0 = a := rfl
      have n1 : numAt L 1 = b := rfl
      have n2 : numAt L 2 = c := rfl
      have n3 : numAt L 3 = e := rfl
      have g0 : (intItems L)[0]? = some (.int a t) := by simp [L, intItems]
      have g1 : (intItems L)[1]? = some (.int b u) := by simp [L, intItems]
      have g2 : (intItems L)[2]? = some (.int c x) := by simp [L, intItems]
      have g3 : (intItems L)[3]? = some (.int e y) := by simp [L, intItems]
      have key : ∀ k : Nat, argBest (fun i j => decide (numAt L i > numAt L j)) 3 = k → k < 4 → (∀ m, m < 4 → numAt L m ≤ numAt L k) → ∃ to, v = Value.int (max (max (max a b) c) e) to := by
        intro k hk hk4 hm
        rw [hk] at hP'
        have m0 := hm 0 (by decide)
        have m1 := hm 1 (by decide)
        have m2 := hm 2 (by decide)
        have m3 := hm 3 (by decide)
        rw [n0] at m0
        rw [n1] at m1
        rw [n2] at m2
        rw [n3] at m3
        match k, hk4 with
        | 0, _ =>
          rw [n0] at m0 m1 m2 m3
          rw [g0] at hP'
          exact ⟨t, by rw [← Option.some.inj hP']; congr 1; omega⟩
        | 1, _ =>
          rw [n1] at m0 m1 m2 m3
          rw [g1] at hP'
          exact ⟨u, by rw [← Option.some.inj hP']; congr 1; omega⟩
        | 2, _ =>
          rw [n2] at m0 m1 m2 m3
          rw [g2] at hP'
          exact ⟨x, by rw [← Option.some.inj hP']; congr 1; omega⟩
        | 3, _ =>
          rw [n3] at m0 m1 m2 m3
          rw [g3] at hP'
          exact ⟨y, by rw [← Option.some.inj hP']; congr 1; omega⟩
      have best : ∀ n, argBest (fun i j => decide (numAt L i > numAt L j)) n ≤ n ∧ ∀ m, m ≤ n → numAt L m ≤ numAt L (argBest (fun i j => decide (numAt L i > numAt L j)) n) := by
        intro n
        induction n with
        | zero => exact ⟨Nat.le_refl _, fun m hm => by rw [Nat.le_zero.mp hm]; exact Int.le_refl _⟩
        | succ n ih =>
          unfold argBest
          by_cases q : decide (numAt L (n + 1) > numAt L (argBest (fun i j => decide (numAt L i > numAt L j)) n)) = true
          · rw [if_pos q]
            have q := of_decide_eq_true q
            refine ⟨Nat.le_refl _, fun m hm => ?_⟩
            rcases Nat.lt_or_ge m (n + 1) with z | z
            · have := ih.2 m (by omega)
              omega
            · have : m = n + 1 := by omega
              rw [this]; exact Int.le_refl _
          · rw [if_neg q]
            have q : ¬ numAt L (n + 1) > numAt L (argBest (fun i j => decide (numAt L i > numAt L j)) n) := fun z => q (decide_eq_true z)
            refine ⟨Nat.le_succ_of_le ih.1, fun m hm => ?_⟩
            rcases Nat.lt_or_ge m (n + 1) with z | z
            · exact ih.2 m (by omega)
            · have : m = n + 1 := by omega
              rw [this]; omega
      have B := best 3
      exact key _ rfl (by omega) fun m hm => B.2 m (by omega)
    obtain ⟨to, hv⟩ := hv
    rw [hv]
    exact h h' tk to hold
end
/-! ### built-ins by their names -/
def biV : BI → Value
  | .len => .builtin "len" | .int => .type "int" | .abs => .builtin "abs" | .max => .builtin "max" | .min => .builtin "min" | .sum => .builtin "sum"
  | .all => .builtin "all" | .any => .builtin "any" | .tuple => .type "tuple" | .list => .type "list"
def biX : BI → Str
  | .len => "len" | .int => "int" | .abs => "abs" | .max => "max" | .min => "min" | .sum => "sum"
  | .all => "all" | .any => "any" | .tuple => "tuple" | .list => "list"
theorem bi_boot (b : BI) : bootBuiltins (biX b) = some (biV b) := by cases b <;> decide +kernel
theorem bi_name (b : BI) : biX b ≠ "__name__" ∧ (biX b == ("__debug__" : Str)) = false := by cases b <;> decide
theorem CallR.or {X : Cx} {f : Value} {r r' : List V → Hp → VK → Prop} (h : CallR X f r) (h' : CallR X f r') : CallR X f (fun xs H Q => r xs H Q ∨ r' xs H Q) := by
  intro pins s σ H xs us Q I rv q
  rcases q with q | q
  · exact h pins s σ H xs us Q I rv q
  · exact h' pins s σ H xs us Q I rv q
abbrev RCa := List V → Hp → VK → Prop
def r2I (f : Int → Int → Int) : RCa := fun xs H Q => ∃ i j, xs = [.int i, .int j] ∧ Q (.int (f i j)) H
def r3I (f : Int → Int → Int → Int) : RCa := fun xs H Q => ∃ i j k, xs = [.int i, .int j, .int k] ∧ Q (.int (f i j k)) H
def r4I (f : Int → Int → Int → Int → Int) : RCa := fun xs H Q => ∃ i j k l, xs = [.int i, .int j, .int k, .int l] ∧ Q (.int (f i j k l)) H
def rBi (K : PySem.W.Frag) : BI → RCa
  | .len => fun xs H Q => ∃ p ys, xs = [.ref p] ∧ (SqL K H p ys ∨ SqT K H p ys) ∧ Q (.int ys.length) H
  | .int => fun xs H Q => (∃ i, xs = [.int i] ∧ Q (.int i) H) ∨ ∃ k, xs = [.bl k] ∧ Q (.int (if k then 1 else 0)) H
  | .abs => fun xs H Q => ∃ i, xs = [.int i] ∧ Q (.int (if i < 0 then -i else i)) H
  | .max => fun xs H Q => rMax K xs H Q ∨ r2I (fun i j => max i j) xs H Q ∨ r3I (fun i j k => max (max i j) k) xs H Q ∨ r4I (fun i j k l => max (max (max i j) k) l) xs H Q
  | .min => fun xs H Q => rMin K xs H Q ∨ r2I (fun i j => min i j) xs H Q
  | .sum => rSum K
  | .all => rAll K
  | .any => rAny K
  | .tuple => fun xs H Q => ∃ p ys, xs = [.ref p] ∧ ((SqL K H p ys ∧ ((∀ l, H l = none → Q (.ref l) (upd H l (.tup ys))) ∨ NewF H ys Q)) ∨ (SqT K H p ys ∧ Q (.ref p) H))
  | .list => fun xs H Q => ∃ p ys, xs = [.ref p] ∧ (SqL K H p ys ∨ SqT K H p ys) ∧ ∀ l, H l = none → Q (.ref l) (upd H l (.lst ys))
theorem call_max2' {X : Cx} (hc : X.calm = true) : CallR X (.builtin "max") (r2I fun i j => max i j) := fun pins s σ H xs us Q I r ⟨i, j, e, q⟩ => call_max2 hc pins s σ H xs us Q I r ⟨i, j, e, by
  have : (if j > i then j else i) = max i j := by split <;> omega
  rw [this]; exact q⟩
theorem call_min2' {X : Cx} (hc : X.calm = true) : CallR X (.builtin "min") (r2I fun i j => min i j) := fun pins s σ H xs us Q I r ⟨i, j, e, q⟩ => call_min2 hc pins s σ H xs us Q I r ⟨i, j, e, by
  have : (if j < i then j else i) = min i j := by split <;> omega
  rw [this]; exact q⟩
theorem vals3 {x y z : V} {us : List Value} (r : Vals [x, y, z] us) : ∃ u w t, us = [u, w, t] ∧ RelV x u ∧ RelV y w ∧ RelV z t := by
  cases r with
  | cons r1 r2 =>
    obtain ⟨u, w, e, h1, h2⟩ := vals2 r2
    subst e
    exact ⟨_, u, w, rfl, r1, h1, h2⟩
theorem call_max3' {X : Cx} (hc : X.calm = true) : CallR X (.builtin "max") (r3I fun i j k => max (max i j) k) := by
  intro pins s σ H xs us Q I r h
  obtain ⟨i, j, k, rfl, q⟩ := h
  obtain ⟨u, w, t, rfl, ⟨t1, rfl⟩, ⟨t2, rfl⟩, ⟨t3, rfl⟩⟩ := vals3 r
  refine max_three_ints (I.ok.hd hc) fun h' tk hk => ⟨_, H, I.kept hk, ?_, q⟩
  show RelV (.int (max (max i j) k)) _
  by_cases h1 : j > i
  · by_cases h2 : k > j
    · have e : max (max i j) k = k := by omega
      rw [if_pos h1, if_pos h2, e]; exact ⟨_, rfl⟩
    · have e : max (max i j) k = j := by omega
      rw [if_pos h1, if_neg h2, e]; exact ⟨_, rfl⟩
  · by_cases h2 : k > i
    · have e : max (max i j) k = k := by omega
      rw [if_neg h1, if_pos h2, e]; exact ⟨_, rfl⟩
    · have e : max (max i j) k = i := by omega
      rw [if_neg h1, if_neg h2, e]; exact ⟨_, rfl⟩
theorem vals4 {x y z o : V} {us : List Value} (r : Vals [x, y, z, o] us) : ∃ u w t v, us = [u, w, t, v] ∧ RelV x u ∧ RelV y w ∧ RelV z t ∧ RelV o v := by
  cases r with
  | cons r1 r2 =>
    obtain ⟨u, w, t, e, h1, h2, h3⟩ := vals3 r2
    subst e
    exact ⟨_, u, w, t, rfl, r1, h1, h2, h3⟩
theorem call_max4' {X : Cx} (hc : X.calm = true) : CallR X (.builtin "max") (r4I fun i j k l => max (max (max i j) k) l) := by
  intro pins s σ H xs us Q I r h
  obtain ⟨i, j, k, l, rfl, q⟩ := h
  obtain ⟨u, w, t, v, rfl, ⟨t1, rfl⟩, ⟨t2, rfl⟩, ⟨t3, rfl⟩, ⟨t4, rfl⟩⟩ := vals4 r
  refine max_four_ints (I.ok.hd hc) fun h' tk to hk => ⟨.int (max (max (max i j) k) l), H, I.kept hk, ⟨to, rfl⟩, q⟩
theorem call_tup2 {X : Cx} : CallR X (.type "tuple") (fun xs H Q => ∃ p ys, xs = [.ref p] ∧ ((SqL X.K H p ys ∧ ((∀ l, H l = none → Q (.ref l) (upd H l (.tup ys))) ∨ NewF H ys Q)) ∨ (SqT X.K H p ys ∧ Q (.ref p) H))) := by
  intro pins s σ H xs us Q I r h
  obtain ⟨p, ys, e, h⟩ := h
  rcases h with ⟨h1, h2 | h2⟩ | h
  · exact call_tuple_of pins s σ H xs us Q I r ⟨p, ys, e, .inl ⟨h1, h2⟩⟩
  · exact call_tupleF pins s σ H xs us Q I r ⟨p, ys, e, .inl ⟨h1, h2⟩⟩
  · exact call_tuple_of pins s σ H xs us Q I r ⟨p, ys, e, .inr h⟩
theorem cr_bi {X : Cx} (hc : X.calm = true) (b : BI) : CallR X (biV b) (rBi X.K b) := by
  cases b with
  | len => exact call_len_seq
  | int => exact call_int1
  | abs => exact call_abs
  | max => exact CallR.or (cr_max hc) (CallR.or (call_max2' hc) (CallR.or (call_max3' hc) (call_max4' hc)))
  | min => exact CallR.or (cr_min hc) (call_min2' hc)
  | sum => exact cr_sum hc
  | all => exact cr_all hc
  | any => exact cr_any hc
  | tuple => exact call_tup2
  | list => exact call_list_of
section
variable {R : RT} {F F' : Addr → Prop} {H H' : Hp} {σ : St} {ρ : Ev} {n m : Nat}
theorem ra1 {rl : V → D → Prop} {vs : List V} {d : D} (h : RAx rl vs [d]) : ∃ v, vs = [v] ∧ rl v d := by
  match vs, h with
  | [v], ⟨a, _⟩ => exact ⟨v, rfl, a⟩
  | _ :: _ :: _, ⟨_, b⟩ => exact b.elim
theorem ra2 {rl : V → D → Prop} {vs : List V} {d e : D} (h : RAx rl vs [d, e]) : ∃ v w, vs = [v, w] ∧ rl v d ∧ rl w e := by
  match vs, h with
  | v :: vs, ⟨a, b⟩ =>
    obtain ⟨w, rfl, c⟩ := ra1 b
    exact ⟨v, w, rfl, a, c⟩
theorem ra3 {rl : V → D → Prop} {vs : List V} {d e f : D} (h : RAx rl vs [d, e, f]) : ∃ v w u, vs = [v, w, u] ∧ rl v d ∧ rl w e ∧ rl u f := by
  match vs, h with
  | v :: vs, ⟨a, b⟩ =>
    obtain ⟨w, u, rfl, c⟩ := ra2 b
    exact ⟨v, w, u, rfl, a, c⟩
theorem ra4 {rl : V → D → Prop} {vs : List V} {d e f g : D} (h : RAx rl vs [d, e, f, g]) : ∃ v w u o, vs = [v, w, u, o] ∧ rl v d ∧ rl w e ∧ rl u f ∧ rl o g := by
  match vs, h with
  | v :: vs, ⟨a, b⟩ =>
    obtain ⟨w, u, o, rfl, c⟩ := ra3 b
    exact ⟨v, w, u, o, rfl, a, c⟩
theorem bi_ok {b : BI} {vs : List V} {ds : List D} {Qd : D → Prop} {Q : VK} (E : EnvOk R n F σ H ρ) (rr : RAx (RB R F H) vs ds) (q : biD b ds Qd)
    (k : ∀ d' v F' H', Qd d' → Nxt R n σ ρ F H F' H' → RN R H F' H' v d' → Q v H') : rBi R.K b vs H Q := by
  unfold biD at q
  split at q
  · obtain ⟨v, rfl, r⟩ := ra1 rr
    obtain ⟨a, ws, rfl, h1, _, h2⟩ := r.list E
    exact ⟨a, ws, rfl, .inl (SqL.of h1), by rw [h2.length]; exact k _ _ _ _ q (.refl E) .of_int⟩
  · obtain ⟨v, rfl, r⟩ := ra1 rr
    obtain ⟨a, ws, rfl, h1, h2⟩ := r.tuple
    exact ⟨a, ws, rfl, .inr h1, by rw [h2.length]; exact k _ _ _ _ q (.refl E) .of_int⟩
  · obtain ⟨v, rfl, r⟩ := ra1 rr
    cases r.int
    exact .inl ⟨_, rfl, k _ _ _ _ q (.refl E) .of_int⟩
  · obtain ⟨v, rfl, r⟩ := ra1 rr
    cases r.bool
    exact .inr ⟨_, rfl, k _ _ _ _ q (.refl E) .of_int⟩
  · obtain ⟨v, rfl, r⟩ := ra1 rr
    cases r.int
    exact ⟨_, rfl, k _ _ _ _ q (.refl E) .of_int⟩
  · obtain ⟨v, rfl, r⟩ := ra1 rr
    obtain ⟨a, ws, rfl, h1, _, h2⟩ := r.list E
    obtain ⟨ns, e1, e2, q⟩ := q
    rw [h2.ints e1] at h1
    exact .inl ⟨a, ns, rfl, SqL.of h1, e2, fun m hm hle => k _ _ _ _ (q m hm hle) (.refl E) .of_int⟩
  · obtain ⟨v, w, rfl, r1, r2⟩ := ra2 rr
    cases r1.int; cases r2.int
    exact .inr (.inl ⟨_, _, rfl, k _ _ _ _ q (.refl E) .of_int⟩)
  · obtain ⟨v, w, u, rfl, r1, r2, r3⟩ := ra3 rr
    cases r1.int; cases r2.int; cases r3.int
    exact .inr (.inr (.inl ⟨_, _, _, rfl, k _ _ _ _ q (.refl E) .of_int⟩))
  · obtain ⟨v, w, u, o, rfl, r1, r2, r3, r4⟩ := ra4 rr
    cases r1.int; cases r2.int; cases r3.int; cases r4.int
    exact .inr (.inr (.inr ⟨_, _, _, _, rfl, k _ _ _ _ q (.refl E) .of_int⟩))
  · obtain ⟨v, rfl, r⟩ := ra1 rr
    obtain ⟨a, ws, rfl, h1, _, h2⟩ := r.list E
    obtain ⟨ns, e1, e2, q⟩ := q
    rw [h2.ints e1] at h1
    exact .inl ⟨a, ns, rfl, SqL.of h1, e2, fun m hm hle => k _ _ _ _ (q m hm hle) (.refl E) .of_int⟩
  · obtain ⟨v, w, rfl, r1, r2⟩ := ra2 rr
    cases r1.int; cases r2.int
    exact .inr ⟨_, _, rfl, k _ _ _ _ q (.refl E) .of_int⟩
  · obtain ⟨v, rfl, r⟩ := ra1 rr
    obtain ⟨a, ws, rfl, h1, _, h2⟩ := r.list E
    obtain ⟨ns, e1, q⟩ := q
    rw [h2.ints e1] at h1
    exact ⟨a, ns, rfl, SqL.of h1, k _ _ _ _ q (.refl E) .of_int⟩
  · obtain ⟨v, rfl, r⟩ := ra1 rr
    obtain ⟨a, ws, rfl, h1, _, h2⟩ := r.list E
    obtain ⟨ns, e1, q⟩ := q
    rw [h2.bools e1] at h1
    exact ⟨a, ns, rfl, SqL.of h1, k _ _ _ _ q (.refl E) .of_bool⟩
  · obtain ⟨v, rfl, r⟩ := ra1 rr
    obtain ⟨a, ws, rfl, h1, _, h2⟩ := r.list E
    obtain ⟨ns, e1, q⟩ := q
    rw [h2.bools e1] at h1
    exact ⟨a, ns, rfl, SqL.of h1, k _ _ _ _ q (.refl E) .of_bool⟩
  · obtain ⟨v, rfl, r⟩ := ra1 rr
    obtain ⟨a, ws, rfl, h1, _, h2⟩ := r.list E
    cases hs : R.sg with
    | false => exact ⟨a, ws, rfl, .inl ⟨SqL.of h1, .inl fun p hp => k _ _ _ _ q (Nxt.upd E hp) (E.newT (.inl hs) hp h2)⟩⟩
    | true => exact ⟨a, ws, rfl, .inl ⟨SqL.of h1, .inr fun p o hp ho => k _ _ _ _ q (Nxt.upd E hp) (E.newTF hp ho h2)⟩⟩
  · obtain ⟨v, rfl, r⟩ := ra1 rr
    obtain ⟨a, ws, rfl, h1, h10, h2⟩ := r.tupleP
    exact ⟨a, ws, rfl, .inr ⟨h1, k _ _ _ _ q (.refl E) (RN.of_tup h1 h10 h2)⟩⟩
  · obtain ⟨v, rfl, r⟩ := ra1 rr
    obtain ⟨a, ws, rfl, h1, _, h2⟩ := r.list E
    exact ⟨a, ws, rfl, .inl (SqL.of h1), fun p hp => k _ _ _ _ q (Nxt.upd E hp) (E.newL hp h2)⟩
  · obtain ⟨v, rfl, r⟩ := ra1 rr
    obtain ⟨a, ws, rfl, h1, h2⟩ := r.tuple
    exact ⟨a, ws, rfl, .inr h1, fun p hp => k _ _ _ _ q (Nxt.upd E hp) (E.newL hp h2)⟩
  · exact q.elim
end
section
variable {Φ : Nat → List D → (D → Prop) → (Nat → Prop) → Prop} {exN : Nat → Str} {dr : Nat → Nat}
variable {X : Cx} {R : RT} {z : Pz} {Ed : Nat → Prop} {e l r : Expr} {es : List Expr} {a b c : C} {pos p : Pos}
theorem nd_bi {B : BI} {x : Str} (hc : X.calm = true) (hK : X.K = R.K) (hx : x = biX B) (hg : Gl X x) (hm : X.mg x = none) (hs : (e :: es).all (fun e => !isStar e) = true) (ha : PA X (e :: es) (TAx Φ exN dr R (rlB R) Ed a)):
    PE X (.Call (.Name x p) (e :: es) [] pos) (TEx Φ exN dr R (rlN R) Ed (.bi B a)) := by
  subst hx
  rw [List.all_cons, Bool.and_eq_true, Bool.not_eq_true'] at hs
  obtain ⟨hn, hd⟩ := bi_name B
  have go : PE X (.Call (.Name (biX B) p) (e :: es) [] pos) (tCB (rBi X.K B) (TAx Φ exN dr R (rlB R) Ed a)) := by
    have h := cr_bi (X := X) hc B
    have hb := bi_boot B
    cases B <;> first
      | exact pe_callB h hg hm hb ha hn hd (each_plain hs.1) (none_star hs.2)
      | exact pe_callTy h hg hm hb ha hn hd (each_plain hs.1) (none_star hs.2)
  refine PEw go fun σ H Q ⟨n, F, ρ, Qd, E, hn, hw, k⟩ => ?_
  simp only [wp] at hw
  simp only [drw] at hn k
  refine ⟨n, F, ρ, _, E, hn, hw, fun ds vs F1 H1 q1 x1 r1 hl => ?_⟩
  rw [hK]
  refine bi_ok x1.env r1 q1 (fun d' v F' H' q' x' r' => k d' v F' H' q' (x1.trans x') (RN.back E x1.ext x'.env.st x'.ext x1.env.st r'))
end
end Y

/-! part Y7 -/
set_option Elab.async false
set_option linter.all false
set_option maxRecDepth 100000
set_option maxHeartbeats 1000000
/-! Y7: what a loop walks; targets; comprehensions. -/
namespace Y
open PySem PySem.Spec
open PyProof.Rows hiding St
open L2
/-- what an iterator leans on is as it was -/
def Stay (R : RT) (b : Bool) (F : Addr → Prop) (H H' : Hp) : Prop := Keep F H H' ∧ (b = true → Ext R.sa H H')
/-- J yields ds -/
def Yl (R : RT) (b : Bool) (J : It) (ds : List D) (F : Addr → Prop) (H : Hp) : Prop := ∀ (i : Nat) (F' : Addr → Prop) (H' : Hp), Stay R b F H H' → (∀ a, F a → F' a) →
  (∀ d, ds[i]? = some d → J.go i H' ∧ ∀ x H'', J.yld i H' x H'' → (H'' = H' ∨ ∃ p o, H' p = none ∧ H'' = upd H' p o) ∧ RD R F' H'' x d) ∧ (ds.length ≤ i → J.stop i H')
def cntC0 : C → Bool
  | .rng _ => true
  | .lst as => match lenC as with | some l => decide (l ≤ manyD) | none => false
  | _ => false
/-- a value: no list or tuple is longer than the model has room for -/
def sqC : C → Bool
  | .var _ => true
  | .bvar _ => true
  | .call _ _ => true
  | .ix _ _ => true
  | .slc _ _ _ => true
  | .bin _ _ _ => true
  | .comp _ _ _ _ _ => true
  | .bi _ _ => true
  | .glob _ => true
  | _ => false
def cntC (c : C) : Bool := cntC0 c || sqC c
def TIx (Φ : Nat → List D → (D → Prop) → (Nat → Prop) → Prop) (exN : Nat → Str) (dr : Nat → Nat) (R : RT) (b : Bool) (Ed : Nat → Prop) (c : C) : TI := fun σ H K => ∃ n F ρ Qd, EnvOk R n F σ H ρ ∧ n + drw dr c ≤ R.nb ∧ wp Φ exN c ρ Qd Ed ∧
  (∀ d, Qd d → ∃ ds, itemsD d = some ds) ∧ ∀ d ds J F' H', Qd d → itemsD d = some ds → Nxt R (n + drw dr c) σ ρ F H F' H' → Yl R b J ds F' H' → (cntC c = true → ds.length ≤ manyD) → K J H'
/-- the value's own items -/
def iSeq (K : PySem.W.Frag) (tl : TE) : TI := fun σ H R => tl σ H fun x H1 => (∃ a, x = .ref a ∧ (∃ xs, SqL K H1 a xs) ∧ ((∀ xs, SqL K H1 a xs → xs.length ≤ sizeLine) → R (Itl K a) H1)) ∨ ∃ a, x = .ref a ∧ (∃ xs, SqT K H1 a xs) ∧ ((∀ xs, SqT K H1 a xs → xs.length ≤ sizeLine) → R (Itt K a) H1)
theorem pi_seq {X : Cx} {tg l : Expr} {tl : TE} (hl : PE X l tl) : PI X tg l (iSeq X.K tl) := by
  refine ⟨fun pins s σ H R I h => thn (hl.run pins s σ H _ I h) fun v s1 ⟨x, H1, I1, r1, q1⟩ => ?_⟩
  rcases q1 with ⟨a, e, ⟨xs, hq⟩, q⟩ | ⟨a, e, ⟨xs, hq⟩, q⟩
  · subst e
    cases r1
    obtain ⟨its, rv, p, _⟩ := I1.list hq
    refine wpAny_pyIter_list p.isList ⟨_, [s1.heap.objs.size], _, _, H1, rfl, I1.kept (t' := s1.toks) (fun b o e => Heap.get?_push_of_some _ e), turn_list a _, ⟨_, Heap.get?_push_size _ rfl, rfl, rfl⟩, fun b hb => ?_, q fun xs h => by obtain ⟨_, _, _, z⟩ := I1.list h; exact z⟩
    rw [List.mem_singleton.mp hb]
    exact I1.fpOk (Nat.le_refl _) (I1.hok.fresh (Nat.le_refl _))
  · subst e
    cases r1
    obtain ⟨its, rv, p, _⟩ := I1.tuple hq
    refine wpAny_pyIter_tuple (show s1.heap.IsTuple a its.toArray from p) ⟨_, [s1.heap.objs.size], _, _, H1, rfl, I1.kept (t' := s1.toks) (fun b o e => Heap.get?_push_of_some _ e), turn_tuple a _, ⟨_, Heap.get?_push_size _ rfl, rfl, rfl⟩, fun b hb => ?_, q fun xs h => by obtain ⟨_, _, _, z⟩ := I1.tuple h; exact z⟩
    rw [List.mem_singleton.mp hb]
    exact I1.fpOk (Nat.le_refl _) (I1.hok.fresh (Nat.le_refl _))
section
variable {R : RT} {F F' : Addr → Prop} {H H' : Hp} {σ : St} {ρ : Ev} {n m : Nat}
theorem get_py {ps : List PyData} {i : Nat} {d : D} (h : (ps.map D.py)[i]? = some d) : ∃ p, ps[i]? = some p ∧ d = .py p := by
  rw [List.getElem?_map] at h
  cases q : ps[i]? with
  | none => rw [q] at h; cases h
  | some p => rw [q] at h; exact ⟨p, rfl, (Option.some.inj h).symm⟩
theorem yl_tuple {b : Bool} {a : Addr} {vs : List V} {ps : List PyData} (h1 : SqT R.K H a vs) (h2 : RpAll R.sg R.K F H vs ps) (uniq : ∀ ws H', SqT R.K H' a vs → SqT R.K H' a ws → ws = vs) : True := trivial
/-- over a list: that at a stays -/
theorem yl_list {b : Bool} {a : Addr} {vs : List V} {ps : List PyData} (h1 : H a = some (.lst vs)) (h2 : RpAll R.sg R.K F H vs ps) (h3 : F a ∨ (b = true ∧ NotS R.sa a)) : Yl R b (Itl R.K a) (ps.map D.py) F H := by
  intro i F' H' st sub
  have e : H' a = some (.lst vs) := by
    rcases h3 with h3 | ⟨hb, h3⟩
    · exact st.1 _ _ h1 (.inl h3)
    · exact st.2 hb _ _ h1 h3
  refine ⟨fun d hd => ?_, fun hl => ⟨vs, SqL.of e, by rw [h2.length]; simpa using hl⟩⟩
  obtain ⟨p, hp, rfl⟩ := get_py hd
  obtain ⟨v, hv, r⟩ := h2.get hp
  refine ⟨⟨vs, v, SqL.of e, hv⟩, fun x H'' ⟨eq, y⟩ => ⟨.inl eq, ?_⟩⟩
  have := y vs (SqL.of e)
  rw [hv] at this
  cases this
  subst eq
  exact r.mono st.1 sub
theorem yl_tup {b : Bool} {a : Addr} {vs : List V} {ps : List PyData} (h1 : SqT R.K H a vs) (h2 : RpAll R.sg R.K F H vs ps) : Yl R b (Itt R.K a) (ps.map D.py) F H := by
  intro i F' H' st sub
  have e : SqT R.K H' a vs := st.1.sqt h1
  refine ⟨fun d hd => ?_, fun hl => ⟨vs, e, by rw [h2.length]; simpa using hl⟩⟩
  obtain ⟨p, hp, rfl⟩ := get_py hd
  obtain ⟨v, hv, r⟩ := h2.get hp
  refine ⟨⟨vs, v, e, hv⟩, fun x H'' ⟨eq, y⟩ => ⟨.inl eq, ?_⟩⟩
  have := y vs e
  rw [hv] at this
  cases this
  subst eq
  exact r.mono st.1 sub
theorem yl_range {b : Bool} {lo hi : Int} : Yl R b (Itr lo (hi - lo).toNat) (rangeD lo hi) F H := by
  intro i F' H' st sub
  unfold rangeD
  refine ⟨fun d hd => ?_, fun hl => by show (hi - lo).toNat ≤ i; rw [List.length_map, List.length_range] at hl; exact hl⟩
  rw [List.getElem?_map] at hd
  cases q : (List.range (hi - lo).toNat)[i]? with
  | none => rw [q] at hd; cases hd
  | some j =>
    rw [q] at hd
    obtain ⟨hi', e⟩ := List.getElem?_eq_some_iff.mp q
    rw [List.getElem_range] at e
    subst e
    refine ⟨by show i < (hi - lo).toNat; rw [List.length_range] at hi'; exact hi', fun x H'' ⟨e1, e2⟩ => ⟨.inl e1, ?_⟩⟩
    cases Option.some.inj hd
    subst e2
    exact .int _
theorem yl_zipL (hsg : R.sg = false) {b : Bool} {a c : Addr} {vs ws : List V} {ps qs : List PyData} (h1 : H a = some (.lst vs)) (h2 : RpAll R.sg R.K F H vs ps) (h3 : F a ∨ (b = true ∧ NotS R.sa a)) (g1 : H c = some (.lst ws)) (g2 : RpAll R.sg R.K F H ws qs) (g3 : F c ∨ (b = true ∧ NotS R.sa c)) :
    Yl R b (Itz R.K a c) (zipP ps qs) F H := by
  intro i F' H' st sub
  have e : H' a = some (.lst vs) := by
    rcases h3 with h3 | ⟨hb, h3⟩
    · exact st.1 _ _ h1 (.inl h3)
    · exact st.2 hb _ _ h1 h3
  have e' : H' c = some (.lst ws) := by
    rcases g3 with h3 | ⟨hb, h3⟩
    · exact st.1 _ _ g1 (.inl h3)
    · exact st.2 hb _ _ g1 h3
  unfold zipP
  refine ⟨fun d hd => ?_, fun hl => ⟨vs, ws, SqL.of e, SqL.of e', by
    rw [h2.length, g2.length]
    rw [List.length_map, List.length_zip] at hl
    omega⟩⟩
  rw [List.getElem?_map] at hd
  cases q : (ps.zip qs)[i]? with
  | none => rw [q] at hd; cases hd
  | some pq =>
    rw [q] at hd
    obtain ⟨p, q'⟩ := pq
    rw [List.getElem?_zip_eq_some] at q
    obtain ⟨v, hv, r⟩ := h2.get q.1
    obtain ⟨w, hw, r'⟩ := g2.get q.2
    refine ⟨⟨vs, ws, v, w, SqL.of e, SqL.of e', hv, hw⟩, fun x H'' ⟨T, x1, y1, ex, hT, eq, f1, f2⟩ => ⟨.inr ⟨T, _, hT, eq⟩, ?_⟩⟩
    have z1 := f1 vs (SqL.of e)
    have z2 := f2 ws (SqL.of e')
    rw [hv] at z1
    rw [hw] at z2
    cases z1; cases z2
    subst ex eq
    cases Option.some.inj hd
    have k2 : Keep F H (upd H' T (.tup [v, w])) := fun b o q h => by
      have := st.1 b o q h
      rw [upd_ne (ne_of_none this hT)]
      exact this
    exact .tup SqT.new (fun z _ => by rw [hsg] at z; cases z) (.cons (r.mono k2 sub) (.cons (r'.mono k2 sub) .nil))
theorem yl_zipT (hsg : R.sg = false) {b : Bool} {a c : Addr} {vs ws : List V} {ps qs : List PyData} (h1 : SqT R.K H a vs) (h2 : RpAll R.sg R.K F H vs ps) (g1 : SqT R.K H c ws) (g2 : RpAll R.sg R.K F H ws qs) : Yl R b (RZ.ItzT R.K a c) (zipP ps qs) F H := by
  intro i F' H' st sub
  have e := st.1.sqt h1
  have e' := st.1.sqt g1
  unfold zipP
  refine ⟨fun d hd => ?_, fun hl => ⟨vs, ws, e, e', by
    rw [h2.length, g2.length]
    rw [List.length_map, List.length_zip] at hl
    omega⟩⟩
  rw [List.getElem?_map] at hd
  cases q : (ps.zip qs)[i]? with
  | none => rw [q] at hd; cases hd
  | some pq =>
    rw [q] at hd
    obtain ⟨p, q'⟩ := pq
    rw [List.getElem?_zip_eq_some] at q
    obtain ⟨v, hv, r⟩ := h2.get q.1
    obtain ⟨w, hw, r'⟩ := g2.get q.2
    refine ⟨⟨vs, ws, v, w, e, e', hv, hw⟩, fun x H'' ⟨T, x1, y1, ex, hT, eq, f1, f2⟩ => ⟨.inr ⟨T, _, hT, eq⟩, ?_⟩⟩
    have z1 := f1 vs e
    have z2 := f2 ws e'
    rw [hv] at z1
    rw [hw] at z2
    cases z1; cases z2
    subst ex eq
    cases Option.some.inj hd
    have k2 : Keep F H (upd H' T (.tup [v, w])) := fun b o q h => by
      have := st.1 b o q h
      rw [upd_ne (ne_of_none this hT)]
      exact this
    exact .tup SqT.new (fun z _ => by rw [hsg] at z; cases z) (.cons (r.mono k2 sub) (.cons (r'.mono k2 sub) .nil))
end
section
variable {Φ : Nat → List D → (D → Prop) → (Nat → Prop) → Prop} {exN : Nat → Str} {dr : Nat → Nat}
variable {X : Cx} {R : RT} {z : Pz} {Ed : Nat → Prop} {tg e l r : Expr} {es : List Expr} {a b c : C} {pos p : Pos}
theorem len_le {sg : Bool} {K : PySem.W.Frag} {F : Addr → Prop} {H : Hp} {vs : List V} {ps : List PyData} (h : vs.length ≤ sizeLine) (r : RpAll sg K F H vs ps) : (ps.map D.py).length ≤ manyD := by
  rw [List.length_map, ← r.length]
  exact Nat.le_trans h (by decide)
/-- a value's items; frozen ones, for a loop -/
theorem nd_iseq (hK : X.K = R.K) (hc : cntC0 c = false) (ha : PE X e (TEx Φ exN dr R (rlD R) Ed c)) : PI X tg e (TIx Φ exN dr R false Ed c) :=
  PIw (pi_seq ha) fun σ H K ⟨n, F, ρ, Qd, E, hn, hw, hi, k⟩ => ⟨n, F, ρ, Qd, E, hn, hw, fun d v F1 H1 q x r => by
    obtain ⟨ds, e1⟩ := hi d q
    rw [hK]
    cases d with
    | py p =>
      cases p with
      | list ps =>
        cases r with
        | lst h1 h2 h3 => exact .inl ⟨_, rfl, ⟨_, SqL.of h1⟩, fun hz => k _ _ _ F1 H1 q rfl x (yl_list h1 h3 (.inl h2)) (fun _ => len_le (hz _ (SqL.of h1)) h3)⟩
      | tuple ps =>
        cases r with
        | tup h1 _ h2 => exact .inr ⟨_, rfl, ⟨_, h1⟩, fun hz => k _ _ _ F1 H1 q rfl x (yl_tup h1 h2) (fun _ => len_le (hz _ h1) h2)⟩
      | _ => cases e1
    | args ds => exact r.elim
    | _ => cases e1⟩
/-- a value's items, within a comprehension: a slot's own list too -/
theorem nd_iseqB (hK : X.K = R.K) (hc : cntC0 c = false) (ha : PE X e (TEx Φ exN dr R (rlB R) Ed c)) : PI X tg e (TIx Φ exN dr R true Ed c) :=
  PIw (pi_seq ha) fun σ H K ⟨n, F, ρ, Qd, E, hn, hw, hi, k⟩ => ⟨n, F, ρ, Qd, E, hn, hw, fun d v F1 H1 q x r => by
    obtain ⟨ds, e1⟩ := hi d q
    rw [hK]
    cases d with
    | py p =>
      cases p with
      | list ps =>
        obtain ⟨a, vs, rfl, h1, h2, h3⟩ := RB.list x.env r
        exact .inl ⟨_, rfl, ⟨_, SqL.of h1⟩, fun hz => k _ _ _ F1 H1 q rfl x (yl_list h1 h3 (.inr ⟨rfl, h2⟩)) (fun _ => len_le (hz _ (SqL.of h1)) h3)⟩
      | tuple ps =>
        obtain ⟨a, vs, rfl, h1, h2⟩ := RB.tuple r
        exact .inr ⟨_, rfl, ⟨_, h1⟩, fun hz => k _ _ _ F1 H1 q rfl x (yl_tup h1 h2) (fun _ => len_le (hz _ h1) h2)⟩
      | _ => cases e1
    | args ds => rcases r with r | ⟨_, _, _, h, _⟩ <;> first | exact r.elim | cases h
    | _ => cases e1⟩
/-- a written list -/
theorem nd_ilst (hK : X.K = R.K) {bb : Bool} (ha : PA X es (TAx Φ exN dr R (rlD R) Ed a)) : PI X tg (.List es pos) (TIx Φ exN dr R bb Ed (.lst a)) :=
  PIw (pi_list (pe_lst ha)) fun σ H K ⟨n, F, ρ, Qd, E, hn, hw, hi, k⟩ => by
    simp only [wp] at hw
    simp only [drw] at hn k
    refine ⟨n, F, ρ, _, E, hn, hw, fun ds vs F1 H1 q1 x1 r1 hl => ?_⟩
    obtain ⟨ps, e1, e2, q⟩ := q1
    have hr := RA.pys r1.ra e1
    have hpl : ∀ {ds : List D} {ps : List PyData}, pysD ds = some ps → ps.length = ds.length := by
      intro ds
      induction ds with
      | nil => intro ps e; simp only [pysD, Option.some.injEq] at e; subst e; rfl
      | cons d ds ih =>
        intro ps e
        cases d with
        | py p =>
          simp only [pysD] at e
          cases q : pysD ds with
          | none => rw [q] at e; cases e
          | some qs =>
            rw [q] at e
            simp only [Option.map_some, Option.some.injEq] at e
            subst e
            rw [List.length_cons, List.length_cons, ih q]
        | _ => simp [pysD] at e
    refine ⟨by rw [hr.length]; exact e2, fun p hp => ⟨p, rfl, ⟨vs, SqL.of upd_same⟩, ?_⟩⟩
    have x2 := x1.trans (Nxt.upd x1.env hp (o := .lst vs))
    have hn2 := x1.env.newL hp hr
    have hp0 : H p = none := x1.ext.fresh x1.env.st hp
    have E2 : Nxt R (n + drw dr a) σ ρ F H (fun b => F1 b ∨ b = p) (upd H1 p (.lst vs)) := ⟨x2.env.freeze (by rw [upd_same]; exact fun z => (nomatch z)) (notS_of E.st hp0) (E.h0 hp0) (E.ownH hp0), x2.ext, fun b hb => .inl (x2.sub b hb), fun b hb => hb.elim (x2.nw b) fun z => .inr (z ▸ hp0)⟩
    rw [hK]
    refine k _ _ _ _ _ q rfl E2 (yl_list upd_same (hr.mono (x1.env.keep (Nxt.upd x1.env hp).ext) fun _ h => .inl h) (.inl (.inr rfl))) fun z => ?_
    rw [List.length_map, hpl e1]
    have z : cntC0 (.lst a) = true := by
      have e : cntC (.lst a) = (cntC0 (.lst a) || false) := rfl
      rw [e, Bool.or_false] at z
      exact z
    simp only [cntC0] at z
    split at z
    · rename_i l0 e0
      rw [hl l0 e0]
      exact of_decide_eq_true z
    · cases z
theorem nd_irng1 (hg : Gl X "range") (hm : X.mg "range" = none) (hs : isStar e = false) {bb : Bool} (ha : PA X [e] (TAx Φ exN dr R (rlD R) Ed a)) (hl1 : lenC a = some 1) : PI X tg (.Call (.Name "range" p) [e] [] pos) (TIx Φ exN dr R bb Ed (.rng a)) :=
  PIw (pi_range1 hg hm ha (each_plain hs)) fun σ H K ⟨n, F, ρ, Qd, E, hn, hw, hi, k⟩ => by
    simp only [wp] at hw
    simp only [drw] at hn k
    refine ⟨n, F, ρ, _, E, hn, hw, fun ds vs F1 H1 q1 x1 r1 hl => ?_⟩
    have hl := hl 1 hl1
    match ds, hl with
    | [d], _ =>
      obtain ⟨v, rfl, r⟩ := ra1 r1
      simp only [rngD] at q1
      split at q1
      · rename_i hi' heq
        cases heq
        cases (RB.int (.inl r))
        refine ⟨_, rfl, q1.1.1, q1.1.2, ?_⟩
        have y : Yl R bb (Itr 0 (hi' - 0).toNat) (rangeD 0 hi') F1 H1 := yl_range
        rw [Int.sub_zero] at y
        refine k _ _ _ F1 H1 q1.2 rfl x1 y fun _ => ?_
        unfold rangeD manyD
        rw [List.length_map, List.length_range]
        have := q1.1.2
        omega
      · rename_i heq; cases heq
      · rename_i heq; cases heq
      · exact q1.elim
theorem nd_irng2 (hg : Gl X "range") (hm : X.mg "range" = none) {e2 : Expr} (hs : isStar e = false) (hs2 : isStar e2 = false) {bb : Bool} (ha : PA X [e, e2] (TAx Φ exN dr R (rlD R) Ed a)) (hl1 : lenC a = some 2) : PI X tg (.Call (.Name "range" p) [e, e2] [] pos) (TIx Φ exN dr R bb Ed (.rng a)) :=
  PIw (pi_range2 hg hm ha (by rw [each_plain hs, each_plain hs2]; rfl) (each_plain hs2)) fun σ H K ⟨n, F, ρ, Qd, E, hn, hw, hi, k⟩ => by
    simp only [wp] at hw
    simp only [drw] at hn k
    refine ⟨n, F, ρ, _, E, hn, hw, fun ds vs F1 H1 q1 x1 r1 hl => ?_⟩
    have hl := hl 2 hl1
    match ds, hl with
    | [d, d2], _ =>
      obtain ⟨v, w, rfl, r, r2⟩ := ra2 r1
      simp only [rngD] at q1
      split at q1
      · rename_i heq; cases heq
      · rename_i lo hi' heq
        cases heq
        cases (RB.int (.inl r)); cases (RB.int (.inl r2))
        refine ⟨_, _, rfl, q1.1, ?_⟩
        refine k _ _ _ F1 H1 q1.2 rfl x1 yl_range fun _ => ?_
        unfold rangeD manyD
        rw [List.length_map, List.length_range]
        have := q1.1
        omega
      · rename_i heq; cases heq
      · exact q1.elim
theorem rsize3 {i j c : Int} (hc : 0 < c) : Builtin.Range.rangeSize i j c = (((j - i + c - 1) / c).toNat : Nat) := by
  unfold Builtin.Range.rangeSize
  rw [if_pos hc]
  split
  · rename_i h
    have e : (j - i + c - 1) / c = (j - i - 1) / c + 1 := by
      rw [show j - i + c - 1 = (j - i - 1) + c * 1 by omega, Int.add_mul_ediv_left _ _ (by omega)]
    have h0 : 0 ≤ (j - i - 1) / c := Int.ediv_nonneg (by omega) (by omega)
    rw [e]
    omega
  · rename_i h
    have := Int.ediv_lt_of_lt_mul hc (show j - i + c - 1 < 1 * c by omega)
    omega
theorem rstep3 {i j c : Int} (hc : 0 < c) (hb : i < j) : (j - i + c - 1) / c ≤ j - i := by
  refine Int.ediv_le_of_le_mul hc ?_
  have : 0 ≤ (j - i - 1) * (c - 1) := Int.mul_nonneg (by omega) (by omega)
  have e : (j - i - 1) * (c - 1) = (j - i) * c - (j - i) - c + 1 := by
    rw [Int.sub_mul, Int.mul_sub, Int.mul_sub]; omega
  omega
theorem rstep0 {i j c : Int} (hc : 0 < c) (hb : ¬ i < j) : (j - i + c - 1) / c ≤ 0 := by
  have := Int.ediv_lt_of_lt_mul hc (show j - i + c - 1 < 1 * c by omega)
  omega
theorem rstepB {i j c : Int} (ha : -(2 ^ 62) ≤ i) (hb' : j < 2 ^ 62) (hc : 0 < c) : (j - i + c - 1) / c < 2 ^ 63 := by
  by_cases h : i < j
  · have := rstep3 hc h; omega
  · have := rstep0 hc h; omega
theorem rsmall3 {i j c : Int} (ha : -(2 ^ 62) ≤ i) (ha' : i < 2 ^ 62) (hb : -(2 ^ 62) ≤ j) (hb' : j < 2 ^ 62) (hc : 0 < c) (hc' : c < 2 ^ 30) : Builtin.Range.small i j c = true := by
  have e := rsize3 (i := i) (j := j) hc
  have b := rstepB ha hb' hc
  unfold Builtin.Range.small
  rw [e]
  generalize (j - i + c - 1) / c = n at *
  simp only [Builtin.Range.rangeFitsLong, Bool.and_eq_true, Bool.or_eq_true, decide_eq_true_eq, beq_iff_eq, show c > 0 from hc, if_true]
  omega
theorem yl_range3 {R : RT} {F : Addr → Prop} {H : Hp} {b : Bool} {lo hi st : Int} : Yl R b (Itc lo st ((hi - lo + st - 1) / st).toNat) (range3D lo hi st) F H := by
  intro i F' H' stt sub
  unfold range3D
  refine ⟨fun d hd => ?_, fun hl => by show ((hi - lo + st - 1) / st).toNat ≤ i; rw [List.length_map, List.length_range] at hl; exact hl⟩
  rw [List.getElem?_map] at hd
  cases q : (List.range ((hi - lo + st - 1) / st).toNat)[i]? with
  | none => rw [q] at hd; cases hd
  | some j =>
    rw [q] at hd
    obtain ⟨hi', e⟩ := List.getElem?_eq_some_iff.mp q
    rw [List.getElem_range] at e
    subst e
    refine ⟨by show i < ((hi - lo + st - 1) / st).toNat; rw [List.length_range] at hi'; exact hi', fun x H'' ⟨e1, e2⟩ => ⟨.inl e1, ?_⟩⟩
    cases Option.some.inj hd
    subst e2
    exact .int _
theorem nd_irng3 (hg : Gl X "range") (hm : X.mg "range" = none) {e2 e3 : Expr} (hs : isStar e = false) (hs2 : isStar e2 = false) (hs3 : isStar e3 = false) {bb : Bool} (ha : PA X [e, e2, e3] (TAx Φ exN dr R (rlD R) Ed a)) (hl1 : lenC a = some 3) : PI X tg (.Call (.Name "range" p) [e, e2, e3] [] pos) (TIx Φ exN dr R bb Ed (.rng a)) :=
  PIw (pi_range3 hg hm ha (by rw [each_plain hs, each_plain hs2, each_plain hs3]) (none_star (es := [e2, e3]) (by rw [List.all_cons, List.all_cons, hs2, hs3]; rfl))) fun σ H K ⟨n, F, ρ, Qd, E, hn, hw, hi, k⟩ => by
    simp only [wp] at hw
    simp only [drw] at hn k
    refine ⟨n, F, ρ, _, E, hn, hw, fun ds vs F1 H1 q1 x1 r1 hl => ?_⟩
    have hl := hl 3 hl1
    match ds, hl with
    | [d, d2, d3], _ =>
      obtain ⟨v, w, u, rfl, r, r2, r3⟩ := ra3 r1
      simp only [rngD] at q1
      split at q1
      · rename_i heq; cases heq
      · rename_i heq; cases heq
      · rename_i lo hi' st heq
        cases heq
        cases (RB.int (.inl r)); cases (RB.int (.inl r2)); cases (RB.int (.inl r3))
        obtain ⟨⟨b1, b2, b3, b4, b5, b6⟩, q1⟩ := q1
        refine ⟨_, _, _, _, rfl, ⟨by omega, by omega, rsmall3 b1 b2 b3 b4 b5 b6, rsize3 b5⟩, ?_⟩
        refine k _ _ _ F1 H1 q1 rfl x1 yl_range3 fun _ => ?_
        unfold range3D manyD
        rw [List.length_map, List.length_range]
        have b := rstepB (c := st) b1 b4 b5
        omega
      · exact q1.elim
theorem nd_izip (hsg : R.sg = false) (hK : X.K = R.K) (hg : Gl X "zip") (hm : X.mg "zip" = none) {e2 : Expr} {elts : List Expr} {kk : Nat} {tpos : Pos} (hs : isStar e = false) (hs2 : isStar e2 = false) {rl : Rl} {bb : Bool} (hrl : RlOk R rl) (hcase : (bb = false ∧ rl = rlD R) ∨ (bb = true ∧ rl = rlB R))
    (ha : PE X e (TEx Φ exN dr R rl Ed a)) (hb : PE X e2 (TEx Φ exN dr R rl Ed b)) : PI X (.Tuple elts kk tpos) (.Call (.Name "zip" p) [e, e2] [] pos) (TIx Φ exN dr R bb Ed (.zip a b)) :=
  PIw (RZ.pi_zipA hg hm (pa_cons ha (pa_cons hb pa_nil (each_plain hs2)) (each_plain hs)) (each_plain hs) (none_star (es := [e2]) (by rw [List.all_cons, hs2]; rfl))) fun σ H K ⟨n, F, ρ, Qd, E, hn, hw, hi, k⟩ => by
    simp only [wp] at hw
    simp only [drw] at hn k
    refine ⟨n, F, ρ, _, E, by omega, hw, fun d v F1 H1 q1 x1 r1 => ?_⟩
    refine ⟨_, F1, ρ, _, x1.env, by omega, q1, fun d2 w F2 H2 q2 x2 r2 => ?_⟩
    have x12 : Nxt R (n + (drw dr a + drw dr b)) σ ρ F H F2 H2 := (x1.trans x2).mono (by omega)
    have r1' : rl H F2 H2 v d := hrl x1.env x2.ext x2.sub r1
    have lst : ∀ {v : V} {ps : List PyData} {Ha : Hp}, rl Ha F2 H2 v (.L ps) → ∃ a vs, v = V.ref a ∧ H2 a = some (.lst vs) ∧ (F2 a ∨ (bb = true ∧ NotS R.sa a)) ∧ RpAll R.sg R.K F2 H2 vs ps := fun {v ps Ha} h => by
      rcases hcase with ⟨h1, h2⟩ | ⟨h1, h2⟩
      · subst h2
        cases h with
        | lst h1 h2 h3 => exact ⟨_, _, rfl, h1, .inl h2, h3⟩
      · subst h2
        obtain ⟨a, vs, e, h2, h3, h4⟩ := RB.list x2.env h
        exact ⟨a, vs, e, h2, .inr ⟨h1, h3⟩, h4⟩
    have tup : ∀ {v : V} {ps : List PyData} {Ha : Hp}, rl Ha F2 H2 v (.T ps) → ∃ a vs, v = V.ref a ∧ SqT R.K H2 a vs ∧ RpAll R.sg R.K F2 H2 vs ps := fun {v ps Ha} h => by
      rcases hcase with ⟨h1, h2⟩ | ⟨h1, h2⟩
      · subst h2
        exact RB.tuple (.inl h)
      · subst h2
        exact RB.tuple h
    rw [hK]
    split at q2
    · rename_i xs ys
      obtain ⟨a1, vs, rfl, h1, h2, h3⟩ := lst r1'
      obtain ⟨a2, ws, rfl, g1, g2, g3⟩ := lst r2
      exact ⟨a1, a2, vs, ws, rfl, .inl ⟨SqL.of h1, SqL.of g1, k _ _ _ F2 H2 q2 rfl x12 (yl_zipL hsg h1 h3 h2 g1 g3 g2) (fun z => by cases z)⟩⟩
    · rename_i xs ys
      obtain ⟨a1, vs, rfl, h1, h3⟩ := tup r1'
      obtain ⟨a2, ws, rfl, g1, g3⟩ := tup r2
      exact ⟨a1, a2, vs, ws, rfl, .inr ⟨h1, g1, k _ _ _ F2 H2 q2 rfl x12 (yl_zipT hsg h1 h3 g1 g3) (fun z => by cases z)⟩⟩
    · exact q2.elim
/-! ### targets -/
def gvs : C → List Nat
  | .var i => [i]
  | .tup as => gvs as
  | .cons a r => gvs a ++ gvs r
  | _ => []
def lenG : C → Nat
  | .cons _ r => lenG r + 1
  | _ => 0
def TGx (R : RT) (c : C) : TG := fun v σ H Q => ∃ n F ρ d K, EnvOk R n F σ H ρ ∧ RD R F H v d ∧ bindG c d ρ K ∧ ∀ σ' ρ', K ρ' → EnvOk R n F σ' H ρ' → (∀ i : Nat, i ∉ gvs c → σ'[i]? = σ[i]?) → σ'.length = σ.length → Q σ' H
def TGsx (R : RT) (c : C) : TGs := fun vs σ H Q => ∃ n F ρ ds K, EnvOk R n F σ H ρ ∧ RA R F H vs ds ∧ bindG c (.args ds) ρ K ∧ ∀ σ' ρ', K ρ' → EnvOk R n F σ' H ρ' → (∀ i : Nat, i ∉ gvs c → σ'[i]? = σ[i]?) → σ'.length = σ.length → Q σ' H
theorem EnvOk.set {n : Nat} {F : Addr → Prop} {σ : St} {H : Hp} {ρ : Ev} (E : EnvOk R n F σ H ρ) {v : V} {d : D} (r : RD R F H v d) (i : Nat) : EnvOk R n F (σ.set i (some v)) H (ρ.set i (some (.sh d))) := by
  have key : ∀ (j : Nat) (s : Sl), (ρ.set i (some (Sl.sh d)))[j]? = some (some s) → (j = i ∧ s = .sh d) ∨ (j ≠ i ∧ ρ[j]? = some (some s)) := fun j s h => by
    by_cases e : j = i
    · subst e
      by_cases hl : j < ρ.length
      · rw [List.getElem?_set_self hl] at h
        cases h
        exact .inl ⟨rfl, rfl⟩
      · rw [List.getElem?_eq_none (by rw [List.length_set]; omega)] at h
        cases h
    · rw [List.getElem?_set_ne (Ne.symm e)] at h
      exact .inr ⟨e, h⟩
  refine ⟨E.ext, E.st, E.s0, E.fs, E.fr, E.new, by rw [List.length_set, List.length_set]; exact E.len, fun j s h => ?_, fun j k a ps qs h1 h2 h3 h4 => ?_⟩
  · rcases key j s h with ⟨e1, e2⟩ | ⟨e1, e2⟩
    · subst e1 e2
      refine ⟨v, ?_, r⟩
      have hl : j < σ.length := by
        rw [← E.len]
        have := (List.getElem?_eq_some_iff.mp h).1
        rw [List.length_set] at this
        exact this
      rw [List.getElem?_set_self hl]
    · have q := E.slot j s e2
      cases s with
      | sh d' =>
        obtain ⟨v', h1, h2⟩ := q
        exact ⟨v', by rw [List.getElem?_set_ne (Ne.symm e1)]; exact h1, h2⟩
      | ow ps =>
        obtain ⟨a, vs, h1, h2⟩ := q
        exact ⟨a, vs, by rw [List.getElem?_set_ne (Ne.symm e1)]; exact h1, h2⟩
  · rcases key j _ h1 with ⟨_, e⟩ | ⟨e1, e2⟩
    · cases e
    · rcases key k _ h2 with ⟨_, e⟩ | ⟨g1, g2⟩
      · cases e
      · rw [List.getElem?_set_ne (Ne.symm e1)] at h3
        rw [List.getElem?_set_ne (Ne.symm g1)] at h4
        exact E.apart j k a ps qs e2 g2 h3 h4
theorem nd_gname {i : Nat} {x : Str} (hN : X.N.Nodup) (hi : X.N[i]? = some x) (hx : Loc X.env.scope x) (hf : X.fn x = true ∨ X.env.scope.names.lookup x = some .local) : PG X (.Name x pos) (TGx R (.var i)) :=
  PGw (pg_name hN hi hx hf) fun v σ H Q ⟨n, F, ρ, d, K, E, r, hb, k⟩ => by
    refine k _ _ (by simpa [bindG] using hb) (E.set r i) (fun j hj => ?_) (by rw [List.length_set])
    rw [List.getElem?_set_ne]
    intro e
    exact hj (by rw [e]; exact List.mem_singleton_self _)
theorem nd_gsnil : PGs X [] (TGsx R .nil) := ⟨fun pins s σ H vs us Q I r ⟨n, F, ρ, ds, K, E, ra, hb, k⟩ => pgs_nil.run pins s σ H vs us Q I r (by
  cases ds with
  | nil =>
    cases vs with
    | nil => exact ⟨rfl, k σ ρ (by simpa [bindG] using hb) E (fun _ _ => rfl) rfl⟩
    | cons v vs => exact ra.elim
  | cons d ds => simp [bindG] at hb)⟩
theorem assign_each {e : Expr} {es : List Expr} {env : Env} (h : isStar e = false) : assignEach (e :: es) env = (false, assign e env) :: assignEach es env := by
  cases e <;> first | rfl | cases h
theorem nd_gscons (hs : isStar e = false) (ha : PG X e (TGx R a)) (hb : PGs X es (TGsx R b)) : PGs X (e :: es) (TGsx R (.cons a b)) := ⟨fun pins s σ H vs us Q I r ⟨n, F, ρ, ds, K, E, ra, hbd, k⟩ => (pgs_cons ha hb (by rw [assign_each hs]; rfl)).run pins s σ H vs us Q I r (by
  cases ds with
  | nil => simp [bindG] at hbd
  | cons d ds =>
    cases vs with
    | nil => exact ra.elim
    | cons v vs =>
      simp only [bindG] at hbd
      refine ⟨v, vs, rfl, n, F, ρ, d, _, E, ra.1, hbd, fun σ1 ρ1 q1 E1 u1 l1 => ?_⟩
      refine ⟨n, F, ρ1, ds, K, E1, ra.2, q1, fun σ2 ρ2 q2 E2 u2 l2 => k σ2 ρ2 q2 E2 (fun i hi => ?_) (l2.trans l1)⟩
      rw [show gvs (.cons a b) = gvs a ++ gvs b from rfl, List.mem_append, not_or] at hi
      rw [u2 i hi.2, u1 i hi.1])⟩
theorem assign_len {env : Env} : ∀ {es : List Expr}, es.all (fun e => !isStar e) = true → (assignEach es env).length = es.length ∧ (assignEach es env).findIdx? (·.1) = none
  | [], _ => ⟨rfl, rfl⟩
  | e :: es, h => by
    rw [List.all_cons, Bool.and_eq_true, Bool.not_eq_true'] at h
    obtain ⟨h1, h2⟩ := assign_len (env := env) h.2
    rw [assign_each h.1]
    refine ⟨by rw [List.length_cons, List.length_cons, h1], ?_⟩
    rw [List.findIdx?_cons, h2]
    rfl
theorem bind_ex : ∀ {c : C} {d : D} {ρ : Ev} {K : Ev → Prop}, bindG c d ρ K → ∃ ρ1, K ρ1 := by
  intro c
  induction c with
  | var i => intro d ρ K h; exact ⟨_, by simpa [bindG] using h⟩
  | tup as ih =>
    intro d ρ K h
    unfold bindG at h
    split at h <;> first
      | (rename_i e; cases e; done)
      | skip
    · rename_i e1; cases e1; exact ih h
    · exact h.elim
  | nil =>
    intro d ρ K h
    unfold bindG at h
    split at h <;> first
      | (rename_i e; cases e; done)
      | exact ⟨_, h⟩
      | exact h.elim
  | cons a r iha ihr =>
    intro d ρ K h
    unfold bindG at h
    split at h <;> first
      | (rename_i e; cases e; done)
      | skip
    · rename_i e1
      cases e1
      obtain ⟨ρ1, h1⟩ := iha h
      exact ihr h1
    · exact h.elim
  | _ =>
    intro d ρ K h
    simp [bindG] at h
def isGs : C → Bool
  | .nil => true
  | .cons _ r => isGs r
  | _ => false
theorem bind_len : ∀ {c : C} {ds : List D} {ρ : Ev} {K : Ev → Prop}, isGs c = true → bindG c (.args ds) ρ K → ds.length = lenG c := by
  intro c
  induction c with
  | nil =>
    intro ds ρ K _ h
    cases ds with
    | nil => rfl
    | cons d ds => simp [bindG] at h
  | cons a r iha ihr =>
    intro ds ρ K g h
    cases ds with
    | nil => simp [bindG] at h
    | cons d ds =>
      simp only [bindG] at h
      obtain ⟨ρ1, h1⟩ := bind_ex h
      rw [List.length_cons, ihr g h1]
      rfl
  | _ => intro ds ρ K g h; cases g
theorem bind_tup {d : D} {ρ : Ev} {K : Ev → Prop} (h : bindG (.tup a) d ρ K) : ∃ ps, d = .T ps ∧ bindG a (.args (ps.map D.py)) ρ K := by
  unfold bindG at h
  split at h <;> first
    | (rename_i e; cases e; done)
    | skip
  · rename_i e1; cases e1; exact ⟨_, rfl, h⟩
  · exact h.elim
theorem nd_gtup (hK : X.K = R.K) (hc : X.calm = true) {kk : Nat} (hs : es.all (fun e => !isStar e) = true) (hl : lenG a = es.length) (hg : isGs a = true) (h : PGs X es (TGsx R a)) : PG X (.Tuple es kk pos) (TGx R (.tup a)) :=
  PGw (pg_tup hc h (assign_len hs).1 (assign_len hs).2) fun v σ H Q ⟨n, F, ρ, d, K, E, r, hb, k⟩ => by
    obtain ⟨ps, rfl, hb⟩ := bind_tup hb
    cases r with
    | tup h1 _ h2 =>
      refine ⟨_, _, rfl, hK ▸ h1, ?_, n, F, ρ, _, K, E, h2.ra, hb, k⟩
      have := bind_len hg hb
      rw [List.length_map] at this
      rw [h2.length, this, hl]
end
end Y

/-! part Y8 -/
set_option Elab.async false
set_option linter.all false
set_option maxRecDepth 100000
set_option maxHeartbeats 1000000
/-! Y8: comprehensions. -/
namespace Y
open PySem PySem.Spec
open PyProof.Rows hiding St
open L2
section
variable {R : RT} {F F' : Addr → Prop} {H H' : Hp} {σ : St} {ρ : Ev} {n m : Nat}
theorem wipe_both (E : EnvOk R n F σ H ρ) : ∀ vs : List Nat, EnvOk R n F (wipe σ vs) H (wipeE ρ vs)
  | [] => E
  | v :: vs => by
    have I := wipe_both E vs
    have key : ∀ (j : Nat) (s : Sl), ((wipeE ρ vs).set v none)[j]? = some (some s) → j ≠ v ∧ (wipeE ρ vs)[j]? = some (some s) := fun j s h => by
      by_cases e : j = v
      · subst e
        by_cases hl : j < (wipeE ρ vs).length
        · rw [List.getElem?_set_self hl] at h; cases h
        · rw [List.getElem?_eq_none (by rw [List.length_set]; omega)] at h; cases h
      · rw [List.getElem?_set_ne (Ne.symm e)] at h
        exact ⟨e, h⟩
    show EnvOk R n F ((wipe σ vs).set v none) H ((wipeE ρ vs).set v none)
    refine ⟨I.ext, I.st, I.s0, I.fs, I.fr, I.new, by rw [List.length_set, List.length_set]; exact I.len, fun j s h => ?_, fun j k a ps qs h1 h2 h3 h4 => ?_⟩
    · obtain ⟨e1, e2⟩ := key j s h
      have q := I.slot j s e2
      cases s with
      | sh d' =>
        obtain ⟨v', h1, h2⟩ := q
        exact ⟨v', by rw [List.getElem?_set_ne (Ne.symm e1)]; exact h1, h2⟩
      | ow ps =>
        obtain ⟨a, vs, h1, h2⟩ := q
        exact ⟨a, vs, by rw [List.getElem?_set_ne (Ne.symm e1)]; exact h1, h2⟩
    · obtain ⟨e1, e2⟩ := key j _ h1
      obtain ⟨g1, g2⟩ := key k _ h2
      rw [List.getElem?_set_ne (Ne.symm e1)] at h3
      rw [List.getElem?_set_ne (Ne.symm g1)] at h4
      exact I.apart j k a ps qs e2 g2 h3 h4
theorem wipe_get (σ : St) : ∀ (vs : List Nat) (i : Nat), (wipe σ vs)[i]? = if i ∈ vs then (if i < σ.length then some none else none) else σ[i]?
  | [], i => by simp [wipe]
  | v :: vs, i => by
    show ((wipe σ vs).set v none)[i]? = _
    by_cases e : i = v
    · subst e
      rw [if_pos List.mem_cons_self]
      by_cases hl : i < σ.length
      · rw [if_pos hl, List.getElem?_set_self (by rw [wipe_length]; exact hl)]
      · rw [if_neg hl, List.getElem?_eq_none (by rw [List.length_set, wipe_length]; omega)]
    · rw [List.getElem?_set_ne (Ne.symm e), wipe_get σ vs i]
      by_cases h : i ∈ vs
      · rw [if_pos h, if_pos (List.mem_cons_of_mem _ h)]
      · rw [if_neg h, if_neg (by rw [List.mem_cons, not_or]; exact ⟨e, h⟩)]
/-- what changed the block's own slots alone is gone when they are wiped -/
theorem wipe_same {σ' : St} {vs : List Nat} {us : List Nat} (hu : ∀ i ∈ us, i ∈ vs) (h : ∀ i : Nat, i ∉ us → σ'[i]? = (wipe σ vs)[i]?) (hl : σ'.length = (wipe σ vs).length) : wipe σ' vs = wipe σ vs := by
  refine List.ext_getElem? fun i => ?_
  rw [wipe_get, wipe_get]
  rw [wipe_length] at hl
  by_cases hi : i ∈ vs
  · rw [if_pos hi, if_pos hi, hl]
  · rw [if_neg hi, if_neg hi, h i (fun z => hi (hu i z)), wipe_get, if_neg hi]
theorem Nxt.aft {σ2 : St} {ρ2 : Ev} (x : Nxt R m σ2 ρ2 F H F' H') : Aft ⟨R.S, R.sa, m, H, F⟩ F H F' H' := ⟨x.ext, x.env.st, x.sub, x.env.fr, x.nw, x.env.fs⟩
/-- a list that no slot has is written -/
theorem EnvOk.updL (E : EnvOk R n F σ H ρ) {p : Addr} {vs ws : List V} (hp : H p = some (.lst vs)) (hF : ¬ F p) (h0 : R.H0 p = none) (ho : ∀ (i : Nat) (ps : List PyData), ρ[i]? = some (some (Sl.ow ps)) → σ[i]? ≠ some (some (V.ref p))) :
    EnvOk R n F σ (L2.upd H p (.lst ws)) ρ := by
  have np : ∀ b o, H b = some o → (F b ∨ solid o) → b ≠ p := fun b o q h z => by
    subst z
    rcases h with h | h
    · exact hF h
    · rw [hp] at q
      cases q
      exact h
  have k : Keep F H (L2.upd H p (.lst ws)) := fun b o q h => by
    rw [upd_ne (np b o q h)]
    exact q
  have n0 : ∀ b, R.H0 b ≠ none → b ≠ p := fun b h z => h (z ▸ h0)
  refine ⟨fun b o q hn => ?_, E.st.put (fun s b es => ⟨n0 s (E.s0.1 s b es).1, n0 b (E.s0.1 s b es).2⟩) (fun o' q => by rw [hp] at q; cases q; exact ⟨_, rfl⟩), E.s0, E.fs, fun a ha => ?_, E.new, E.len, fun i s hs => ?_, E.apart⟩
  · rw [upd_ne (n0 b (by rw [q]; exact fun z => nomatch z))]
    exact E.ext b o q hn
  · rw [upd_ne (fun z => hF (by rw [← z]; exact ha))]
    exact E.fr a ha
  · have q := E.slot i s hs
    cases s with
    | sh d =>
      obtain ⟨v, h1, h2⟩ := q
      exact ⟨v, h1, h2.mono k fun _ h => h⟩
    | ow ps =>
      obtain ⟨a, us, h1, h2, h3, h4, h5⟩ := q
      refine ⟨a, us, h1, ?_, h3.mono k fun _ h => h, h4, h5⟩
      rw [upd_ne (fun z => ho i ps hs (by rw [← z]; exact h1))]
      exact h2
end
section
variable {Φ : Nat → List D → (D → Prop) → (Nat → Prop) → Prop} {exN : Nat → Str} {dr : Nat → Nat}
variable {X : Cx} {R : RT} {z : Pz} {Ed : Nat → Prop} {tg e l r : Expr} {es : List Expr} {pos p : Pos} {el tgC src ifs : C} {own : List (Str × Nat)}
theorem mul_step {n1 nb db i len : Nat} (h : n1 + manyD * db ≤ nb) (hi : i + 1 ≤ len) (hc : db = 0 ∨ len ≤ manyD) : n1 + (i + 1) * db ≤ nb := by
  rcases hc with hc | hc
  · subst hc; simp at h ⊢; exact h
  · have : (i + 1) * db ≤ manyD * db := Nat.mul_le_mul_right _ (by omega)
    omega
/-- one turn of a comprehension -/
def stepC (Φ : Nat → List D → (D → Prop) → (Nat → Prop) → Prop) (exN : Nat → Str) (vs : List Nat) (tgC ifs el : C) (ρ : Ev) (d : D) (K : List PyData → Prop) : Prop :=
  bindG tgC d (wipeE ρ vs) fun ρ1 => wp Φ exN ifs ρ1 (fun t => match t with
          | .py (.bool k) => if k = true then wp Φ exN el ρ1 (fun y => match y with | .py p => K [p] | _ => False) noE else K []
          | _ => False) noE
theorem wp_comp {ρ : Ev} {Q : D → Prop} {E : Nat → Prop} (h : wp Φ exN (.comp own el tgC src ifs) ρ Q E) : wp Φ exN src ρ (fun x => match itemsD x with
      | some ds => compW (stepC Φ exN (own.map (·.2)) tgC ifs el ρ) ds [] fun out => Q (.L out)
      | none => False) E := h
theorem comp_read {σ : St} {H : Hp} {Q : VK} (hgv : ∀ i ∈ gvs tgC, i ∈ own.map (·.2)) (hcn : drw dr ifs + drw dr el = 0 ∨ cntC src = true) (h : TEx Φ exN dr R (rlN R) Ed (.comp own el tgC src ifs) σ H Q) :
    tLc (TIx Φ exN dr R true Ed src) (TGx R tgC) (TTx Φ exN dr R noE ifs) (TEx Φ exN dr R (rlD R) noE el) (own.map (·.2)) σ H Q := by
  obtain ⟨n, F, ρ, Qd, E, hn, hw, k⟩ := h
  have hw := wp_comp hw
  simp only [drw] at hn k
  refine ⟨n, F, ρ, _, E, by omega, hw, fun d q => ?_, fun d ds J F1 H1 q1 hi x1 yl cnt => ?_⟩
  · cases e : itemsD d with
    | none => rw [e] at q; exact q.elim
    | some ds => exact ⟨ds, rfl⟩
  rw [hi] at q1
  intro L hL
  have hcn' : drw dr ifs + drw dr el = 0 ∨ ds.length ≤ manyD := hcn.imp id cnt
  generalize hstep : stepC Φ exN (own.map (·.2)) tgC ifs el ρ = step at q1
  generalize hn1 : n + drw dr src = n1 at x1
  generalize hdb : drw dr ifs + drw dr el = db at hcn' hn k
  have hn2 : n1 + manyD * db ≤ R.nb := by omega
  refine ⟨fun i m H2 => ∃ F' acc ps n', i ≤ ds.length ∧ m = ds.length - i ∧ n' ≤ n1 + i * db ∧ Nxt R n' σ ρ F1 H1 F' H2 ∧ H2 L = some (.lst acc) ∧ ¬ F' L ∧ RpAll R.sg R.K F' H2 acc ps ∧ compW step (ds.drop i) ps fun out => Qd (.L out),
    ⟨ds.length, F1, [], [], n1, Nat.zero_le _, rfl, by simp, Nxt.upd x1.env hL, upd_same, fun z => x1.env.fr L z hL, .nil, q1⟩, ?_⟩
  rintro i m H2 ⟨F', acc, ps, n', hil, rfl, hn', nx, hLH, hLF, hr, hq⟩
  have hst : Stay R true F1 H1 H2 := ⟨x1.env.keep nx.ext, fun _ => nx.ext⟩
  by_cases hlt : i < ds.length
  · refine .inr ⟨((yl i F' H2 hst nx.sub).1 ds[i] (List.getElem?_eq_getElem hlt)).1, fun H' => ∃ F2 acc' ps' n'', n'' ≤ n1 + (i + 1) * db ∧ Nxt R n'' σ ρ F1 H1 F2 H' ∧ H' L = some (.lst acc') ∧ ¬ F2 L ∧ RpAll R.sg R.K F2 H' acc' ps' ∧ compW step (ds.drop (i + 1)) ps' fun out => Qd (.L out), fun H' ⟨F2, acc', ps', n'', h1, h2, h3, h4, h5, h6⟩ => ⟨ds.length - (i + 1), by omega, F2, acc', ps', n'', hlt, rfl, h1, h2, h3, h4, h5, h6⟩, fun x H3 hy => ?_⟩
    obtain ⟨hcase, rd⟩ := ((yl i F' H2 hst nx.sub).1 ds[i] (List.getElem?_eq_getElem hlt)).2 x H3 hy
    have x3 : Nxt R n' σ ρ F' H2 F' H3 := by
      rcases hcase with e | ⟨p, vs, hp, e⟩
      · subst e; exact .refl nx.env
      · subst e; exact Nxt.upd nx.env hp
    rw [List.drop_eq_getElem_cons hlt] at hq
    have hq : step ds[i] (fun new => ps.length + new.length ≤ sizeLine ∧ compW step (ds.drop (i + 1)) (ps ++ new) fun out => Qd (.L out)) := hq
    have hq : stepC Φ exN (own.map (·.2)) tgC ifs el ρ ds[i] (fun new => ps.length + new.length ≤ sizeLine ∧ compW step (ds.drop (i + 1)) (ps ++ new) fun out => Qd (.L out)) := by rw [hstep]; exact hq
    unfold stepC at hq
    have hdiv : (i + 1) * db = i * db + db := by rw [Nat.add_mul, Nat.one_mul]
    have hms := mul_step hn2 (Nat.succ_le_of_lt hlt) hcn'
    refine ⟨n', F', wipeE ρ (own.map (·.2)), ds[i], _, wipe_both x3.env _, rd, hq, fun σ' ρ' q' E' u ul => ⟨wipe_same hgv u ul, ?_⟩⟩
    have L3 : H3 L = some (.lst acc) := x3.ext L _ hLH (notS_of x1.env.st hL)
    refine ⟨n', F', ρ', _, E', by omega, q', fun dd F5 H5 q5 x5 => ?_⟩
    have up : ∀ {m : Nat} {F6 : Addr → Prop} {H6 : Hp}, Nxt R m σ' ρ' F' H3 F6 H6 → Nxt R m σ ρ F1 H1 F6 H6 ∧ H6 L = some (.lst acc) ∧ ¬ F6 L ∧ RpAll R.sg R.K F6 H6 acc ps := fun {m F6 H6} x6 => by
      have y6 := x3.env.after x6.aft
      refine ⟨(nx.trans x3).trans y6, x6.ext L _ L3 (notS_of x1.env.st hL), fun zz => ?_, hr.mono (nx.env.keep (x3.ext.trans x6.ext)) x6.sub⟩
      rcases x6.nw L zz with h | h
      · exact hLF h
      · rw [L3] at h; cases h
    split at q5
    · rename_i kb
      refine ⟨kb, rfl, ?_⟩
      cases kb with
      | false =>
        simp only [Bool.false_eq_true, if_false] at q5 ⊢
        obtain ⟨u1, u2, u3, u4⟩ := up x5
        refine ⟨F5, acc, ps, _, by omega, u1, u2, u3, u4, ?_⟩
        have := q5.2
        rw [List.append_nil] at this
        exact this
      | true =>
        simp only [if_true] at q5 ⊢
        refine ⟨_, F5, ρ', _, x5.env, by omega, q5, fun dy y F6 H6 q6 x6 r6 => ?_⟩
        obtain ⟨u1, u2, u3, u4⟩ := up (x5.trans x6)
        split at q6
        · rename_i pp
          have hlen := u4.length
          have hz : ps.length + 1 ≤ sizeLine := q6.1
          refine ⟨acc, u2, by omega, F6, acc ++ [y], ps ++ [pp], n' + drw dr ifs + drw dr el, by omega, ?_, upd_same, u3, ?_, q6.2⟩
          · have ho : ∀ (i : Nat) (ps : List PyData), ρ[i]? = some (some (Sl.ow ps)) → σ[i]? ≠ some (some (V.ref L)) := x1.env.ownH hL
            have E6 := u1.env.updL (ws := acc ++ [y]) u2 u3 (x1.env.h0 hL) ho
            exact ⟨E6, fun b o q _ => by
              rw [upd_ne (ne_of_none q hL)]
              exact u1.ext b o q (by assumption), u1.sub, u1.nw⟩
          · have k6 : Keep F6 H6 (upd H6 L (.lst (acc ++ [y]))) := fun b o q h => by
              refine (upd_ne ?_).trans q
              intro z
              subst z
              rcases h with h | h
              · exact u3 h
              · rw [u2] at q; cases q; exact h
            exact (u4.mono k6 fun _ h => h).append (.cons (Rp.mono k6 (fun _ h => h) r6) .nil)
        · exact q6.elim
    · exact q5.elim
  · have e : i = ds.length := by omega
    subst e
    refine .inl ⟨(yl _ F' H2 hst nx.sub).2 (Nat.le_refl _), ?_⟩
    rw [List.drop_length] at hq
    have hle : ds.length * db ≤ manyD * db := by
      rcases hcn' with h | h
      · rw [h]; simp
      · exact Nat.mul_le_mul_right _ h
    have hq : Qd (.L ps) := hq
    refine k (.L ps) (.ref L) F' H2 hq ((x1.trans nx).mono (by omega)) (.inr ⟨L, acc, ps, rfl, rfl, x1.ext.fresh x1.env.st hL, hLH, hLF, hr⟩)
/-- a target writes shared slots alone -/
theorem bindG_own : ∀ {tg : C} {d : D} {ρ : Ev} {K K' : Ev → Prop}, bindG tg d ρ K → (∀ ρ1, K ρ1 → (∀ (i : Nat) (ps : List PyData), ρ1[i]? = some (some (Sl.ow ps)) → i ∉ gvs tg ∧ ρ[i]? = some (some (Sl.ow ps))) → K' ρ1) → bindG tg d ρ K' := by
  intro tg
  induction tg with
  | var j =>
    intro d ρ K K' h k
    refine k _ h fun i ps e => ?_
    by_cases z : i = j
    · subst z
      by_cases hl : i < ρ.length
      · rw [List.getElem?_set_self hl] at e; cases e
      · rw [List.getElem?_eq_none (by rw [List.length_set]; omega)] at e; cases e
    · rw [List.getElem?_set_ne (Ne.symm z)] at e
      exact ⟨by show i ∉ [j]; rw [List.mem_singleton]; exact z, e⟩
  | tup as ih =>
    intro d ρ K K' h k
    cases d with
    | py p =>
      cases p with
      | tuple ps => exact ih h k
      | _ => exact absurd h (by unfold bindG; exact id)
    | _ => exact absurd h (by unfold bindG; exact id)
  | nil =>
    intro d ρ K K' h k
    cases d with
    | args ds =>
      cases ds with
      | nil => exact k _ h fun i ps e => ⟨(by intro z; cases z), e⟩
      | cons _ _ => exact absurd h (by unfold bindG; exact id)
    | _ => exact absurd h (by unfold bindG; exact id)
  | cons a r iha ihr =>
    intro d ρ K K' h k
    cases d with
    | args ds =>
      cases ds with
      | nil => exact absurd h (by unfold bindG; exact id)
      | cons d ds =>
        refine iha (K := fun ρ1 => bindG r (.args ds) ρ1 K) h fun ρ1 h1 o1 => ihr h1 fun ρ2 h2 o2 => k _ h2 fun i ps e => ?_
        obtain ⟨g1, g2⟩ := o2 i ps e
        obtain ⟨g3, g4⟩ := o1 i ps g2
        exact ⟨fun z => (List.mem_append.mp z).elim g3 g1, g4⟩
    | _ => exact absurd h (by unfold bindG; exact id)
  | _ =>
    intro d ρ K K' h k
    exact absurd h (by simp [bindG])
theorem wipeE_own {ρ : Ev} {i : Nat} {s : Sl} : ∀ {vs : List Nat}, (wipeE ρ vs)[i]? = some (some s) → i ∉ vs ∧ ρ[i]? = some (some s)
  | [], h => ⟨(by intro z; cases z), h⟩
  | v :: vs, h => by
    have h : ((wipeE ρ vs).set v none)[i]? = some (some s) := h
    by_cases z : i = v
    · subst z
      by_cases hl : i < (wipeE ρ vs).length
      · rw [List.getElem?_set_self hl] at h; cases h
      · rw [List.getElem?_eq_none (by rw [List.length_set]; omega)] at h; cases h
    · rw [List.getElem?_set_ne (Ne.symm z)] at h
      obtain ⟨h1, h2⟩ := wipeE_own h
      exact ⟨fun w => (List.mem_cons.mp w).elim z h1, h2⟩
/-- one turn of the first source -/
def stepA (Φ : Nat → List D → (D → Prop) → (Nat → Prop) → Prop) (exN : Nat → Str) (vs vs1 : List Nat) (tgC ifs src1 tg1 ifs1 el : C) (ρ : Ev) (d : D) (acc : List PyData) (K : List PyData → Prop) : Prop :=
  bindG tgC d (wipeE ρ vs) fun ρ1 => wp Φ exN ifs ρ1 (fun t => match t with
          | .py (.bool k) => if k = true then wp Φ exN src1 ρ1 (fun x1 => match itemsD x1 with
              | some ds1 => compW (stepC Φ exN vs1 tg1 ifs1 el ρ1) ds1 acc K
              | none => False) noE else K acc
          | _ => False) noE
theorem wp_comp2 {vs1 : List Nat} {tg1 src1 ifs1 : C} {ρ : Ev} {Q : D → Prop} {E : Nat → Prop} (h : wp Φ exN (.comp2 own vs1 el tgC src ifs tg1 src1 ifs1) ρ Q E) : wp Φ exN src ρ (fun x => match itemsD x with
      | some ds => compA (stepA Φ exN (own.map (·.2)) vs1 tgC ifs src1 tg1 ifs1 el ρ) ds [] fun out => Q (.L out)
      | none => False) E := h
theorem comp2_read {vs1 : List Nat} {tg1 src1 ifs1 : C} {σ : St} {H : Hp} {Q : VK} (hgv : ∀ i ∈ gvs tgC, i ∈ own.map (·.2)) (hgv1 : ∀ i ∈ gvs tg1, i ∈ vs1) (hd : drw dr ifs + drw dr src1 + drw dr ifs1 + drw dr el = 0)
    (h : TEx Φ exN dr R (rlN R) Ed (.comp2 own vs1 el tgC src ifs tg1 src1 ifs1) σ H Q) :
    tLc2 (TIx Φ exN dr R true Ed src) (TGx R tgC) (TTx Φ exN dr R noE ifs) (TIx Φ exN dr R false noE src1) (TGx R tg1) (TTx Φ exN dr R noE ifs1) (TEx Φ exN dr R (rlD R) noE el) (own.map (·.2)) vs1 σ H Q := by
  obtain ⟨n, F, ρ, Qd, E, hn, hw, k⟩ := h
  have hw := wp_comp2 hw
  simp only [drw] at hn k
  have d1 : drw dr ifs = 0 := by omega
  have d2 : drw dr src1 = 0 := by omega
  have d3 : drw dr ifs1 = 0 := by omega
  have d4 : drw dr el = 0 := by omega
  rw [d1, d2, d3, d4] at hn k
  simp only [Nat.mul_zero, Nat.add_zero] at hn k
  refine ⟨n, F, ρ, _, E, hn, hw, fun d q => ?_, fun d ds J F1 H1 q1 hi x1 yl _ => ?_⟩
  · cases e : itemsD d with
    | none => rw [e] at q; exact q.elim
    | some ds => exact ⟨ds, rfl⟩
  rw [hi] at q1
  intro L hL
  generalize hstep : stepA Φ exN (own.map (·.2)) vs1 tgC ifs src1 tg1 ifs1 el ρ = step at q1
  generalize hn1 : n + drw dr src = n1 at x1 hn k
  refine ⟨fun i m H2 => ∃ F' acc ps, i ≤ ds.length ∧ m = ds.length - i ∧ Nxt R n1 σ ρ F1 H1 F' H2 ∧ H2 L = some (.lst acc) ∧ ¬ F' L ∧ RpAll R.sg R.K F' H2 acc ps ∧ compA step (ds.drop i) ps fun out => Qd (.L out),
    ⟨ds.length, F1, [], [], Nat.zero_le _, rfl, Nxt.upd x1.env hL, upd_same, fun z => x1.env.fr L z hL, .nil, q1⟩, ?_⟩
  rintro i m H2 ⟨F', acc, ps, hil, rfl, nx, hLH, hLF, hr, hq⟩
  have hst : Stay R true F1 H1 H2 := ⟨x1.env.keep nx.ext, fun _ => nx.ext⟩
  by_cases hlt : i < ds.length
  · refine .inr ⟨((yl i F' H2 hst nx.sub).1 ds[i] (List.getElem?_eq_getElem hlt)).1, fun H' => ∃ F2 acc' ps', Nxt R n1 σ ρ F1 H1 F2 H' ∧ H' L = some (.lst acc') ∧ ¬ F2 L ∧ RpAll R.sg R.K F2 H' acc' ps' ∧ compA step (ds.drop (i + 1)) ps' fun out => Qd (.L out), fun H' ⟨F2, acc', ps', h2, h3, h4, h5, h6⟩ => ⟨ds.length - (i + 1), by omega, F2, acc', ps', hlt, rfl, h2, h3, h4, h5, h6⟩, fun x H3 hy => ?_⟩
    obtain ⟨hcase, rd⟩ := ((yl i F' H2 hst nx.sub).1 ds[i] (List.getElem?_eq_getElem hlt)).2 x H3 hy
    have x3 : Nxt R n1 σ ρ F' H2 F' H3 := by
      rcases hcase with e | ⟨p, vs, hp, e⟩
      · subst e; exact .refl nx.env
      · subst e; exact Nxt.upd nx.env hp
    rw [List.drop_eq_getElem_cons hlt] at hq
    have hq : step ds[i] ps (fun acc' => compA step (ds.drop (i + 1)) acc' fun out => Qd (.L out)) := hq
    generalize hKK : (fun acc' => compA step (ds.drop (i + 1)) acc' fun out => Qd (.L out)) = KK at hq
    have hq : stepA Φ exN (own.map (·.2)) vs1 tgC ifs src1 tg1 ifs1 el ρ ds[i] ps KK := by rw [hstep]; exact hq
    unfold stepA at hq
    have ho : ∀ (i : Nat) (ps : List PyData), ρ[i]? = some (some (Sl.ow ps)) → σ[i]? ≠ some (some (V.ref L)) := x1.env.ownH hL
    refine ⟨n1, F', wipeE ρ (own.map (·.2)), ds[i], _, wipe_both x3.env _, rd, bindG_own hq (fun ρ1 a b => And.intro a b), fun σ' ρ' ⟨q', own'⟩ E' u ul => ⟨wipe_same hgv u ul, ?_⟩⟩
    have L3 : H3 L = some (.lst acc) := x3.ext L _ hLH (notS_of x1.env.st hL)
    have ho' : ∀ (j : Nat) (qs : List PyData), ρ'[j]? = some (some (Sl.ow qs)) → σ'[j]? ≠ some (some (V.ref L)) := fun j qs hj => by
      obtain ⟨a, b⟩ := own' j qs hj
      obtain ⟨c, e⟩ := wipeE_own b
      rw [u j a, wipe_get, if_neg c]
      exact ho j qs e
    refine ⟨n1, F', ρ', _, E', by rw [d1]; exact hn, q', fun dd F5 H5 q5 x5 => ?_⟩
    rw [d1] at x5
    have up : ∀ {F6 : Addr → Prop} {H6 : Hp}, Nxt R n1 σ' ρ' F' H3 F6 H6 → Nxt R n1 σ ρ F1 H1 F6 H6 ∧ H6 L = some (.lst acc) ∧ ¬ F6 L ∧ RpAll R.sg R.K F6 H6 acc ps := fun {F6 H6} x6 => by
      have y6 := x3.env.after x6.aft
      refine ⟨(nx.trans x3).trans y6, x6.ext L _ L3 (notS_of x1.env.st hL), fun zz => ?_, hr.mono (nx.env.keep (x3.ext.trans x6.ext)) x6.sub⟩
      rcases x6.nw L zz with h | h
      · exact hLF h
      · rw [L3] at h; cases h
    split at q5
    · rename_i kb
      refine ⟨kb, rfl, ?_⟩
      cases kb with
      | false =>
        simp only [Bool.false_eq_true, if_false] at q5 ⊢
        obtain ⟨u1, u2, u3, u4⟩ := up x5
        rw [← hKK] at q5
        exact ⟨F5, acc, ps, u1, u2, u3, u4, q5⟩
      | true =>
        simp only [if_true] at q5 ⊢
        refine ⟨n1, F5, ρ', _, x5.env, by rw [d2]; exact hn, q5, fun d q => ?_, fun e2 ds2 J2 F6 H6 q6 hi6 x6 yl2 _ => ?_⟩
        · cases e : itemsD d with
          | none => rw [e] at q; exact q.elim
          | some ds => exact ⟨ds, rfl⟩
        rw [hi6] at q6
        rw [d2] at x6
        obtain ⟨u1, u2, u3, u4⟩ := up (x5.trans x6)
        generalize hstep2 : stepC Φ exN vs1 tg1 ifs1 el ρ' = step2 at q6
        refine ⟨fun j k H => ∃ F7 acc7 ps7, j ≤ ds2.length ∧ k = ds2.length - j ∧ EnvOk R n1 F7 σ' H ρ' ∧ Keep F6 H6 H ∧ (∀ a, F6 a → F7 a) ∧ Nxt R n1 σ ρ F1 H1 F7 H ∧ H L = some (.lst acc7) ∧ ¬ F7 L ∧ RpAll R.sg R.K F7 H acc7 ps7 ∧ compW step2 (ds2.drop j) ps7 KK,
          ⟨ds2.length, F6, acc, ps, Nat.zero_le _, rfl, x6.env, fun _ _ h _ => h, fun _ h => h, u1, u2, u3, u4, q6⟩, ?_⟩
        rintro j k H7 ⟨F7, acc7, ps7, hjl, rfl, E7, k7, s7, nx7, hLH7, hLF7, hr7, hq7⟩
        have hst2 : Stay R false F6 H6 H7 := ⟨k7, fun z => (nomatch z)⟩
        by_cases hlt2 : j < ds2.length
        · refine .inr ⟨((yl2 j F7 H7 hst2 s7).1 ds2[j] (List.getElem?_eq_getElem hlt2)).1, fun H' => ∃ F8 acc8 ps8, EnvOk R n1 F8 σ' H' ρ' ∧ Keep F6 H6 H' ∧ (∀ a, F6 a → F8 a) ∧ Nxt R n1 σ ρ F1 H1 F8 H' ∧ H' L = some (.lst acc8) ∧ ¬ F8 L ∧ RpAll R.sg R.K F8 H' acc8 ps8 ∧ compW step2 (ds2.drop (j + 1)) ps8 KK,
            fun H' ⟨F8, acc8, ps8, h1, h2, h3, h4, h5, h6, h7, h8⟩ => ⟨ds2.length - (j + 1), by omega, F8, acc8, ps8, hlt2, rfl, h1, h2, h3, h4, h5, h6, h7, h8⟩, fun x2 H8 hy2 => ?_⟩
          obtain ⟨hcase2, rd2⟩ := ((yl2 j F7 H7 hst2 s7).1 ds2[j] (List.getElem?_eq_getElem hlt2)).2 x2 H8 hy2
          have y8 : Nxt R n1 σ' ρ' F7 H7 F7 H8 := by
            rcases hcase2 with e | ⟨p, vs, hp, e⟩
            · subst e; exact .refl E7
            · subst e; exact Nxt.upd E7 hp
          have z8 : Nxt R n1 σ ρ F7 H7 F7 H8 := nx7.env.after y8.aft
          rw [List.drop_eq_getElem_cons hlt2] at hq7
          have hq7 : step2 ds2[j] (fun new => ps7.length + new.length ≤ sizeLine ∧ compW step2 (ds2.drop (j + 1)) (ps7 ++ new) KK) := hq7
          have hq7 : stepC Φ exN vs1 tg1 ifs1 el ρ' ds2[j] (fun new => ps7.length + new.length ≤ sizeLine ∧ compW step2 (ds2.drop (j + 1)) (ps7 ++ new) KK) := by rw [hstep2]; exact hq7
          unfold stepC at hq7
          refine ⟨n1, F7, wipeE ρ' vs1, ds2[j], _, wipe_both y8.env _, rd2, hq7, fun σ3 ρ3 q3 E3 w wl => ⟨wipe_same hgv1 w wl, ?_⟩⟩
          have nS : NotS R.sa L := notS_of x1.env.st hL
          have L8 : H8 L = some (.lst acc7) := y8.ext L _ hLH7 nS
          refine ⟨n1, F7, ρ3, _, E3, by rw [d3]; exact hn, q3, fun dd2 F9 H9 q9 x9 => ?_⟩
          rw [d3] at x9
          have up2 : ∀ {F6' : Addr → Prop} {H6' : Hp}, Nxt R n1 σ3 ρ3 F7 H8 F6' H6' → EnvOk R n1 F6' σ' H6' ρ' ∧ Keep F6 H6 H6' ∧ (∀ a, F6 a → F6' a) ∧ Nxt R n1 σ ρ F1 H1 F6' H6' ∧ H6' L = some (.lst acc7) ∧ ¬ F6' L ∧ RpAll R.sg R.K F6' H6' acc7 ps7 := fun {F6' H6'} x => by
            have y := y8.env.after x.aft
            have z := z8.env.after x.aft
            have kk : Keep F7 H7 H6' := E7.keep (y8.ext.trans y.ext)
            refine ⟨y.env, fun b o q h => kk b o (k7 b o q h) (h.imp (s7 b) id), fun a h => y.sub a (s7 a h), (nx7.trans z8).trans z, x.ext L _ L8 nS, fun zz => ?_, hr7.mono kk x.sub⟩
            rcases x.nw L zz with h | h
            · exact hLF7 h
            · rw [L8] at h; cases h
          split at q9
          · rename_i kb2
            refine ⟨kb2, rfl, ?_⟩
            cases kb2 with
            | false =>
              simp only [Bool.false_eq_true, if_false] at q9 ⊢
              obtain ⟨v1, v2, v3, v4, v5, v6, v7⟩ := up2 x9
              refine ⟨F9, acc7, ps7, v1, v2, v3, v4, v5, v6, v7, ?_⟩
              have := q9.2
              rw [List.append_nil] at this
              exact this
            | true =>
              simp only [if_true] at q9 ⊢
              refine ⟨n1, F9, ρ3, _, x9.env, by rw [d4]; exact hn, q9, fun dy y F10 H10 q10 x10 r10 => ?_⟩
              rw [d4] at x10
              obtain ⟨v1, v2, v3, v4, v5, v6, v7⟩ := up2 (x9.trans x10)
              split at q10
              · rename_i pp
                have hlen := v7.length
                have hz : ps7.length + 1 ≤ sizeLine := q10.1
                have k10 : Keep F10 H10 (upd H10 L (.lst (acc7 ++ [y]))) := fun b o q h => by
                  refine (upd_ne ?_).trans q
                  intro z
                  subst z
                  rcases h with h | h
                  · exact v6 h
                  · rw [v5] at q; cases q; exact h
                have E6 := v4.env.updL (ws := acc7 ++ [y]) v5 v6 (x1.env.h0 hL) ho
                refine ⟨acc7, v5, by omega, F10, acc7 ++ [y], ps7 ++ [pp], v1.updL v5 v6 (x1.env.h0 hL) ho', fun b o q h => k10 b o (v2 b o q h) (h.imp (v3 b) id), v3, ⟨E6, fun b o q nb => ?_, v4.sub, v4.nw⟩, upd_same, v6, ?_, q10.2⟩
                · rw [upd_ne (ne_of_none q hL)]
                  exact v4.ext b o q nb
                · exact (v7.mono k10 fun _ h => h).append (.cons (Rp.mono k10 (fun _ h => h) r10) .nil)
              · exact q10.elim
          · exact q9.elim
        · have e : j = ds2.length := by omega
          subst e
          refine .inl ⟨(yl2 _ F7 H7 hst2 s7).2 (Nat.le_refl _), ?_⟩
          rw [List.drop_length] at hq7
          have hq7 : KK ps7 := hq7
          rw [← hKK] at hq7
          exact ⟨F7, acc7, ps7, nx7, hLH7, hLF7, hr7, hq7⟩
    · exact q5.elim
  · have e : i = ds.length := by omega
    subst e
    refine .inl ⟨(yl _ F' H2 hst nx.sub).2 (Nat.le_refl _), ?_⟩
    rw [List.drop_length] at hq
    have hq : Qd (.L ps) := hq
    exact k (.L ps) (.ref L) F' H2 hq (x1.trans nx) (.inr ⟨L, acc, ps, rfl, rfl, x1.ext.fresh x1.env.st hL, hLH, hLF, hr⟩)
end
end Y

/-! part Y15 -/
set_option Elab.async false
set_option linter.all false
set_option maxRecDepth 100000
set_option maxHeartbeats 1000000
/-! Y15: loops over defs; enumerate of lists and tuples. -/
namespace Y
open PySem PySem.Spec
open PyProof.Rows hiding St
open L2
/-! ### a written list of defs -/
def fnsC : List Nat → C
  | [] => .nil
  | k :: ks => .cons (.fnv k) (fnsC ks)
section
variable {Φ : Nat → List D → (D → Prop) → (Nat → Prop) → Prop} {exN : Nat → Str} {dr : Nat → Nat}
variable {X : Cx} {R : RT} {Ed : Nat → Prop} {tg e : Expr} {es : List Expr} {a b c : C} {pos p : Pos}
variable {F F' : Addr → Prop} {H H' : Hp}
theorem wp_fnsC {ρ : Ev} {Q : D → Prop} {E : Nat → Prop} : ∀ {ks : List Nat}, wp Φ exN (fnsC ks) ρ Q E = Q (.args (ks.map D.fn))
  | [] => rfl
  | k :: ks => by
    show wp Φ exN (fnsC ks) ρ (fun x => match x with | .args ds => Q (.args (D.fn k :: ds)) | _ => False) E = _
    rw [wp_fnsC (ks := ks)]
    rfl
theorem drw_fnsC : ∀ {ks : List Nat}, drw dr (fnsC ks) = 0
  | [] => rfl
  | k :: ks => by
    show drw dr (.fnv k) + drw dr (fnsC ks) = 0
    rw [drw_fnsC (ks := ks)]
    rfl
theorem yl_fns {bb : Bool} {a : Addr} {vs : List V} {ks : List Nat} (h1 : H a = some (.lst vs)) (h2 : RA R F H vs (ks.map D.fn)) (h3 : F a) : Yl R bb (Itl R.K a) (ks.map D.fn) F H := by
  intro i F' H' st sub
  have e : H' a = some (.lst vs) := st.1 _ _ h1 (.inl h3)
  have key : ∀ {vs : List V} {ks : List Nat}, RA R F H vs (ks.map D.fn) → vs = ks.map fun k => V.ref (R.fa k) := by
    intro vs
    induction vs with
    | nil =>
      intro ks h
      cases ks with
      | nil => rfl
      | cons _ _ => exact h.elim
    | cons v vs ih =>
      intro ks h
      cases ks with
      | nil => exact h.elim
      | cons k ks =>
        have h' : RD R F H v (.fn k) ∧ RA R F H vs (ks.map D.fn) := h
        have h1 : v = V.ref (R.fa k) := h'.1
        rw [h1, ih h'.2]
        rfl
  have ev := key h2
  refine ⟨fun d hd => ?_, fun hl => ⟨vs, SqL.of e, by rw [ev, List.length_map]; simpa using hl⟩⟩
  rw [List.getElem?_map] at hd
  cases q : ks[i]? with
  | none => rw [q] at hd; cases hd
  | some k =>
    rw [q] at hd
    have hd := Option.some.inj hd
    subst hd
    have hv : vs[i]? = some (V.ref (R.fa k)) := by rw [ev, List.getElem?_map, q]; rfl
    refine ⟨⟨vs, _, SqL.of e, hv⟩, fun x H'' ⟨eq, y⟩ => ⟨.inl eq, ?_⟩⟩
    have := y vs (SqL.of e)
    rw [hv] at this
    cases this
    rfl
theorem nd_ifns (hK : X.K = R.K) {bb : Bool} {ks : List Nat} (ha : PA X es (TAx Φ exN dr R (rlD R) Ed (fnsC ks))) (hl : ks.length ≤ 100) : PI X tg (.List es pos) (TIx Φ exN dr R bb Ed (.fns ks)) :=
  PIw (pi_list (pe_lst ha)) fun σ H K ⟨n, F, ρ, Qd, E, hn, hw, hi, k⟩ => by
    simp only [wp] at hw
    have h0 : drw dr (C.fns ks) = 0 := rfl
    rw [h0, Nat.add_zero] at hn k
    refine ⟨n, F, ρ, fun d => d = .args (ks.map D.fn), E, by rw [drw_fnsC]; exact hn, by rw [wp_fnsC], fun ds vs F1 H1 q1 x1 r1 _ => ?_⟩
    rw [drw_fnsC, Nat.add_zero] at x1
    have e1 : ds = ks.map D.fn := by cases q1; rfl
    subst e1
    have hr := r1.ra
    have hlen : vs.length = ks.length := by rw [hr.length, List.length_map]
    refine ⟨by rw [hlen]; exact Nat.le_trans hl (by decide), fun p hp => ⟨p, rfl, ⟨vs, SqL.of upd_same⟩, ?_⟩⟩
    have hp0 : H p = none := x1.ext.fresh x1.env.st hp
    have u := Nxt.upd x1.env hp (o := .lst vs)
    have x2 := x1.trans u
    have hk : Keep F1 H1 (upd H1 p (.lst vs)) := x1.env.keep u.ext
    have hr2 : RA R (fun b => F1 b ∨ b = p) (upd H1 p (.lst vs)) vs (ks.map D.fn) := by
      have : ∀ {vs : List V} {ks : List Nat}, RA R F1 H1 vs (ks.map D.fn) → RA R (fun b => F1 b ∨ b = p) (upd H1 p (.lst vs)) vs (ks.map D.fn) := by
        intro vs
        have : ∀ (H2 : Hp) {ws : List V} {ks : List Nat}, RA R F1 H1 ws (ks.map D.fn) → RA R (fun b => F1 b ∨ b = p) H2 ws (ks.map D.fn) := by
          intro H2 ws
          induction ws with
          | nil =>
            intro ks h
            cases ks with
            | nil => trivial
            | cons _ _ => exact h.elim
          | cons v ws ih =>
            intro ks h
            cases ks with
            | nil => exact h.elim
            | cons k ks => exact ⟨h.1, ih h.2⟩
        intro ks h
        exact this _ h
      exact this hr
    have E2 : Nxt R n σ ρ F H (fun b => F1 b ∨ b = p) (upd H1 p (.lst vs)) := ⟨x2.env.freeze (by rw [upd_same]; exact fun z => (nomatch z)) (notS_of E.st hp0) (E.h0 hp0) (E.ownH hp0), x2.ext, fun b hb => .inl (x2.sub b hb), fun b hb => hb.elim (x2.nw b) fun z => .inr (z ▸ hp0)⟩
    rw [hK]
    refine k _ _ _ _ _ hw rfl E2 (yl_fns upd_same hr2 (.inr rfl)) fun z => ?_
    cases z
end
/-! ### enumerate -/
/-- the tuple at a as it stands at each turn, each item in a new pair -/
def pairO (b : Bool) (o : Obj) (i : Nat) (x : V) : HO := if b = true then .frz o (.tup [.int (i : Nat), x]) else .tup [.int (i : Nat), x]
def IteT (K : PySem.W.Frag) (b : Bool) (a : Addr) : It :=
  ⟨fun i H => ∃ (xs : List V) (x : V), SqT K H a xs ∧ xs[i]? = some x, fun i H v H' => ∃ T x o, v = .ref T ∧ H T = none ∧ o.dict = none ∧ H' = upd H T (pairO b o i x) ∧ ∀ xs, SqT K H a xs → xs[i]? = some x, fun i H => ∃ xs : List V, SqT K H a xs ∧ xs.length ≤ i⟩
theorem turn_enumT {bs : Bool} {P : Program} {w : World} {K : PySem.W.Frag} {elts : List Expr} {kk : Nat} {tpos : Pos} (a e it : Addr) :
    Turn P w K (.Tuple elts kk tpos) (IteT K bs a) [e, it] e (fun i h => (∃ old, IsEnum h e it ((i : Nat) : Int) old) ∧ h.IsTupleIter it a i ∧ e ≠ it ∧ e ≠ a ∧ a ≠ it) where
  mem := by simp
  obj := fun i h st b hb => by
    obtain ⟨⟨old, he⟩, ⟨o, ho, hc, hd⟩, _⟩ := st
    have e' : b = e ∨ b = it := by simpa using hb
    rcases e' with z | z
    · rw [z]; exact ⟨_, he, fun v q => nomatch q⟩
    · rw [z]; exact ⟨o, ho, fun v q => by rw [hd] at q; cases q⟩
  keep := fun i h h' st k => let ⟨⟨old, he⟩, hi, hne⟩ := st; ⟨⟨old, k e (by simp) _ he⟩, hi.at fun o q => k it (by simp) o q, hne⟩
  item := by
    intro X hP hw hK hc i pins s σ H E I hf st hg
    subst hP hw hK
    obtain ⟨⟨old, he⟩, hit, hne, hea, hai⟩ := st
    obtain ⟨xs, x, hq, hx⟩ := hg
    obtain ⟨its, rv, p, hz⟩ := I.tuple hq
    have hu := rv.get hx
    have hel : e < s.heap.objs.size := Heap.lt_size he
    have hil : it < s.heap.objs.size := by obtain ⟨_, q, _⟩ := hit; exact Heap.lt_size q
    have hlen := rv.length
    have hlt : i < its.toArray.size := by
      have := (List.getElem?_eq_some_iff.mp hx).1
      simp only [List.size_toArray]
      omega
    have D := Draws.tuple (prog := X.prog) (w := X.w) (A := X.A.in1) (I.ok.hd hc) it a hai its.toArray
    refine wpAny_pyNext_enum_itemD D he ⟨hit, p⟩ hlt hne (by simp; exact ⟨hne, hea⟩) fun u h' tk hux ho hst' hT hsz hk => ?_
    obtain ⟨hit', _⟩ := hst'
    refine ⟨_, rfl, wpAny_letOwnedTupleGo_enum (s := { s with heap := h', toks := tk + 1 }) ho fun h'' he' sb => ?_⟩
    have hT2 : h''.get? s.heap.objs.size = some { cls := .type "tuple", data := .seq #[.int i tk, u] } := (sb.2 _ (Nat.ne_of_gt hel)).trans hT
    obtain ⟨u', hu', ru⟩ := hu
    have eu : u' = u := by
      have h1 : its[i]? = some u := by simpa using hux
      rw [hu'] at h1
      exact Option.some.inj h1
    subst eu
    have new : ObjOk X.prog X.w (upd H s.heap.objs.size (pairO bs { cls := .type "tuple", data := .seq #[.int i tk, u'] } i x)) h'' s.heap.objs.size (pairO bs { cls := .type "tuple", data := .seq #[.int i tk, u'] } i x) := by
      have n0 : ∀ G : Hp, ObjOk X.prog X.w G h'' s.heap.objs.size (.tup [.int (i : Nat), x]) := fun G => ⟨by show 2 ≤ sizeLine; decide, [.int i tk, u'], .cons ⟨_, rfl⟩ (.cons ru .nil), ⟨_, hT2, rfl, _, rfl⟩⟩
      cases bs with
      | false => exact n0 _
      | true => exact ⟨hT2, n0 _⟩
    have I1 : Inv X pins σ (upd H s.heap.objs.size (pairO bs { cls := .type "tuple", data := .seq #[.int i tk, u'] } i x)) { s with heap := h'', toks := tk + 1 } :=
      I.turnedNew (ch := [e, it]) (fun b ob hb q => (sb.2 b (fun z => hb (by simp [z]))).trans (hk b ob (fun z => hb (by simp [z])) (fun z => hb (by simp [z])) q)) hf (Nat.le_refl _) new
    refine ⟨.ref s.heap.objs.size, _, I1, rfl, ⟨_, x, _, rfl, I.hok.fresh (Nat.le_refl _), rfl, rfl, fun ys hy => by rw [I.tuple_inj hy hq]; exact hx⟩, ⟨⟨u', ?_⟩, hit'.at fun o q => (sb.2 it (Ne.symm hne)).trans q, hne, hea, hai⟩, fun b hb => ?_⟩
    · have e1 : ((i + 1 : Nat) : Int) = (i : Int) + 1 := by omega
      rw [e1]; exact he'
    · have hb' : b < s.heap.objs.size := by
        have e' : b = e ∨ b = it := by simpa using hb
        rcases e' with z | z
        · rw [z]; exact hel
        · rw [z]; exact hil
      rw [upd_ne (Nat.ne_of_lt hb')]
      exact (hf b hb).1
  done := by
    intro X hP hw hK hc i pins s σ H E I hf st hg
    subst hP hw hK
    obtain ⟨⟨old, he⟩, hit, hne, hea, hai⟩ := st
    obtain ⟨xs, hq, hx⟩ := hg
    obtain ⟨its, rv, p, hz⟩ := I.tuple hq
    obtain ⟨f0, f1, f2, f3, f4, f5⟩ := hf it (by simp)
    have hl := rv.length
    have hT : s.TypeIs (.ref e) "enumerate" := ⟨_, he, rfl⟩
    unfold pyNext
    refine wpAny_bind (wpAny_attempt (wpAny_callSpecial?_slot (name := Str.ofString "__next__") hT F.slot_enumerate_next
      (wpAny_call_entry F.slot_enumerate_next hT F.entry_enumerate_next ?_ (F.args_enumerate_next_1 _))))
    show wpAny _ _ (field (.ref e) 2 >>= _) _ _ _
    refine wpAny_bind (wpAny_field he rfl (x := .ref it) rfl ?_)
    refine wpAny_bind (wpAny_nextOf_tuple_end (I.ok.hd hc) hit p (by simp; omega) fun h' x he' hx' => ?_)
    obtain ⟨o, ho, hc'⟩ := hx'
    refine wpAny_bind (wpAny_isInstance (T := "StopIteration") (b := true) ⟨o, ho, hc'⟩ isSubtype_stop ?_)
    exact wpAny_pure ⟨rfl, I.turned (t' := s.toks) (fun b o hb q => he' b o hb q) f0 f1 f3 f4 f5⟩
  self := fun A i s Q E st h => let ⟨⟨_, he⟩, _⟩ := st; wpAny_pyIter_enum he h
theorem meets_enumerate_newT (l : Addr) (items : Array Value) :
    Meets (Builtin.«enumerate.__new__» ⟨[.type "enumerate", .ref l], []⟩) (fun _ R s => s.heap.IsTuple l items ∧
      R (.ok (.ret (.ref (s.heap.push { cls := .type "tuple_iterator", data := .fields #[.ref l, .int 0 0] }).objs.size)))
        { s with heap := (s.heap.push { cls := .type "tuple_iterator", data := .fields #[.ref l, .int 0 0] }).push { cls := .type "enumerate", data := .fields #[.none, .bool false, .ref s.heap.objs.size, rawInt 0, .none, .none] } }) :=
  .of_wp fun prog w A R s h => by
    obtain ⟨hp, g, d, tk, os⟩ := s; obtain ⟨hl, h⟩ := h
    have hsub := sub_enumerate
    have q1 : ∀ {A' : Around} {E : Value → Shared → Prop} {Q : Value → Shared → Prop}, Q (.ref hp.objs.size) ⟨hp.push { cls := .type "tuple_iterator", data := .fields #[.ref l, .int 0 0] }, g, d, tk, os⟩ → wpAny (model prog w) A' (pyIter (.ref l)) Q E ⟨hp, g, d, tk, os⟩ :=
      fun q => wpAny_pyIter_tuple (show Heap.IsTuple (Shared.heap ⟨hp, g, d, tk, os⟩) l items from hl) q
    wp_walk using q1
    refine wpAny_stack_any fun st => wpAny_pure ?_
    split
    · rename_i c _ _ _ _ _
      cases (c == Value.type "enumerate")
      · wp_walk using q1
        exact ⟨_, rfl, h⟩
      · wp_walk using q1
        exact ⟨_, rfl, h⟩
    · wp_walk using q1
      exact ⟨_, rfl, h⟩
theorem call_enumerate_tup {prog : Program} {w : World} {A : Around} {E : Value → Shared → Prop} {s : Shared} {l : Addr} {items : Array Value} {Q : Value → Shared → Prop} (hL : s.heap.IsTuple l items)
    (h : ∀ h', IsEnum h' (s.heap.objs.size + 1) s.heap.objs.size 0 .none → h'.IsTupleIter s.heap.objs.size l 0 → h'.objs.size = s.heap.objs.size + 2 →
      (∀ b o, s.heap.get? b = some o → h'.get? b = some o) → Q (.ref (s.heap.objs.size + 1)) { s with heap := h' }) :
    wpAny (model prog w) A (call (.type "enumerate") [.ref l]) Q E s := by
  refine callType_new F.called_enumerate (by decide) (F.typeCall_enumerate_1 _) (F.newCall_enumerate_1 _) (fun obj => F.args_object_init_2 obj _) F.entry_enumerate_new
    (meets_enumerate_newT l items) ⟨hL, ?_⟩
  have hz : (s.heap.push { cls := .type "tuple_iterator", data := .fields #[.ref l, .int 0 0] }).objs.size = s.heap.objs.size + 1 := Heap.size_push ..
  show _ ∧ _
  rw [hz]
  have he : IsEnum ((s.heap.push { cls := .type "tuple_iterator", data := .fields #[.ref l, .int 0 0] }).push
      { cls := .type "enumerate", data := .fields #[.none, .bool false, .ref s.heap.objs.size, rawInt 0, .none, .none] }) (s.heap.objs.size + 1) s.heap.objs.size 0 .none := by
    have := Heap.get?_push_size (s.heap.push { cls := .type "tuple_iterator", data := .fields #[.ref l, .int 0 0] })
      (o := { cls := .type "enumerate", data := .fields #[.none, .bool false, .ref s.heap.objs.size, rawInt 0, .none, .none] }) rfl
    rw [hz] at this; exact this
  refine ⟨⟨_, he, rfl⟩, h _ he ⟨_, Heap.get?_push_of_some _ (Heap.get?_push_size _ rfl), rfl, rfl⟩ (by rw [Heap.size_push, hz]) fun b o x => Heap.get?_push_of_some _ (Heap.get?_push_of_some _ x)⟩
/-- enumerate(x), x a list or a tuple -/
def iEnumA (K : PySem.W.Frag) (b : Bool) (te : TE) : TI := fun σ H R => te σ H fun x H1 => (∃ a, x = .ref a ∧ (∃ xs, SqL K H1 a xs) ∧ R (Ite K a) H1) ∨ ∃ a, x = .ref a ∧ (∃ xs, SqT K H1 a xs) ∧ R (IteT K b a) H1
theorem pi_enumA {b : Bool} {X : Cx} {e : Expr} {te : TE} {p pos tpos : Pos} {elts : List Expr} {kk : Nat} (hg : Gl X "enumerate") (hm : X.mg "enumerate" = none) (he : PE X e te) (hs : starEach [e] X.env = (false, eval e X.env) :: starEach [] X.env := by rfl) :
    PI X (.Tuple elts kk tpos) (.Call (.Name "enumerate" p) [e] [] pos) (iEnumA X.K b te) := by
  refine ⟨fun pins s σ H R I h => ?_⟩
  refine Call_ (ld_blt I hg hm boot_enumerate (PyProof.Rows.callWith_type1 (args_cons (thn (he.run pins s σ H _ I h) fun u s1 ⟨v, H1, I1, r1, q1⟩ => args_nil ?_) hs) hs rfl))
  have fresh2 : ∀ b, b ∈ [s1.heap.objs.size + 1, s1.heap.objs.size] → FpOk X pins H1 b := fun b hb => by
    have e' : b = s1.heap.objs.size + 1 ∨ b = s1.heap.objs.size := by simpa using hb
    have hle : s1.heap.objs.size ≤ b := by
      rcases e' with z | z
      · rw [z]; exact Nat.le_add_right _ _
      · rw [z]; exact Nat.le_refl _
    exact I1.fpOk hle (I1.hok.fresh hle)
  rcases q1 with ⟨a, e, ⟨xs, hq⟩, q⟩ | ⟨a, e, ⟨xs, hq⟩, q⟩
  · subst e
    cases r1
    obtain ⟨its, rv, p', hz⟩ := I1.list hq
    refine call_enumerate_list p'.isList fun h' he hit hsz hk => wpAny_pyIter_enum he ?_
    have I2 : Inv X pins σ H1 { s1 with heap := h' } := I1.kept (t' := s1.toks) hk
    exact ⟨s1.heap.objs.size + 1, [s1.heap.objs.size + 1, s1.heap.objs.size], _, _, H1, rfl, I2, turn_enum a (s1.heap.objs.size + 1) s1.heap.objs.size, ⟨⟨.none, he⟩, hit, Nat.succ_ne_self _⟩, fresh2, q⟩
  · subst e
    cases r1
    obtain ⟨its, rv, p', hz⟩ := I1.tuple hq
    have p2 : s1.heap.IsTuple a its.toArray := p'
    have hal : a < s1.heap.objs.size := by obtain ⟨_, q, _⟩ := p2; exact Heap.lt_size q
    refine call_enumerate_tup p2 fun h' he hit hsz hk => wpAny_pyIter_enum he ?_
    have I2 : Inv X pins σ H1 { s1 with heap := h' } := I1.kept (t' := s1.toks) hk
    exact ⟨s1.heap.objs.size + 1, [s1.heap.objs.size + 1, s1.heap.objs.size], _, _, H1, rfl, I2, turn_enumT a (s1.heap.objs.size + 1) s1.heap.objs.size, ⟨⟨.none, he⟩, hit, Nat.succ_ne_self _, fun z => by have : a < s1.heap.objs.size := hal; rw [← z] at this; exact Nat.not_lt_of_le (Nat.le_succ _) this, Nat.ne_of_lt hal⟩, fresh2, q⟩
section
variable {Φ : Nat → List D → (D → Prop) → (Nat → Prop) → Prop} {exN : Nat → Str} {dr : Nat → Nat}
variable {X : Cx} {R : RT} {Ed : Nat → Prop} {tg e : Expr} {es : List Expr} {a b c : C} {pos p : Pos}
variable {F F' : Addr → Prop} {H H' : Hp}
theorem enumP_get {ps : List PyData} {i : Nat} {d : D} (h : (enumP ps)[i]? = some d) : ∃ p, ps[i]? = some p ∧ d = D.T [.int (i : Nat), p] := by
  unfold enumP at h
  rw [List.getElem?_map] at h
  cases q : ps.zipIdx[i]? with
  | none => rw [q] at h; cases h
  | some pi =>
    rw [q] at h
    rw [List.getElem?_zipIdx] at q
    cases r : ps[i]? with
    | none => rw [r] at q; cases q
    | some p =>
      rw [r] at q
      have q := Option.some.inj q
      subst q
      exact ⟨p, rfl, by rw [Nat.zero_add] at h; exact (Option.some.inj h).symm⟩
theorem enumP_len {ps : List PyData} : (enumP ps).length = ps.length := by
  unfold enumP
  rw [List.length_map, List.length_zipIdx]
theorem yl_enumL (hsg : R.sg = false) {bb : Bool} {a : Addr} {vs : List V} {ps : List PyData} (h1 : H a = some (.lst vs)) (h2 : RpAll R.sg R.K F H vs ps) (h3 : F a ∨ (bb = true ∧ NotS R.sa a)) : Yl R bb (Ite R.K a) (enumP ps) F H := by
  intro i F' H' st sub
  have e : H' a = some (.lst vs) := by
    rcases h3 with h3 | ⟨hb, h3⟩
    · exact st.1 _ _ h1 (.inl h3)
    · exact st.2 hb _ _ h1 h3
  refine ⟨fun d hd => ?_, fun hl => ⟨vs, SqL.of e, by rw [h2.length]; rw [enumP_len] at hl; exact hl⟩⟩
  obtain ⟨p, hp, rfl⟩ := enumP_get hd
  obtain ⟨v, hv, r⟩ := h2.get hp
  refine ⟨⟨vs, v, SqL.of e, hv⟩, fun x H'' ⟨T, x1, ex, hT, eq, f1⟩ => ⟨.inr ⟨T, _, hT, eq⟩, ?_⟩⟩
  have z1 := f1 vs (SqL.of e)
  rw [hv] at z1
  cases z1
  subst ex eq
  have k2 : Keep F H (upd H' T (.tup [.int (i : Nat), v])) := fun b o q h => by
    have := st.1 b o q h
    rw [upd_ne (ne_of_none this hT)]
    exact this
  exact .tup SqT.new (fun z _ => by rw [hsg] at z; cases z) (.cons (.int _) (.cons (r.mono k2 sub) .nil))
theorem yl_enumT {bb : Bool} {a : Addr} {vs : List V} {ps : List PyData} (h1 : SqT R.K H a vs) (h2 : RpAll R.sg R.K F H vs ps) : Yl R bb (IteT R.K R.sg a) (enumP ps) F H := by
  intro i F' H' st sub
  have e := st.1.sqt h1
  refine ⟨fun d hd => ?_, fun hl => ⟨vs, e, by rw [h2.length]; rw [enumP_len] at hl; exact hl⟩⟩
  obtain ⟨p, hp, rfl⟩ := enumP_get hd
  obtain ⟨v, hv, r⟩ := h2.get hp
  refine ⟨⟨vs, v, e, hv⟩, fun x H'' ⟨T, x1, o, ex, hT, ho, eq, f1⟩ => ⟨.inr ⟨T, _, hT, eq⟩, ?_⟩⟩
  have z1 := f1 vs e
  rw [hv] at z1
  cases z1
  subst ex
  have k2 : Keep F H H'' := fun b u q h => by
    have := st.1 b u q h
    rw [eq, upd_ne (ne_of_none this hT)]
    exact this
  have rr : RpAll R.sg R.K F' H'' [.int (i : Nat), v] [.int (i : Nat), p] := .cons (.int _) (.cons (r.mono k2 sub) .nil)
  cases hs : R.sg with
  | false =>
    have e2 : H'' = upd H' T (.tup [.int (i : Nat), v]) := by rw [eq]; unfold pairO; rw [hs]; rfl
    rw [hs] at rr
    show Rp R.sg R.K F' H'' _ _
    rw [hs]
    exact .tup (by rw [e2]; exact SqT.new) (fun z => by cases z) rr
  | true =>
    have e2 : H'' = upd H' T (.frz o (.tup [.int (i : Nat), v])) := by rw [eq]; unfold pairO; rw [hs]; rfl
    exact .tup (by rw [e2]; exact SqT.newF) (fun _ _ => .inl ⟨o, _, by rw [e2]; exact upd_same, ho⟩) rr
theorem nd_ienum (hsg : R.sg = false) (hK : X.K = R.K) (hg : Gl X "enumerate") (hm : X.mg "enumerate" = none) {elts : List Expr} {kk : Nat} {tpos : Pos} (hs : isStar e = false) {rl : Rl} {bb : Bool} (hcase : (bb = false ∧ rl = rlD R) ∨ (bb = true ∧ rl = rlB R))
    (ha : PE X e (TEx Φ exN dr R rl Ed a)) : PI X (.Tuple elts kk tpos) (.Call (.Name "enumerate" p) [e] [] pos) (TIx Φ exN dr R bb Ed (.enum a)) :=
  PIw (pi_enumA (b := R.sg) hg hm ha (each_plain hs)) fun σ H K ⟨n, F, ρ, Qd, E, hn, hw, hi, k⟩ => by
    simp only [wp] at hw
    simp only [drw] at hn k
    refine ⟨n, F, ρ, _, E, hn, hw, fun d v F1 H1 q1 x1 r1 => ?_⟩
    rw [hK]
    cases d with
    | py p =>
      cases p with
      | list ps =>
        have q1 : Qd (.args (enumP ps)) := q1
        rcases hcase with ⟨h1, h2⟩ | ⟨h1, h2⟩
        · subst h2
          cases r1 with
          | lst g1 g2 g3 => exact .inl ⟨_, rfl, ⟨_, SqL.of g1⟩, k _ _ _ F1 H1 q1 rfl x1 (yl_enumL hsg g1 g3 (.inl g2)) (fun z => by cases z)⟩
        · subst h2
          obtain ⟨a, vs, rfl, g1, g2, g3⟩ := RB.list x1.env r1
          exact .inl ⟨_, rfl, ⟨_, SqL.of g1⟩, k _ _ _ F1 H1 q1 rfl x1 (yl_enumL hsg g1 g3 (.inr ⟨h1, g2⟩)) (fun z => by cases z)⟩
      | tuple ps =>
        have q1 : Qd (.args (enumP ps)) := q1
        rcases hcase with ⟨h1, h2⟩ | ⟨h1, h2⟩
        · subst h2
          obtain ⟨a, vs, rfl, g1, g2⟩ := RB.tuple (.inl r1)
          exact .inr ⟨_, rfl, ⟨_, g1⟩, k _ _ _ F1 H1 q1 rfl x1 (yl_enumT g1 g2) (fun z => by cases z)⟩
        · subst h2
          obtain ⟨a, vs, rfl, g1, g2⟩ := RB.tuple r1
          exact .inr ⟨_, rfl, ⟨_, g1⟩, k _ _ _ F1 H1 q1 rfl x1 (yl_enumT g1 g2) (fun z => by cases z)⟩
      | _ => exact q1.elim
    | _ => exact q1.elim
end
/-! ### a method: index of a list -/
theorem kw_nil1 {cpos : Pos} {e : Expr} {env : Env} (h : isStar e = false) :
    ((backTo cpos (starEach [e] env)).all (fun x => !x.1) && (backToKw cpos (keywordEach [] env)).all (fun x => x.1.isSome) && decide ([e].length + ([] : List Keyword).length + (if ([] : List Keyword).isEmpty then 0 else 1) < 30)) = true := by
  rw [each_plain h]
  rfl
section
variable {Φ : Nat → List D → (D → Prop) → (Nat → Prop) → Prop} {exN : Nat → Str} {dr : Nat → Nat}
variable {X : Cx} {R : RT} {Ed : Nat → Prop} {tg e o : Expr} {es : List Expr} {a b c : C} {pos p ap cp : Pos}
theorem methD_index {d y : D} {Q : D → Prop} (h : methD .index d y Q) : ∃ ps k ns, d = .L ps ∧ y = .args [.I k] ∧ intsP ps = some ns ∧ k ∈ ns ∧ Q (.I (ns.idxOf k : Nat)) := by
  unfold methD at h
  split at h
  · rename_i e; cases e
  · obtain ⟨ns, h1, h2, h3⟩ := h
    exact ⟨_, _, ns, rfl, rfl, h1, h2, h3⟩
  · exact h.elim
theorem nd_index {m : Str} (hm : m = "index") (hK : X.K = R.K) (hs : isStar e = false) (hline : (ap.endLine == cp.line) = true) (hbase : attributeBase o "index" X.env (eval o X.env) = eval o X.env) (ho : PE X o (TEx Φ exN dr R (rlB R) Ed a)) (ha : PA X [e] (TAx Φ exN dr R (rlB R) Ed b)) :
    PE X (.Call (.Attribute o m ap) [e] [] cp) (TEx Φ exN dr R (rlN R) Ed (.meth .index a b)) := by
  subst hm
  refine PEw (pe_bm PySem.F.plainAttrs_list PySem.F.slot_list_index PySem.F.type_list_index mt_index ho ha hbase (kw_nil1 hs) hline (each_plain hs) rfl) fun σ H Q ⟨n, F, ρ, Qd, E, hn, hw, k⟩ => ?_
  simp only [wp] at hw
  simp only [drw] at hn k
  refine ⟨n, F, ρ, _, E, by omega, hw, fun d v F1 H1 q1 x1 r1 => ?_⟩
  obtain ⟨q0, q1⟩ := q1
  obtain ⟨ps, rfl⟩ : ∃ ps, d = .L ps := by
    unfold tyM at q0
    split at q0
    · rename_i e; cases e
    · exact ⟨_, rfl⟩
    · cases q0
  obtain ⟨a1, vs, rfl, h1, h1n, h2⟩ := RB.list x1.env r1
  refine ⟨.inl ⟨rfl, vs, SqL.of h1⟩, n + drw dr a, F1, ρ, _, x1.env, by omega, q1, fun ds us F2 H2 q2 x2 r2 hl => ?_⟩
  obtain ⟨ps', kk, ns, e1, e2, e3, e4, q⟩ := methD_index q2
  cases e1
  cases e2
  obtain ⟨w, rfl, rw1⟩ := ra1 r2
  cases (RB.int rw1)
  obtain ⟨a2, ws, e5, g1, _, g2⟩ := RB.list x2.env (RB.mono x1.env x2.ext x2.sub r1)
  cases e5
  rw [g2.ints e3] at g1
  rw [hK]
  have hj : ns.idxOf kk < ns.length := List.idxOf_lt_length_iff.mpr e4
  have hg : ns[ns.idxOf kk]? = some kk := by
    rw [List.getElem?_eq_getElem hj, List.getElem_idxOf hj]
  refine ⟨a1, ns.map V.int, .int kk, ns.idxOf kk, .int kk, rfl, rfl, SqL.of g1, rfl, ?_, by rw [List.getElem?_map, hg]; rfl, ?_, fun m z hm hz => ?_, k _ _ _ _ q ((x1.trans x2).mono (by omega)) .of_int⟩
  · rw [List.all_map]
    exact List.all_eq_true.mpr fun _ _ => rfl
  · show (kk == kk) = true
    exact beq_self_eq_true kk
  · rw [List.getElem?_map] at hz
    cases q' : ns[m]? with
    | none => rw [q'] at hz; cases hz
    | some x =>
      rw [q'] at hz
      have hz := Option.some.inj hz
      subst hz
      show (x == kk) = false
      have hml : m < ns.length := by omega
      have := List.not_of_lt_findIdx (p := (· == kk)) (xs := ns) hm
      rw [List.getElem?_eq_getElem hml] at q'
      rw [← Option.some.inj q']
      exact Bool.eq_false_iff.mpr (by simpa using this)
section
variable {Φ : Nat → List D → (D → Prop) → (Nat → Prop) → Prop} {exN : Nat → Str} {dr : Nat → Nat}
variable {X : Cx} {R : RT} {Ed : Nat → Prop} {e e2 : Expr} {a b : C} {pos p p2 pos2 : Pos}
theorem rp_rg {sg : Bool} {K : PySem.W.Frag} {F : Addr → Prop} {H : Hp} (i j : Int) : RpAll sg K F H (L2.rgV i j) ((List.range (j - i).toNat).map fun (k : Nat) => PyData.int (i + (k : Int))) := by
  have go : ∀ l : List Nat, RpAll sg K F H (l.map fun (k : Nat) => V.int (i + (k : Int))) (l.map fun (k : Nat) => PyData.int (i + (k : Int))) := by
    intro l
    induction l with
    | nil => exact .nil
    | cons x r ih => exact .cons (.int _) ih
  exact go _
/-- list(range(x, y)) -/
theorem nd_lrg (hK : X.K = R.K) (hc : X.calm = true) (hg : Gl X "list") (hm : X.mg "list" = none) (hg2 : Gl X "range") (hm2 : X.mg "range" = none) (hs : isStar e = false) (hs2 : isStar e2 = false)
    (ha : PE X e (TEx Φ exN dr R (rlB R) Ed a)) (hb : PE X e2 (TEx Φ exN dr R (rlB R) Ed b)) :
    PE X (.Call (.Name "list" p) [.Call (.Name "range" p2) [e, e2] [] pos2] [] pos) (TEx Φ exN dr R (rlN R) Ed (.lrg a b)) :=
  PEw (pe_listRg hc hg hm (prg_2 hg2 hm2 ha hb (each_plain hs) (each_plain hs2) (by rw [each_plain hs2]; rfl)) rfl) fun σ H Q ⟨n, F, ρ, Qd, E, hn, hw, k⟩ => by
    simp only [wp] at hw
    simp only [drw] at hn k
    refine two E hn hw fun d1 d2 v1 v2 F2 H2 q x r1 r2 => ?_
    obtain ⟨i, j, rfl, rfl, q1, q2⟩ : ∃ i j : Int, d1 = .I i ∧ d2 = .I j ∧ (-(2 ^ 62) ≤ i ∧ i < 2 ^ 62 ∧ -(2 ^ 62) ≤ j ∧ j < 2 ^ 62 ∧ (j - i).toNat ≤ 2 ^ 24) ∧ Qd (.L ((List.range (j - i).toNat).map fun (k : Nat) => PyData.int (i + (k : Int)))) := by
      unfold lrgD at q
      split at q
      · exact ⟨_, _, rfl, rfl, q.1, q.2⟩
      · exact q.elim
    cases (RB.int r1)
    cases (RB.int r2)
    refine ⟨i, j, rfl, rfl, q1, fun p hp => ?_⟩
    have hr : RpAll R.sg R.K F2 H2 (L2.rgV i j) ((List.range (j - i).toNat).map fun (k : Nat) => PyData.int (i + (k : Int))) := rp_rg i j
    refine k _ _ F2 _ q2 (x.trans (Nxt.upd x.env hp)) ?_
    exact RN.back E x.ext (Nxt.upd x.env hp).env.st (Nxt.upd x.env hp (o := .lst (L2.rgV i j))).ext x.env.st (x.env.newL hp hr)
end
/-! ### reversed, range with a step -/
theorem get_rev {α : Type} {l : List α} {i : Nat} (h : i < l.length) : l.reverse[i]? = l[l.length - 1 - i]? := List.getElem?_reverse h
theorem yl_revL {R : RT} {F : Addr → Prop} {H : Hp} {bb : Bool} {a : Addr} {vs : List V} {ps : List PyData} (h1 : H a = some (.lst vs)) (h2 : RpAll R.sg R.K F H vs ps) (h3 : F a ∨ (bb = true ∧ NotS R.sa a)) : Yl R bb (Itv R.K a vs.length) (ps.reverse.map D.py) F H := by
  intro i F' H' st sub
  have e : H' a = some (.lst vs) := by
    rcases h3 with h3 | ⟨hb, h3⟩
    · exact st.1 _ _ h1 (.inl h3)
    · exact st.2 hb _ _ h1 h3
  have hl := h2.length
  refine ⟨fun d hd => ?_, fun hz => by show vs.length ≤ i; rw [hl]; simpa using hz⟩
  obtain ⟨p, hp, rfl⟩ := get_py hd
  have hi : i < ps.length := by
    have := (List.getElem?_eq_some_iff.mp hp).1
    simpa using this
  rw [get_rev hi] at hp
  obtain ⟨v, hv, r⟩ := h2.get hp
  rw [← hl] at hv
  refine ⟨⟨by omega, vs, v, SqL.of e, hv⟩, fun x H'' ⟨eq, y⟩ => ⟨.inl eq, ?_⟩⟩
  have := y vs (SqL.of e)
  rw [hv] at this
  cases this
  subst eq
  exact r.mono st.1 sub
theorem yl_revT {R : RT} {F : Addr → Prop} {H : Hp} {bb : Bool} {a : Addr} {vs : List V} {ps : List PyData} (h1 : SqT R.K H a vs) (h2 : RpAll R.sg R.K F H vs ps) : Yl R bb (_root_.RT.ItvT R.K a vs.length) (ps.reverse.map D.py) F H := by
  intro i F' H' st sub
  have e := st.1.sqt h1
  have hl := h2.length
  refine ⟨fun d hd => ?_, fun hz => by show vs.length ≤ i; rw [hl]; simpa using hz⟩
  obtain ⟨p, hp, rfl⟩ := get_py hd
  have hi : i < ps.length := by
    have := (List.getElem?_eq_some_iff.mp hp).1
    simpa using this
  rw [get_rev hi] at hp
  obtain ⟨v, hv, r⟩ := h2.get hp
  rw [← hl] at hv
  refine ⟨⟨by omega, vs, v, e, hv⟩, fun x H'' ⟨eq, y⟩ => ⟨.inl eq, ?_⟩⟩
  have := y vs e
  rw [hv] at this
  cases this
  subst eq
  exact r.mono st.1 sub
theorem nd_irev (hK : X.K = R.K) (hg : Gl X "reversed") (hm : X.mg "reversed" = none) (hs : isStar e = false) {rl : Rl} {bb : Bool} (hcase : (bb = false ∧ rl = rlD R) ∨ (bb = true ∧ rl = rlB R))
    (ha : PE X e (TEx Φ exN dr R rl Ed a)) : PI X tg (.Call (.Name "reversed" p) [e] [] pos) (TIx Φ exN dr R bb Ed (.rev a)) :=
  PIw (_root_.RT.pi_revA hg hm ha (each_plain hs)) fun σ H K ⟨n, F, ρ, Qd, E, hn, hw, hi, k⟩ => by
    simp only [wp] at hw
    simp only [drw] at hn k
    refine ⟨n, F, ρ, _, E, hn, hw, fun d v F1 H1 q1 x1 r1 => ?_⟩
    rw [hK]
    cases d with
    | py p =>
      cases p with
      | list ps =>
        have q1 : Qd (.args (ps.reverse.map D.py)) := q1
        rcases hcase with ⟨h1, h2⟩ | ⟨h1, h2⟩
        · subst h2
          cases r1 with
          | lst g1 g2 g3 => exact ⟨_, _, rfl, .inl ⟨SqL.of g1, k _ _ _ F1 H1 q1 rfl x1 (yl_revL g1 g3 (.inl g2)) (fun z => by cases z)⟩⟩
        · subst h2
          obtain ⟨a, vs, rfl, g1, g2, g3⟩ := RB.list x1.env r1
          exact ⟨_, _, rfl, .inl ⟨SqL.of g1, k _ _ _ F1 H1 q1 rfl x1 (yl_revL g1 g3 (.inr ⟨h1, g2⟩)) (fun z => by cases z)⟩⟩
      | tuple ps =>
        have q1 : Qd (.args (ps.reverse.map D.py)) := q1
        rcases hcase with ⟨h1, h2⟩ | ⟨h1, h2⟩
        · subst h2
          obtain ⟨a, vs, rfl, g1, g2⟩ := RB.tuple (.inl r1)
          exact ⟨_, _, rfl, .inr ⟨g1, k _ _ _ F1 H1 q1 rfl x1 (yl_revT g1 g2) (fun z => by cases z)⟩⟩
        · subst h2
          obtain ⟨a, vs, rfl, g1, g2⟩ := RB.tuple r1
          exact ⟨_, _, rfl, .inr ⟨g1, k _ _ _ F1 H1 q1 rfl x1 (yl_revT g1 g2) (fun z => by cases z)⟩⟩
      | _ => exact q1.elim
    | _ => exact q1.elim
end
end Y

/-! part Y36 -/
set_option Elab.async false
set_option linter.all false
set_option maxRecDepth 100000
set_option maxHeartbeats 1000000
/-! Y36: how often an int stands in a tuple; enumerate of a tuple. -/
namespace Y
open PySem PySem.Spec
open PyProof.Rows hiding St
open L2
theorem ints0 : ∀ {xs : List PyData} {ns : List Int}, intsP xs = some ns → intsP0 xs = true
  | [], _, _ => rfl
  | .int i :: r, ns, h => by
    simp only [intsP] at h
    cases q : intsP r with
    | none => rw [q] at h; cases h
    | some m => exact ints0 (xs := r) q
  | .none :: _, _, h => nomatch h
  | .bool _ :: _, _, h => nomatch h
  | .str _ :: _, _, h => nomatch h
  | .list _ :: _, _, h => nomatch h
  | .tuple _ :: _, _, h => nomatch h
  | .dict _ :: _, _, h => nomatch h
section
variable {X : Cx} {e o : Expr} {apos cpos : Pos} {to : TE} {t : TA}
/-- the heap's word of a tuple without a dict -/
theorem plt_is {pins : List (Addr × Obj)} {σ : St} {H : Hp} {s : Shared} {a : Addr} {vs : List V} (I : Inv X pins σ H s) (h : SqT X.K H a vs) (p : PlT X.K H a) :
    s.TypeIs (.ref a) "tuple" ∧ ∀ b, Value.ref a = .ref b → ∃ ob, s.heap.get? b = some ob ∧ ob.dict = none := by
  obtain ⟨its, _, pl, _⟩ := I.tuple h
  refine ⟨pl.typeIs, fun b eb => ?_⟩
  cases eb
  rcases p with ⟨u, ws, h1, h2⟩ | ⟨u, h1, h2⟩
  · have ok : s.heap.get? a = some u ∧ _ := I.hok a _ h1
    exact ⟨u, ok.1, h2⟩
  · exact ⟨u, I.kIn a u h1, h2⟩
def rTCnt (K : PySem.W.Frag) (a : Addr) : List V → Hp → VK → Prop := fun ys H Q => ∃ (ns : List Int) (k : Int), ys = [.int k] ∧ SqT K H a (ns.map V.int) ∧ Q (.int (ns.count k : Nat)) H
theorem tcount_ok {pins : List (Addr × Obj)} {σ : St} {H : Hp} {s : Shared} {a : Addr} {ys : List V} {us : List Value} {Q : VK} (I : Inv X pins σ H s) (r : Vals ys us) (h : rTCnt X.K a ys H Q) :
    wpAny (model X.prog X.w) X.A (call (.builtin "tuple.count") (.ref a :: us)) (EP X pins σ Q) X.xe s := by
  obtain ⟨ns, k, rfl, hs, q⟩ := h
  obtain ⟨u, rfl, t, rfl⟩ := r.one
  obtain ⟨its, rv, ⟨⟨cls, dd, data, sl⟩, ho, hc, n, hd⟩, hz⟩ := I.tuple hs
  simp only at hc hd
  subst hc hd
  have hi := ints_of_vals rv
  have cnt : its.toArray.toList.countP (eqk k) = ns.count k := eqk_count hi
  refine call_meets F.slot_tuple_count ⟨_, ho, rfl⟩ F.entry_tuple_count (F.args_tuple_count_2 _ _) (SeqAt.tuple_countAt a its.toArray n dd sl (.int k t) (eqk k)) ⟨ho, fun y hy => ?_, ?_⟩
  · exact (eqk_gives hi y (by simpa using hy)).at _ _
  · rw [cnt]
    exact ⟨.int (ns.count k : Nat), H, I.tok _, ⟨s.toks, rfl⟩, q⟩
def tTCnt (K : PySem.W.Frag) (to : TE) (t : TA) : TE := fun σ H Q => to σ H fun x H1 => ∃ a vs, x = .ref a ∧ SqT K H1 a vs ∧ PlT K H1 a ∧ t σ H1 fun ys H2 => rTCnt K a ys H2 Q
theorem pe_tcount (ho : PE X o to) (ha : PA X [e] t) (hb : attributeBase o "count" X.env (eval o X.env) = eval o X.env)
    (hf : ((backTo cpos (starEach [e] X.env)).all (fun x => !x.1) && (backToKw cpos (keywordEach [] X.env)).all (fun x => x.1.isSome) && decide ([e].length + ([] : List Keyword).length + (if ([] : List Keyword).isEmpty then 0 else 1) < 30)) = true)
    (hl : (apos.endLine == cpos.line) = true) (hs : starEach [e] X.env = (false, eval e X.env) :: starEach [] X.env) : PE X (.Call (.Attribute o "count" apos) [e] [] cpos) (tTCnt X.K to t) := by
  refine ⟨fun pins s σ H Q I h => wpAny_Call_method_late hb hf hl rfl (thn (ho.run pins s σ H _ I h) fun v s1 ⟨x, H1, I1, r1, a, vs, ex, hq, hp, q1⟩ => ?_)⟩
  subst ex
  cases r1
  obtain ⟨h1, h2⟩ := plt_is I1 hq hp
  refine ⟨"tuple", "tuple.count", F.plainAttrs_tuple, F.slot_tuple_count, F.type_tuple_count, h1, h2, ?_⟩
  have hA := ha.run cpos pins s1 σ H1 _ I1 q1
  rw [hs] at hA ⊢
  exact Calls.callWith_builtin rfl (Calls.evalArgs_plain (thn hA fun us s2 ⟨ys, H2, I2, r2, q2⟩ => tcount_ok I2 r2 q2))
end
section
variable {Φ : Nat → List D → (D → Prop) → (Nat → Prop) → Prop} {exN : Nat → Str} {dr : Nat → Nat}
variable {X : Cx} {R : RT} {Ed : Nat → Prop} {tg e o : Expr} {es : List Expr} {a b c : C} {pos p ap cp : Pos}
theorem methD_count {d y : D} {Q : D → Prop} (h : methD .count d y Q) : ∃ ps k ns, d = .T ps ∧ y = .args [.I k] ∧ intsP ps = some ns ∧ Q (.I (ns.count k : Nat)) := by
  unfold methD at h
  split at h
  · obtain ⟨ns, h1, h2⟩ := h
    exact ⟨_, _, ns, rfl, rfl, h1, h2⟩
  · rename_i e; cases e
  · exact h.elim
theorem methD_cint {d : D} {y : D} {Q : D → Prop} (h : methD .count d y Q) : ∃ ps ns, d = .T ps ∧ intsP ps = some ns := by
  obtain ⟨ps, k, ns, h1, _, h2, _⟩ := methD_count h
  exact ⟨ps, ns, h1, h2⟩
/-- a tuple of ints, by its data -/
def tintD : D → Bool
  | .py (.tuple xs) => intsP0 xs
  | _ => false
theorem nd_count {m : Str} (hsg : R.sg = true) (hm : m = "count") (hK : X.K = R.K) (hs : isStar e = false) (hline : (ap.endLine == cp.line) = true) (hbase : attributeBase o "count" X.env (eval o X.env) = eval o X.env)
    (ho : PE X o (TEx Φ exN dr R (rlB R) Ed a)) (ha : PA X [e] (TAx Φ exN dr R (rlB R) Ed b)) : PE X (.Call (.Attribute o m ap) [e] [] cp) (TEx Φ exN dr R (rlN R) Ed (.meth .count a b)) := by
  subst hm
  refine PEw (pe_tcount ho ha hbase (kw_nil1 hs) hline (each_plain hs)) fun σ H Q ⟨n, F, ρ, Qd, E, hn, hw, k⟩ => ?_
  simp only [wp] at hw
  simp only [drw] at hn k
  refine ⟨n, F, ρ, _, E, by omega, hw, fun d v F1 H1 q1 x1 r1 => ?_⟩
  obtain ⟨q0, q1⟩ := q1
  obtain ⟨ps, rfl, h0⟩ : ∃ ps, d = .T ps ∧ intsP0 ps = true := by
    unfold tyM at q0
    split at q0
    · exact ⟨_, rfl, q0⟩
    · rename_i e; cases e
    · cases q0
  obtain ⟨a1, vs, rfl, h1, h10, h2⟩ := RB.tupleP r1
  rw [hK]
  refine ⟨a1, vs, rfl, h1, h10 hsg h0, n + drw dr a, F1, ρ, _, x1.env, by omega, q1, fun ds us F2 H2 q2 x2 r2 hl => ?_⟩
  obtain ⟨ps', kk, ns, e1, e2, e3, q⟩ := methD_count q2
  cases e1
  cases e2
  obtain ⟨w, rfl, rw1⟩ := ra1 r2
  cases (RB.int rw1)
  obtain ⟨a2, ws, e5, g1, g2⟩ := RB.tuple (RB.mono x1.env x2.ext x2.sub r1)
  cases e5
  rw [g2.ints e3] at g1
  exact ⟨ns, kk, rfl, g1, k _ _ _ _ q ((x1.trans x2).mono (by omega)) .of_int⟩
theorem nd_ienumT (hK : X.K = R.K) (hg : Gl X "enumerate") (hm : X.mg "enumerate" = none) {elts : List Expr} {kk : Nat} {tpos : Pos} (hs : isStar e = false) {bb : Bool}
    (ha : PE X e (TEx Φ exN dr R (rlB R) Ed a)) : PI X (.Tuple elts kk tpos) (.Call (.Name "enumerate" p) [e] [] pos) (TIx Φ exN dr R bb Ed (.enumT a)) :=
  PIw (pi_enumA (b := R.sg) hg hm ha (each_plain hs)) fun σ H K ⟨n, F, ρ, Qd, E, hn, hw, hi, k⟩ => by
    simp only [wp] at hw
    simp only [drw] at hn k
    refine ⟨n, F, ρ, _, E, hn, hw, fun d v F1 H1 q1 x1 r1 => ?_⟩
    rw [hK]
    split at q1
    · obtain ⟨a, vs, rfl, g1, g2⟩ := RB.tuple r1
      exact .inr ⟨_, rfl, ⟨_, g1⟩, k _ _ _ F1 H1 q1 rfl x1 (yl_enumT g1 g2) (fun z => by cases z)⟩
    · exact q1.elim
end
/-! ### a call that is lent a list -/
mutual
theorem Rp.free {sg : Bool} {K : PySem.W.Frag} {F F' : Addr → Prop} {H : Hp} : ∀ {v : V} {p : PyData}, noLP p = true → Rp sg K F H v p → Rp sg K F' H v p
  | _, _, _, .non => .non
  | _, _, _, .bl b => .bl b
  | _, _, _, .int i => .int i
  | _, _, _, .str x => .str x
  | _, _, h, .lst _ _ _ => nomatch h
  | _, _, h, .tup h1 h0 h2 => .tup h1 h0 (RpAll.free (by simpa only [noLP] using h) h2)
theorem RpAll.free {sg : Bool} {K : PySem.W.Frag} {F F' : Addr → Prop} {H : Hp} : ∀ {vs : List V} {ps : List PyData}, noLA ps = true → RpAll sg K F H vs ps → RpAll sg K F' H vs ps
  | _, _, _, .nil => .nil
  | _, _, h, .cons h1 h2 => by
    simp only [noLA, Bool.and_eq_true] at h
    exact .cons (Rp.free h.1 h1) (RpAll.free h.2 h2)
end
section
variable {Φ : Nat → List D → (D → Prop) → (Nat → Prop) → Prop} {exN : Nat → Str} {dr : Nat → Nat}
variable {X : Cx} {R : RT} {z : Pz} {Ed : Nat → Prop} {e : Expr} {es : List Expr} {a : C} {pos : Pos}
/-- the lists that are lent, besides -/
def LentF (R : RT) (F : Addr → Prop) (H : Hp) : Addr → Prop := fun b => F b ∨ ((∃ ws, H b = some (.lst ws)) ∧ NotS R.sa b)
theorem ra_lent {F : Addr → Prop} {H : Hp} : ∀ {vs : List V} {ds : List D}, RAx (RB R F H) vs ds → RA R (LentF R F H) H vs ds
  | [], [], _ => trivial
  | v :: vs, d :: ds, ⟨a, b⟩ => ⟨by
      rcases a with a | ⟨u, ws, ps, h1, h2, h3, h4, h5⟩
      · exact a.mono (fun _ _ q _ => q) fun _ h => .inl h
      · subst h1 h2
        exact Rp.lst h3 (.inr ⟨⟨_, h3⟩, h4⟩) (h5.mono (fun _ _ q _ => q) fun _ h => .inl h), ra_lent b⟩
  | [], _ :: _, h => h.elim
  | _ :: _, [], h => h.elim
theorem rd_free {F F' : Addr → Prop} {H : Hp} {v : V} {d : D} (h : noLD d = true) (r : RD R F H v d) : RD R F' H v d := by
  cases d with
  | py p => exact Rp.free h r
  | _ => cases h
theorem sp_lent {k n : Nat} {F : Addr → Prop} {σ : St} {H : Hp} {ρ : Ev} {vs : List V} {ds : List D} {Qd : D → Prop} {Q : VK} (E : EnvOk R n F σ H ρ) (hn : n + dr k ≤ R.nb) (hB : R.nb ≤ BIG) (tt : R.sa.T = R.S.T0) (hr : RAx (RB R F H) vs ds) (hw : Φ k ds (fun d => noLD d = true ∧ Qd d) Ed)
    (kk : ∀ d v F' H', Qd d → Nxt R (n + dr k) σ ρ F H F' H' → RD R F' H' v d → Q v H') :
    spF R.S Φ dr k vs H Q (fun cls d H' => ∃ j, Ed j ∧ cls = .ref (R.ex j) ∧ d = none ∧ Ext R.sa R.H0 H' ∧ StOk R.sa R.nb H') := by
  refine ⟨R.sa, n, LentF R F H, ds, _, Ed, ⟨E.st, E.st.s0, fun b hb => ?_, fun b hb => ?_, ?_⟩, Nat.le_trans hn hB, RA.to (R := R) (R' := ⟨R.S, R.sa, n + dr k, H, LentF R F H⟩) rfl rfl (ra_lent hr), hw, fun d v F' H' q A r => ?_, fun j H' q x st => ⟨j, q, rfl, rfl, E.ext.trans x, st.mono hn⟩⟩
  · rcases hb with h | ⟨_, h⟩
    · exact E.fs b h
    · exact h
  · rcases hb with h | ⟨⟨ws, h⟩, _⟩
    · exact E.fr b h
    · rw [h]; exact fun z => nomatch z
  · exact tt
  · have A2 : Aft ⟨R.S, R.sa, n + dr k, H, F⟩ F H F H' := ⟨A.ext, A.st, fun _ h => h, fun a ha => A.fr a (A.sub a (.inl ha)), fun a ha => .inl ha, E.fs⟩
    exact kk d v F H' q.2 (E.after A2) (rd_free q.1 (RD.to (R := ⟨R.S, R.sa, n + dr k, H, LentF R F H⟩) (R' := R) rfl rfl r))
theorem nd_callb {S : RS} {lv : Nat → Nat} {k : Nat} {x : Str} {p : Pos} (hA : At S z X) (hS : R.S = S) (w : Wsh R Ed X) (FH : FHeld S Φ dr lv k) (hl : lv k ≤ z.L) (hg : Gl X x) (hm : S.mg x = some (.ref (S.fa k))) (hd : (x == ("__debug__" : Str)) = false)
    (hs : (e :: es).all (fun e => !isStar e) = true) (ha : PA X (e :: es) (TAx Φ exN dr R (rlB R) Ed a)) : PE X (.Call (.Name x p) (e :: es) [] pos) (TEx Φ exN dr R (rlD R) Ed (.callb k a)) := by
  subst hS
  obtain ⟨fd, ps, F, b⟩ := FH.ex
  rw [List.all_cons, Bool.and_eq_true, Bool.not_eq_true'] at hs
  refine PEw (pe_call (F := by rw [hA.hP, hA.hw, hA.hK, hA.hm, hA.hb]; exact F) (hA.hr.mono hl) hg (by rw [hA.hm]; exact hm) (by rw [hA.hK]; exact FH.kp) (by rw [hA.hK]; exact b) .nil (w.passes hA.hP hA.hw) ha hd (each_plain hs.1) (none_star hs.2)) fun σ H Q ⟨n, F, ρ, Qd, E, hn, hw, kk⟩ => ?_
  simp only [wp] at hw
  simp only [drw] at hn kk
  refine ⟨n, F, ρ, _, E, by omega, hw, fun ds vs F1 H1 q1 x1 r1 _ => ?_⟩
  show spF R.S Φ dr k (vs ++ []) H1 Q _
  rw [List.append_nil]
  exact sp_lent x1.env (by omega) w.big w.tt r1 q1 fun d v F' H' q x2 r => kk d v F' H' q ((x1.trans x2).mono (by omega)) r
end
end Y

/-! part Y16 -/
set_option Elab.async false
set_option linter.all false
set_option maxRecDepth 100000
set_option maxHeartbeats 2000000
/-! Y16: a lambda is made; what it changes. -/
namespace Y
open PySem PySem.Spec PyProof.Rows LamX
open L2 (Hp HO V Cx Inv TE TI TT TG TS VK XK upd upd_ne upd_same ne_of_none frs CX cloFrom PE PS PSs FnScope Gl Vis Room Takes WX cxOf closure_ok E0)
/-- the table at P may have grown by a new code object -/
def Lst (P : Addr) (q : Str) (H H1 : Hp) : Prop := H1 = H ∨ ∃ (ps : Array Value) (c' : Addr), H P ≠ none ∧ H c' = none ∧ H1 = upd (upd H P (.tbl ps)) c' (CodeO c' q)
section
variable {X : Cx} {pins : List (Addr × Obj)} {σ : L2.St} {H : Hp} {s : Shared}
theorem lam_make3 {T : List (Addr × Str)} {c P : Addr} {params : Arguments} {body : Expr} {scope : Scope} {pos : Pos} {E : Value → Shared → Prop} {Q : Value → Shared → Prop} (I : Inv X pins σ H s) (TB : TabB X.base X.mg c P) (hcode : X.env.code = .ref c)
    (hm : (P, X.env.qual ++ "<lambda>") ∈ T) (hu : ∀ p ∈ T, p.1 = P → p.2 = X.env.qual ++ "<lambda>") (hT : Tabs T H) (hdef : defaultsOf params X.env = ([], [])) (hfree : ∀ y ∈ scope.names, y.2 = .free → ∃ c, X.env.cells.lookup y.1 = some c)
    (h : ∀ (f c' : Addr) (pm ctv : Value) (H1 : Hp) (s' : Shared), Inv X pins σ H1 s' → Lst P (X.env.qual ++ "<lambda>") H H1 → Tabs T H1 →
      s'.heap.get? f = some (PySem.W.kla_obj "<lambda>" (X.env.qual ++ "<lambda>") params body scope (cloFrom X.env.cells scope.names []) pm c' ctv) → H1 f = none → f ∉ frs X.stack → H1 c' = some (CodeO c' (X.env.qual ++ "<lambda>")) → Q (.ref f) s') :
    wpAny (model X.prog X.w) X.A (eval (.Lambda params body scope pos) X.env) Q E s := by
  obtain ⟨ps, hP, ht, ha⟩ := hT _ hm
  have bP : s.heap.BuiltinsAt X.mg P := TB.bm.keeps I.bk
  have hP' : s.heap.get? P = some { cls := .none, data := .fields ps } := I.hok P _ hP
  have nofr : ∀ f, s.heap.objs.size ≤ f → f ∉ frs X.stack := fun f hf z => by
    rcases List.mem_cons.mp (I.stkSub _ z) with e | e
    · have h1 := I.lt
      rw [← e] at h1
      exact Nat.lt_irrefl _ (Nat.lt_of_lt_of_le h1 hf)
    · exact I.nofs hf e
  refine PySem.W.kla_eval hdef ?_
  cases hc : codeAmong pos ps.toList with
  | some cv =>
    obtain ⟨c', e, hco⟩ := ha pos cv hc
    subst e
    refine PySem.W.kla_makeFunctionHit (mg := X.mg) (c := c) (P := P) (ps := ps) (closure_ok hfree) I.ok.glob (I.mod.glob.keeps I.bk) hcode (TB.code.keeps I.bk) hP' ht hc bP fun ctv h' tk hx hsz => ?_
    have I1 : Inv X pins σ H { s with heap := h'.push (PySem.W.kla_obj "<lambda>" (X.env.qual ++ "<lambda>") params body scope (cloFrom X.env.cells scope.names []) ((X.mg "__name__").getD .none) c' ctv), toks := tk } := I.kept fun b o e => Heap.get?_push_of_some _ (hx b o e)
    exact h _ c' _ ctv H _ I1 (.inl rfl) hT (Heap.get?_push_size _ rfl) (I.hok.fresh hsz) (nofr _ hsz) hco
  | none =>
    refine PySem.W.kla_makeFunction (mg := X.mg) (c := c) (P := P) (ps := ps) (closure_ok hfree) I.ok.glob (I.mod.glob.keeps I.bk) hcode (TB.code.keeps I.bk) hP' ht hc TB.gP bP fun c' ctv h' tk hx hge hlt hrec htb => ?_
    obtain ⟨c2, oc, vs, t, e2, hoc, hd, hv⟩ := hrec
    cases e2
    have hsz : s.heap.objs.size ≤ h'.objs.size := Nat.le_trans hge (Nat.le_of_lt hlt)
    have nC : H c' = none := I.hok.fresh hge
    have I1 := inv_table (t' := tk) (more := #[rawInt pos.line, rawInt pos.col, .ref c']) (h' := h'.push (PySem.W.kla_obj "<lambda>" (X.env.qual ++ "<lambda>") params body scope (cloFrom X.env.cells scope.names []) ((X.mg "__name__").getD .none) c' ctv)) I hP
      (fun b o hb e => Heap.get?_push_of_some _ (hx b o hb e)) (Heap.get?_push_of_some _ htb) hge ⟨oc, vs, t, Heap.get?_push_of_some _ hoc, hd, hv⟩
    have keepC : ∀ c0, H c0 = some (CodeO c0 (X.env.qual ++ "<lambda>")) ∨ (∃ q, H c0 = some (CodeO c0 q)) → c0 ≠ P ∧ c0 ≠ c' := fun c0 hz => by
      have : ∃ q, H c0 = some (CodeO c0 q) := hz.elim (fun z => ⟨_, z⟩) id
      obtain ⟨q, hz⟩ := this
      refine ⟨fun z => ?_, ne_of_none hz nC⟩
      rw [z, hP] at hz
      exact codeO_ne ps (Option.some.inj hz).symm
    have eL : (ps ++ #[rawInt pos.line, rawInt pos.col, .ref c']).toList = ps.toList ++ [rawInt pos.line, rawInt pos.col, .ref c'] := by simp
    refine h h'.objs.size c' _ ctv _ _ I1 (.inr ⟨_, c', (by rw [hP]; exact Option.some_ne_none _), nC, rfl⟩) (fun p hp => ?_) (Heap.get?_push_size _ rfl) ?_ (nofr _ hsz) upd_same
    · by_cases hb : p.1 = P
      · rw [hu p hp hb, hb]
        refine ⟨_, by rw [upd_ne (ne_of_none hP nC), upd_same], by rw [eL]; exact PySem.TriplesOk_snoc _ _ _ _ ht, fun p' cv hcv => ?_⟩
        rw [eL] at hcv
        rcases among_app _ ht hcv with z | z
        · obtain ⟨c0, e1, e2⟩ := ha p' cv z
          obtain ⟨n1, n2⟩ := keepC c0 (.inl e2)
          exact ⟨c0, e1, by rw [upd_ne n2, upd_ne n1]; exact e2⟩
        · exact ⟨c', z, upd_same⟩
      · obtain ⟨ps', a1, a2, a3⟩ := hT p hp
        refine ⟨ps', by rw [upd_ne (ne_of_none a1 nC), upd_ne hb]; exact a1, a2, fun p' cv hcv => ?_⟩
        obtain ⟨c0, e1, e2⟩ := a3 p' cv hcv
        obtain ⟨n1, n2⟩ := keepC c0 (.inr ⟨_, e2⟩)
        exact ⟨c0, e1, by rw [upd_ne n2, upd_ne n1]; exact e2⟩
    · rw [upd_ne (Nat.ne_of_gt hlt), upd_ne (Nat.ne_of_gt (Nat.lt_of_lt_of_le (Heap.lt_size hP') hsz))]
      exact I.hok.fresh hsz
def tLam3 (T : List (Addr × Str)) (P : Addr) (q : Str) (TT : (XK → Hp → VK → Prop) → Hp → VK → Prop) (t : XK → TE) : TE := fun σ H Q => Tabs T H ∧ ∀ H1, Lst P q H H1 → Tabs T H1 → TT (fun E H' Q' => t E σ H' Q') H1 Q
end
/-- the context of the lambda's body; an exception leaves as L2N.CX says -/
abbrev lamN (X : Cx) (A : Around) (outer : List Env) (s : Shared) (H : Hp) (E : XK) (scope : Scope) (f c' : Addr) : Cx :=
  (lamCx X A outer s H E scope f c').wish fun e s' => wpAny (model X.prog X.w) (A.deeper (lamEnv X scope s.heap.objs.size f c')) (leaving (lamEnv X scope s.heap.objs.size f c') e) (fun _ s'' => L2N.CX X.prog X.w outer H s E e s'') (fun e' s'' => L2N.CX X.prog X.w outer H s E e' s'') s'
section
variable {X : Cx} {pins : List (Addr × Obj)} {σ : L2.St} {H : Hp} {s : Shared}
/-- x(), in the def that got the lambda -/
theorem pe_actN {CXg : L2.CXT} {Eg : XK} {Ng : List Str} {qg : Str} {sg : Scope} {g f c' : Addr} {cdg pm ctv : Value} {params : Arguments} {body : Expr} {scope : Scope} {k i : Nat} {a : Str} {pn : List (Addr × Obj)} {xe : Value → Shared → Prop} {W : WX} {E : XK} {tb : TE} {p1 p2 : Pos}
    (I : Inv X pins σ H s) (L : LamS X.env.scope scope) (hf : s.heap.get? f = some (PySem.W.kla_obj "<lambda>" (X.env.qual ++ "<lambda>") params body scope (cloFrom X.env.cells scope.names []) pm c' ctv)) (hfn : H f = none) (hfr : f ∉ frs X.stack)
    (hbind : bindArgs (PySem.W.kla_fn "<lambda>" (X.env.qual ++ "<lambda>") params body scope (cloFrom X.env.cells scope.names []) pm (.ref c') ctv) ⟨[], []⟩ = pure [])
    (tk : L2N.Takes ((cxOf CXg X.prog X.w X.K X.mg X.base Ng qg sg g cdg X.A X.stack s H Eg).tr pn xe) W) (hW : ∀ cls d σ' H', E cls d H' → W cls d σ' H') (hr : Room (k + 1) (X.A.deeper (envOfC qg sg s.heap.objs.size g cdg)))
    (hbody : ∀ (A : Around) (outer : List Env) (s : Shared) (H : Hp), Room k (A.deeper (lamEnv X scope s.heap.objs.size f c')) → PE (lamN X A outer s H E scope f c') body tb)
    (hN : Ng[i]? = some a) (hv : Vis sg a) (hd : (a == ("__debug__" : Str)) = false) (hcd : (a == ("__classdict__" : Str)) = false) :
    PE ((cxOf CXg X.prog X.w X.K X.mg X.base Ng qg sg g cdg X.A X.stack s H Eg).tr pn xe) (.Call (.Name a p1) [] [] p2)
      (fun σZ HZ Q => σZ[i]? = some (some (.ref f)) ∧ HZ c' = some (CodeO c' (X.env.qual ++ "<lambda>")) ∧ tb σ HZ Q) := by
  refine ⟨fun pinsZ sZ σZ HZ Q IZ h => ?_⟩
  obtain ⟨hs, hc, ht⟩ := h
  refine wpAny_Call_Name_kw (L2.thn ((L2.pe_var (pos := p1) (i := i) hN hv hd hcd).run pinsZ sZ σZ HZ (fun v H1 => v = .ref f ∧ H1 = HZ) IZ ⟨.ref f, hs, rfl, rfl⟩) fun u s1 ⟨v, H1, I1, r1, q1⟩ => ?_)
  obtain ⟨rfl, rfl⟩ := q1
  obtain rfl : u = Value.ref f := r1
  have of1 : s1.heap.get? f = some (PySem.W.kla_obj "<lambda>" (X.env.qual ++ "<lambda>") params body scope (cloFrom X.env.cells scope.names []) pm c' ctv) := I1.base.keep f _ hf hfn hfr (fun z => nomatch (show f ∈ ([] : List Addr) from z))
  refine PySem.W.callWith_F0 ⟨_, _, _, _, of1⟩ ?_
  obtain ⟨⟨oc, vs, t, hoc, hdc, hvc⟩, _, _⟩ := I1.hok c' _ hc
  have rc : codeAny (model X.prog X.w) (X.A.deeper (envOfC qg sg s.heap.objs.size g cdg)) (.call (.ref f) ⟨[], []⟩) (L2.CR (L2N.CX X.prog X.w) (envOfC qg sg s.heap.objs.size g cdg :: X.stack) X.prog X.w H1 s1 Q E) s1 := by
    refine PySem.W.kla_callFunE hr.depth of1 rfl L.co L.gen rfl ⟨c', oc, vs, t, rfl, hoc, hdc, hvc⟩ ?_
    rw [hbind]
    refine wpAny_pure (wpAny_newFunctionEnv (fun y hy => (L.own y hy).2) (fun y hy => absurd hy (by simp)) (fun h₁ hns hsb => ⟨I1.nolimit.fresh _ hsb, ?_⟩) L.kind)
    show codeAny _ _ (.expr body (lamEnv X scope s1.heap.objs.size f c')) _ _
    have kp : ∀ b o, s1.heap.get? b = some o → h₁.get? b = some o := fun b o e => hsb.extBut b o (Nat.ne_of_lt (Heap.lt_size e)) (Heap.get?_push_of_some _ e)
    have J := (lam_start2 (f := f) (c' := c') (E := E) (tk := s1.toks + ([] : List (Str × Value)).length) I L I1.env0 hr.hd I1.base hns kp).wish (fun e s' => wpAny (model X.prog X.w) ((X.A.deeper (envOfC qg sg s.heap.objs.size g cdg)).deeper (lamEnv X scope s1.heap.objs.size f c')) (leaving (lamEnv X scope s1.heap.objs.size f c') e) (fun _ s'' => L2N.CX X.prog X.w (envOfC qg sg s.heap.objs.size g cdg :: X.stack) H1 s1 E e s'') (fun e' s'' => L2N.CX X.prog X.w (envOfC qg sg s.heap.objs.size g cdg :: X.stack) H1 s1 E e' s'') s')
    refine PySem.W.kla_codeExpr (wpAny_mono ((hbody _ _ s1 H1 (hr.deeper _)).run [] _ _ H1 Q J ht) (fun v s' hq => ?_) fun e s' hq => hq)
    obtain ⟨w', H', J', rv, q⟩ := hq
    exact ⟨w', H', J'.os, J'.bare, J'.base, J'.hok, rv, q⟩
  have hx : L2.Passes (L2N.CX X.prog X.w) ((cxOf CXg X.prog X.w X.K X.mg X.base Ng qg sg g cdg X.A X.stack s H Eg).tr pn xe) E := L2N.passes_call tk hW
  refine wpAny_call (codeAny_mono rc fun r s' hq => ?_)
  cases r with
  | error e => exact hx pinsZ σZ H1 s1 e s' I1 hq
  | ok fl =>
    cases fl with
    | ret u => exact I1.after hq
    | next => exact False.elim hq
    | brk => exact False.elim hq
    | cont => exact False.elim hq
end
/-- the def that calls what it got: a calls it; TT: what it makes of the lambda's reading -/
def GivesN (X : Cx) (Ng : List Str) (x : Str) (sg : Scope) (g : Addr) (cdg : Value) (bg : List Stmt) (a : Str) (q : Str) (TT : (XK → Hp → VK → Prop) → Hp → VK → Prop) : Prop :=
  ∀ (f c' : Addr) (s : Shared) (H : Hp) (Q : VK) (tl : XK → Hp → VK → Prop),
    (∀ (W : WX) (pn : List (Addr × Obj)) (xe : Value → Shared → Prop) (E : XK) (p1 p2 : Pos), L2N.Takes ((cxOf C8.CX0 X.prog X.w X.K X.mg X.base Ng x sg g cdg X.A X.stack s H C8.E0).nox.tr pn xe) W → (∀ cls d σ' H', E cls d H' → W cls d σ' H') →
      PE ((cxOf C8.CX0 X.prog X.w X.K X.mg X.base Ng x sg g cdg X.A X.stack s H C8.E0).nox.tr pn xe) (.Call (.Name a p1) [] [] p2) (fun σZ HZ Q => σZ[0]? = some (some (.ref f)) ∧ HZ c' = some (CodeO c' q) ∧ tl E HZ Q)) →
    H c' = some (CodeO c' q) → TT tl H Q →
    ∃ t, PSs (cxOf C8.CX0 X.prog X.w X.K X.mg X.base Ng x sg g cdg X.A X.stack s H C8.E0).nox bg t ∧ t { nx := fun _ H' => Q .non H', rt := Q } (L2.start Ng [.ref f]) H
section
variable {X : Cx}
/-- x(lambda: body) -/
theorem pe_lamcall3 {T : List (Addr × Str)} {TT : (XK → Hp → VK → Prop) → Hp → VK → Prop} {x a : Str} {g c P : Addr} {k : Nat} {pg : Arguments} {bg : List Stmt} {sg : Scope} {dV kV doc pm cdv ct oc : Value} {an od : Option Addr} {osl : Array (Option Value)} {Ng : List Str}
    {params : Arguments} {body : Expr} {scope : Scope} {t : XK → TE} {p lpos pos : Pos} (hg : Gl X x) (hm : X.mg x = some (.ref g)) (hk : PySem.W.keepIn X.K (.ref g) = true)
    (lk : X.K.lookup g = some ⟨oc, od, .func (PySem.W.fnOf x x pg bg sg dV kV doc pm an cdv ct), osl⟩) (hcg : PySem.W.codeIn X.K cdv x = true) (hb : L2.Binds X.K (PySem.W.fnOf x x pg bg sg dV kV doc pm an cdv ct) [a] []) (Sg : FnScope Ng [a] sg) (hNg : Ng[0]? = some a) (hva : Vis sg a)
    (hG : GivesN X Ng x sg g cdv bg a (X.env.qual ++ "<lambda>") TT)
    (TB : TabB X.base X.mg c P) (hcode : X.env.code = .ref c) (hmT : (P, X.env.qual ++ "<lambda>") ∈ T) (hu : ∀ p ∈ T, p.1 = P → p.2 = X.env.qual ++ "<lambda>") (hr : Room (k + 2) X.A) (L : LamS X.env.scope scope) (hdef : defaultsOf params X.env = ([], []))
    (hbind : ∀ (q : Str) (cl : List (Str × Addr)) (pm cv ctv : Value), bindArgs (PySem.W.kla_fn "<lambda>" q params body scope cl pm cv ctv) ⟨[], []⟩ = pure [])
    (hbody : ∀ (A : Around) (outer : List Env) (s : Shared) (H : Hp) (E : XK) (f c' : Addr), Room k (A.deeper (lamEnv X scope s.heap.objs.size f c')) → PE (lamN X A outer s H E scope f c') body (t E))
    (hdb : (x == ("__debug__" : Str)) = false) (hd : (a == ("__debug__" : Str)) = false) (hcd : (a == ("__classdict__" : Str)) = false) :
    PE X (.Call (.Name x p) [.Lambda params body scope lpos] [] pos) (tLam3 T P (X.env.qual ++ "<lambda>") TT t) := by
  refine ⟨fun pins s σ H Q I h => ?_⟩
  obtain ⟨hT, h⟩ := h
  refine wpAny_Call_Name_kw (L2.ld_glob I hg hm ?_ hdb)
  refine PySem.W.callWith_K (h₀ := X.base) I.ok.mod.kin hk ?_ (by rfl) (by rfl)
  show wpAny _ _ (spliced ((false, eval (.Lambda params body scope lpos) X.env) :: backTo pos (starEach [] X.env))) _ _ s
  refine Calls.spliced_cons (lam_make3 I TB hcode hmT hu hT hdef (L.has I.ok) fun f c' pm' ctv H1 s' I1 eN T1 hf hfn hfr hco => Calls.spliced_nil ⟨I1.kIn, ?_⟩)
  have rc : codeAny (model X.prog X.w) X.A (.call (.ref g) ⟨[.ref f], []⟩) (L2.CR C8.CX0 X.stack X.prog X.w H1 s' Q C8.E0) s' := by
    refine run_ofS (N := Ng) (ps := [a]) (us := [.ref f]) (vs := [.ref f]) lk hcg Sg hr I1.env0 (hb s' [.ref f] I1.kIn rfl) (.cons rfl .nil) rfl fun hr' => ?_
    obtain ⟨t', ht', hq'⟩ := hG f c' s' H1 Q (fun E H' Q' => t E σ H' Q') (fun W pn xe E p1 p2 tk hW => pe_actN (CXg := C8.CX0) (Eg := C8.E0) (i := 0) I1 L hf hfn hfr (hbind _ _ _ _ _) tk hW hr' (fun A outer s H hr2 => hbody A outer s H E f c' hr2) hNg hva hd hcd) hco (h H1 eN T1)
    exact ⟨t', ht'.nox, hq'⟩
  refine wpAny_call (codeAny_mono rc fun r s2 hq => ?_)
  cases r with
  | error e => exact (show False from hq).elim
  | ok fl =>
    cases fl with
    | ret u => exact I1.after hq
    | next => exact False.elim hq
    | brk => exact False.elim hq
    | cont => exact False.elim hq
end
end Y

/-! part Y17 -/
set_option Elab.async false
set_option linter.all false
set_option maxRecDepth 100000
set_option maxHeartbeats 2000000
/-! Y17: a comprehension in an except suite. -/
namespace Y
open PySem PySem.Spec
open PyProof.Rows hiding St
open L2
open L2H (Hot1 HotC PIH TurnH)
section
variable {X : Cx}
/-- the exception that the suite handles, seen from a block within -/
theorem hot_in {pins : List (Addr × Obj)} {σ σ' : St} {H H' : Hp} {s s' : Shared} {scope : Scope} {ce : Env} {fp : List Addr} {p : Addr × Obj} (I : Inv X pins σ H s) (hp : p ∈ X.pn) (hL : ce.locals = s.heap.objs.size) (hf : p.1 ∉ fp) (J : Inv (X.blk s H scope ce fp) [] σ' H' s') :
    Inv ((X.blk s H scope ce fp).tr [p] fun _ _ => False) [] σ' H' s' := by
  obtain ⟨g1, g2, g3, g4, g5⟩ := I.pin p (List.mem_append_left _ hp)
  have nst : p.1 ∉ frs X.stack := fun hm => by
    rcases List.mem_cons.mp (I.stkSub _ hm) with z | z
    · exact g3 z
    · exact g4 z
  refine ⟨J.ok.toTry _ _, J.os, J.bare, J.base, J.loc, J.cell, J.free, J.freeC, fun q hq => ?_, J.hok, J.len⟩
  have e : q = p := by
    rw [List.append_nil] at hq
    exact List.mem_singleton.mp hq
  subst e
  refine ⟨J.base.keep _ _ g1 g2 nst hf, J.base.free _ _ g1 g2 hf, ?_, nst, g5⟩
  show q.1 ≠ ce.locals
  rw [hL]
  exact Nat.ne_of_lt (Heap.lt_size g1)
theorem hot_out {pn : List (Addr × Obj)} {xe : Value → Shared → Prop} {σ' : St} {H' : Hp} {s' : Shared} (ok : X.Ok) (hpn : X.pn = []) (J : Inv (X.tr pn xe) [] σ' H' s') : Inv X [] σ' H' s' :=
  ⟨ok, J.os, J.bare, J.base, J.loc, J.cell, J.free, J.freeC, fun q hq => absurd (show q ∈ ([] : List (Addr × Obj)) from by rw [hpn] at hq; exact hq) (by simp), J.hok, J.len⟩
theorem lcH_core {pins : List (Addr × Obj)} {s : Shared} {σ : St} {H : Hp} {Q : VK} {elt tg iter : Expr} {ifs : List Expr} {scope : Scope} {own : List (Str × Nat)} {pos pos' : Pos} {wi : TI} {g : TG} {tt : TT} {te : TE} {use : Option (Value → Sem Unit)} {Qf : Value → Shared → Prop} {p : Addr × Obj}
    (h1 : Hot1 X.A p) (hp : p ∈ X.pn) (hN : X.N.Nodup) (I : Inv X pins σ H s) (hi : PIH X tg iter wi) (ok : BlkOk X.N X.env.scope scope own)
    (hg : ∀ (s : Shared) (H : Hp) (C : Addr) (cl : List (Str × Addr)) (fp : List Addr), PG (X.blk s H scope (compEnvC scope cl C X.env) fp) tg g) (ht : ∀ (s : Shared) (H : Hp) (C : Addr) (cl : List (Str × Addr)) (fp : List Addr), PTs (X.blk s H scope (compEnvC scope cl C X.env) fp) ifs tt)
    (he : ∀ (s : Shared) (H : Hp) (C : Addr) (cl : List (Str × Addr)) (fp : List Addr), PE (X.blk s H scope (compEnvC scope cl C X.env) fp) elt te) (hs : ∀ x, foldedSetIterable iter X.env x = pure x)
    (h : tLc wi g tt te (own.map (·.2)) σ H Q)
    (hRR : ∀ D C s' m H', Inv X pins σ H' s' → Q (.ref D) H' → s'.heap.Ns C m → FpOk X pins H' C → compPost (model X.prog X.w) X.A X.xe use Qf (.ref D) C (.ok .next) s') :
    wpAny (model X.prog X.w) X.A (comprehension (.ListComp elt [⟨tg, iter, ifs, 0⟩] scope pos) scope X.env pos' (newList []) false (eval iter X.env) use) Qf X.xe s := by
  have hfree : ∀ y ∈ scope.names, y.2 = .free → ∃ c, X.env.cells.lookup y.1 = some c := fun y hy e => (ok.free y hy e).elim (fun k => I.ok.has _ (.inl k)) (fun k => I.ok.has _ (.inr k))
  refine wpAny_comprehension_free (use := use) rfl hs (closure_ok hfree) ok.kind (fun y hy e => by rw [ok.uniq y hy, e])
    (thn (hi.run pins s σ H _ I h) fun xv s1 hx => thn hx fun itv s2 ⟨it, fp, tn, J, H2, e, I2, T, st2, f2, q⟩ => ?_)
  subst e
  refine wpAny_newObj_type (newEnv_comp ?_) (by show 0 ≤ sizeLine; decide)
  generalize hD : s2.heap.objs.size = D
  obtain ⟨W, ⟨m0, w0⟩, turn⟩ := q D (I2.hok.fresh (Nat.le_of_eq hD))
  generalize hs3 : ({ s2 with heap := s2.heap.push { cls := .type "list", data := .seq ([] : List Value).toArray } } : Shared) = s3
  have I3 : Inv X pins σ (upd H2 D (.lst [])) s3 := by
    rw [← hs3]
    refine I2.laid (t' := s2.toks) (fun b o e => Heap.get?_push_of_some _ e) (Nat.le_of_eq hD) ⟨Nat.zero_le _, [], 0, .nil, ?_⟩
    rw [← hD]
    exact Heap.get?_push_size _ rfl
  have h3 : s3.heap = s2.heap.push { cls := .type "list", data := .seq ([] : List Value).toArray } := by rw [← hs3]
  have f3 : ∀ b ∈ fp, FpOk X pins (upd H2 D (.lst [])) b ∧ b < s3.heap.objs.size := fun b hb => by
    have hlt : b < s2.heap.objs.size := by
      obtain ⟨o, e, _⟩ := T.obj _ _ st2 b hb
      exact Heap.lt_size e
    refine ⟨⟨?_, (f2 b hb).2⟩, by rw [h3, Heap.size_push]; exact Nat.lt_succ_of_lt hlt⟩
    rw [upd_ne (by rw [← hD]; exact Nat.ne_of_lt hlt)]
    exact (f2 b hb).1
  have hpf : p.1 ∉ fp := fun hm => (f2 p.1 hm).2.2.2.2.2 p (List.mem_append_left _ hp) rfl
  have st3 : tn 0 s3.heap := T.keep _ _ _ st2 fun b _ o e => by rw [h3]; exact Heap.get?_push_of_some _ e
  have I4 := block_start I3 ok hN f3
  generalize hcl : cellsFrom (s3.heap.objs.size + 1) scope.names (cloFrom X.env.cells scope.names []) = cl at I4
  have pg := hg s3 (upd H2 D (.lst [])) s3.heap.objs.size cl fp
  have pt := ht s3 (upd H2 D (.lst [])) s3.heap.objs.size cl fp
  have pe := he s3 (upd H2 D (.lst [])) s3.heap.objs.size cl fp
  show codeAny _ _ (.compStart (.ListComp elt [⟨tg, iter, ifs, 0⟩] scope pos) 0 (.ref it) (.ref D) (compEnvC scope cl s3.heap.objs.size X.env)) (compPost (model X.prog X.w) X.A X.xe use Qf (.ref D) s3.heap.objs.size) { s3 with heap := pushCells (s3.heap.push { cls := .type "dict", data := .dict #[] }) scope.names }
  have nfp : ∀ b ∈ fp, (upd H2 D (.lst [])) b = none := fun b hb => (f3 b hb).1.1
  generalize hce : compEnvC scope cl s3.heap.objs.size X.env = ce at I4 pg pt pe ⊢
  have cL : ce.locals = s3.heap.objs.size := by subst hce; rfl
  generalize hH3 : upd H2 D (.lst []) = H3 at I3 I4 pg pt pe w0 nfp f3
  generalize hs4 : ({ s3 with heap := pushCells (s3.heap.push { cls := .type "dict", data := .dict #[] }) scope.names } : Shared) = s4 at I4 ⊢
  have st4 : tn 0 s4.heap := T.keep _ _ _ st3 fun b _ o e => by rw [← hs4]; exact pushCells_keeps _ _ _ _ (Heap.get?_push_of_some _ e)
  let XB : Cx := X.blk s3 H3 scope ce fp
  have hot : HotC (XB.tr [p] fun _ _ => False) := ⟨p, h1, List.mem_singleton_self _⟩
  have stat : ∀ {σ' : St} {H' : Hp} {s' : Shared}, Inv XB [] σ' H' s' → (∀ b ∈ fp, H' b = none) → ∀ b ∈ fp, FpOk XB [] H' b := fun {σ' H' s'} I' hn b hb =>
    ⟨hn b hb, (I'.ok.exf b hb).1, I'.ok.exfs b hb, .inl hb, fun x c e => (I'.ok.exf b hb).2 x c e, fun p hp => absurd (show p ∈ ([] : List (Addr × Obj)) ++ [] from hp) (by simp)⟩
  have statH : ∀ {σ' : St} {H' : Hp} {s' : Shared}, Inv XB [] σ' H' s' → (∀ b ∈ fp, H' b = none) → ∀ b ∈ fp, FpOk (XB.tr [p] fun _ _ => False) [] H' b := fun {σ' H' s'} I' hn b hb => by
    obtain ⟨a1, a2, a3, a4, a5, _⟩ := stat I' hn b hb
    refine ⟨a1, a2, a3, a4, a5, fun q hq z => ?_⟩
    have e : q = p := by
      rw [List.append_nil] at hq
      exact List.mem_singleton.mp hq
    subst e
    exact hpf (z ▸ hb)
  have loop : codeAny (model X.prog X.w) X.A (.compLoop (.ListComp elt [⟨tg, iter, ifs, 0⟩] scope pos) 0 (.ref it) (.ref D) ce) (compPost (model X.prog X.w) X.A X.xe use Qf (.ref D) s3.heap.objs.size) s4 := by
    refine compLoop_any (fun n s' => ∃ i H', Inv XB [] (wipe σ (own.map (·.2))) H' s' ∧ tn i s'.heap ∧ (∀ b ∈ fp, H' b = none) ∧ W i n H') ?_ m0 ⟨0, H3, I4, st4, nfp, w0⟩
    rintro n s5 ⟨i, H5, I5, st5, n5, w5⟩
    have I5h := hot_in I3 hp cL hpf I5
    rcases turn i n H5 w5 with ⟨stop, qq⟩ | ⟨go, Nx, hNx, step⟩
    · have td := T.done (XB.tr [p] fun _ _ => False) rfl rfl rfl hot i [] s5 _ H5 (fun _ _ => False) I5h (statH I5 n5) st5 stop
      refine thnF td fun r s6 ⟨hr, I6h⟩ => ?_
      subst hr
      have I6 := hot_out (X := XB) I5.ok rfl I6h
      have I7 : Inv X pins σ H5 s6 := I3.call' (ch := fp) I6.os I6.base I6.hok I6.bare fun b hb => ⟨(f3 b hb).1.2.2.2.1, (f3 b hb).1.2.1, (f3 b hb).1.2.2.2.2.1, (f3 b hb).1.2.2.2.2.2⟩
      have nC : H5 s3.heap.objs.size = none := by
        have z : H5 ce.locals = none := I6.free
        rw [cL] at z
        exact z
      obtain ⟨m, hn, _⟩ := I6.loc
      have hn : s6.heap.Ns ce.locals m := hn
      rw [cL] at hn
      exact hRR D s3.heap.objs.size s6 m H5 I7 qq hn (I3.fpOk (Nat.le_refl _) nC)
    · have ti := T.item (XB.tr [p] fun _ _ => False) rfl rfl rfl hot i [] s5 _ H5 (fun _ _ => False) I5h (statH I5 n5) st5 go
      refine thnF ti fun r s6 ⟨u, hr, h6⟩ => ?_
      subst hr
      refine thnF h6 fun _ s7 ⟨x, H7, I7h, r7, y7, st7, n7⟩ => ?_
      have I7 := hot_out (X := XB) I5.ok rfl I7h
      have I7' := I7.pinned (stat I7 n7) (T.obj _ _ st7)
      refine thnF (pg.run _ s7 _ H7 x u _ I7' r7 (step x H7 y7)) fun _ s8 ⟨σ8, H8, I8, hw8, q8⟩ => ?_
      refine thnF (pt.run _ s8 σ8 H8 _ I8 q8) fun b s9 ⟨H9, I9, q9⟩ => ?_
      have fin : ∀ {s' : Shared} {H' : Hp}, Inv XB ([] ++ pinsAt fp s7.heap) σ8 H' s' → Nx H' → ∃ m, m < n ∧ ∃ i H', Inv XB [] (wipe σ (own.map (·.2))) H' s' ∧ tn i s'.heap ∧ (∀ b ∈ fp, H' b = none) ∧ W i m H' := fun {s' H'} I' nx => by
        obtain ⟨m', hm, w'⟩ := hNx H' nx
        have pin' : ∀ b ∈ fp, ∀ o, s7.heap.get? b = some o → s'.heap.get? b = some o ∧ H' b = none := fun b hb o e =>
          let z := I'.pin (b, o) (List.mem_append_right _ (List.mem_append_right _ (mem_pinsAt hb e)))
          ⟨z.1, z.2.1⟩
        have hl : (wipe σ (own.map (·.2))).length = σ8.length := by rw [← hw8, wipe_length]
        refine ⟨m', hm, i + 1, H', (I'.unpinned (pins := [])).weak hl (fun j v e => ?_), T.keep _ _ _ st7 fun b hb o e => (pin' b hb o e).1, fun b hb => ?_, w'⟩
        · rw [← hw8] at e
          exact (wipe_some e).1
        · obtain ⟨o, e, _⟩ := T.obj _ _ st7 b hb
          exact (pin' b hb o e).2
      cases b with
      | false =>
        simp only [Bool.false_eq_true, if_false] at q9 ⊢
        exact fin I9 q9
      | true =>
        simp only [if_true] at q9 ⊢
        refine thnF (pe.run _ s9 σ8 H9 _ I9 q9) fun z s10 ⟨yv, H10, I10, r10, acc, hD10, hz10, nx⟩ => ?_
        exact app_ok (X := XB) I10 hD10 hz10 r10 fun s11 I11 => fin I11 nx
  exact codeAny_compStart_list loop (T.self X.A 0 _ _ _ st4 loop)
/-- name = [..] on one line, in an except suite -/
theorem ps_setLcH {i : Nat} {y : Str} {py : Pos} {elt tg iter : Expr} {ifs : List Expr} {scope : Scope} {own : List (Str × Nat)} {pos spos : Pos} {wi : TI} {g : TG} {tt : TT} {te : TE} {p : Addr × Obj} (h1 : Hot1 X.A p) (hp : p ∈ X.pn) (hN : X.N.Nodup) (hy : X.N[i]? = some y) (hyl : X.env.scope.names.lookup y = some .local)
    (hsw : swapsWith (.ListComp elt [⟨tg, iter, ifs, 0⟩] scope pos) (some (.Name y py)) spos.line X.env = pure true) (hi : PIH X tg iter wi) (ok : BlkOk X.N X.env.scope scope own)
    (hg : ∀ (s : Shared) (H : Hp) (C : Addr) (cl : List (Str × Addr)) (fp : List Addr), PG (X.blk s H scope (compEnvC scope cl C X.env) fp) tg g) (ht : ∀ (s : Shared) (H : Hp) (C : Addr) (cl : List (Str × Addr)) (fp : List Addr), PTs (X.blk s H scope (compEnvC scope cl C X.env) fp) ifs tt)
    (he : ∀ (s : Shared) (H : Hp) (C : Addr) (cl : List (Str × Addr)) (fp : List Addr), PE (X.blk s H scope (compEnvC scope cl C X.env) fp) elt te) (hs : ∀ x, foldedSetIterable iter X.env x = pure x) :
    PS X (.Assign [.Name y py] (.ListComp elt [⟨tg, iter, ifs, 0⟩] scope pos) spos) (tAsg (tLc wi g tt te (own.map (·.2))) (gName i)) := by
  refine ⟨fun pins s σ H D I h => ?_⟩
  rw [exec_Assign_Name_used _ _ _ _ hsw]
  refine wpAny_bind (wpAny_standAt (wpAny_bind ?_))
  show wpAny _ X.A (do let _ ← comprehension (.ListComp elt [⟨tg, iter, ifs, 0⟩] scope pos) scope X.env (firstIterPos [⟨tg, iter, ifs, 0⟩] pos) (newList []) false (eval iter X.env) (some (assign (.Name y py) X.env))) _ _ s
  have h : tLc wi g tt te (own.map (·.2)) σ H (fun x H1 => gName i x σ H1 D.nx) := h
  refine wpAny_bind (thn (lcH_core (Qf := fun _ s' => SP X pins D .next s') h1 hp hN I hi ok hg ht he hs h fun L C s' m H' I' q hn f => ?_) fun _ s' hq => wpAny_pure (wpAny_pure hq))
  show wpAny _ _ (assign (.Name y py) X.env (.ref L)) _ _ _
  refine wpAny_assign_Name (store_ok2 (v := V.ref L) I' hN hy (.inl hyl) rfl (fun s2 I2 ⟨a, sb, ha⟩ => ?_) (.inr hyl))
  obtain ⟨f0, f1, f2, f3, f4, f5⟩ := f
  have haC : C ≠ a := ha.elim (fun z => by rw [z]; exact f1) fun z e => f4 y a z e.symm
  exact ⟨m, hn.sameBut sb haC, fun h3 sb3 => ⟨_, H', I2.turned (t' := s2.toks) (fun b o hb e => (sb3.2 b hb).trans e) f0 f1 f3 f4 f5, q⟩⟩
end
end Y

/-! part Y18 -/
set_option Elab.async false
set_option linter.all false
set_option maxRecDepth 100000
set_option maxHeartbeats 2000000
/-! Y18: the law's def that tells a call's value, or its error's kind. -/
namespace Y
open PySem PySem.Spec
open PyProof.Rows hiding St
open L2
open L2H (Hot1 HotC PIH TurnH)
def clsN : List Str := ["NotAllowed", "TooLarge", "Missing", "BadPaper", "BadForm", "Broken"]
def kndN : List Str := ["refused", "large", "missing", "paper", "form", "broken"]
def exName (k : Nat) : Str := kndN.getD k ""
/-- the classes: at ca j, all below CS -/
structure ClsF (S : RS) : Prop where
  mI : S.mg "isinstance" = none
  mR : S.mg "range" = none
  mT : S.mg "int" = none
  mL : S.mg "len" = none
  base : ∃ CS : Addr, S.mg "SpreadError" = some (.ref CS) ∧ ∀ k, k < 3 → PySem.W.exmOne S.K (.ref (S.ex k)) (.ref CS) = some true
  cls : ∀ j, j < 6 → S.mg (clsN.getD j "") = some (.ref (S.ex j))
  exc : ∀ k, k < 3 → ExcC S.K (S.ex k)
  kit : ∀ k j, k < 3 → j < 6 → PySem.W.kitOne S.K (.ref (S.ex k)) (.ref (S.ex j)) = some (decide (k = j))
def kindsV (k : Nat) : List V := (List.range 6).map fun j => V.bl (decide (k = j))
/-- isinstance(e, C) -/
def isiT (c : Nat) : Expr → Bool
  | .Call (.Name f _) [.Name e _, .Name x _] [] _ => decide (f = "isinstance") && decide (e = "e") && decide (x = clsN.getD c "")
  | _ => false
def kE (sg : Scope) (x : Str) (k : NameKind) : Bool := decide (sg.names.lookup x = some k)
def toldNs : List Str := ["call", "e", "kinds", "names", "k"]
theorem toldNd : toldNs.Nodup := by decide +kernel
/-- the scope of the telling def -/
def toldSc (sg : Scope) : Bool := scC' sg && kE sg "call" .local && kE sg "e" .local && kE sg "kinds" .cell && kE sg "names" .local && kE sg "isinstance" .globalImplicit && kE sg "range" .globalImplicit && kE sg "int" .globalImplicit && kE sg "len" .globalImplicit && kE sg "SpreadError" .globalImplicit && clsN.all (fun x => kE sg x .globalImplicit)
where scC' (sg : Scope) : Bool := C8.scC toldNs ["call"] sg
def ownK : List (Str × Nat) := [("k", 4)]
def cStr : Expr → Option Str
  | .Constant (.str x) _ _ => some x
  | _ => none
theorem cStr_ok {e : Expr} {x : Str} (h : cStr e = some x) : ∃ j p, e = .Constant (.str x) j p := by
  unfold cStr at h
  split at h
  · cases h; exact ⟨_, _, rfl⟩
  · cases h
def sLst : List Expr → List Str → Bool
  | [], [] => true
  | e :: es, y :: ys => match cStr e with | some x => decide (x = y) && sLst es ys | none => false
  | _, _ => false
/-- kinds = [..] -/
def st1B : Stmt → Bool
  | .Assign [.Name x _] (.List [a0, a1, a2, a3, a4, a5] _) _ => decide (x = "kinds") && isiT 0 a0 && isiT 1 a1 && isiT 2 a2 && isiT 3 a3 && isiT 4 a4 && isiT 5 a5
  | _ => false
/-- names = [..] -/
def st2B (sg : Scope) : Stmt → Bool
  | .Assign [.Name y py] (.ListComp (.Subscript (.List cs _) (.Name k1 _) _) [⟨.Name k2 _, .Call (.Name r _) [.Constant (.int 6) _ _] [] _, [.Subscript (.Name kd _) (.Name k3 _) _], 0⟩] scope pos) _ =>
    decide (y = "names") && sLst cs kndN && decide (k1 = "k") && decide (k2 = "k") && decide (r = "range") && decide (kd = "kinds") && decide (k3 = "k") && (py.line == pos.line) && (!(scope.names.any fun (n, k) => n == y && (k == .local || k == .cell))) &&
      blkC toldNs sg scope ownK && decide (scope.names.lookup ("k" : Str) = some .local) && decide ((relS scope sg).names.lookup ("k" : Str) = some .local) && decide ((relS scope sg).names.lookup ("kinds" : Str) = some .cell ∨ (relS scope sg).names.lookup ("kinds" : Str) = some .free)
  | _ => false
def st3B : Stmt → Bool
  | .Return (some (.Tuple [.Subscript (.List [.Constant (.str o) _ _, .Subscript (.BinOp (.Name n1 _) .Add (.List [.Constant (.str em) _ _] _) _) (.Constant (.int 0) _ _) _] _) (.Call (.Name f _) [.Compare (.Call (.Name l _) [.Name n2 _] [] _) [.Eq] [.Constant (.int 1) _ _] _] [] _) _] _ _)) _ =>
    decide (n1 = "names") && decide (n2 = "names") && decide (f = "int") && decide (l = "len")
  | _ => false
section
variable {X : Cx} {S : RS} {a : Addr} {oe : Obj} {pn : List (Addr × Obj)} {k : Nat}
/-- where the suite stands -/
structure Su (S : RS) (X : Cx) : Prop where
  hK : X.K = S.K
  hm : X.mg = S.mg
  hN : X.N = toldNs
  hf : ∀ x, X.fn x = true
  sc : toldSc X.env.scope = true
  F : ClsF S
theorem kE_ok {sg : Scope} {x : Str} {k : NameKind} (h : kE sg x k = true) : sg.names.lookup x = some k := of_decide_eq_true h
theorem Su.sc_ {X : Cx} (u : Su S X) : C8.scC toldNs ["call"] X.env.scope = true ∧ X.env.scope.names.lookup ("call" : Str) = some .local ∧ X.env.scope.names.lookup ("e" : Str) = some .local ∧ X.env.scope.names.lookup ("kinds" : Str) = some .cell ∧ X.env.scope.names.lookup ("names" : Str) = some .local ∧
    Gl X "isinstance" ∧ Gl X "range" ∧ Gl X "int" ∧ Gl X "len" ∧ Gl X "SpreadError" ∧ ∀ x ∈ clsN, Gl X x := by
  have h := u.sc
  unfold toldSc at h
  simp only [Bool.and_eq_true, List.all_eq_true] at h
  obtain ⟨⟨⟨⟨⟨⟨⟨⟨⟨⟨h0, h1⟩, h2⟩, h3⟩, h4⟩, h5⟩, h6⟩, h7⟩, h8⟩, h9⟩, h10⟩ := h
  exact ⟨h0, kE_ok h1, kE_ok h2, kE_ok h3, kE_ok h4, kE_ok h5, kE_ok h6, kE_ok h7, kE_ok h8, kE_ok h9, fun x hx => kE_ok (h10 x hx)⟩
theorem pe_isi {j : Nat} {e : Expr} (u : Su S X) (hk : k < 3) (hj : j < 6) (hz : Zc (.ref (S.ex k)) none oe) (hfl : ∃ vs, oe.data = .fields vs) (h : isiT j e = true) :
    PE (X.suite a ((a, oe) :: pn)) e (fun σ H Q => σ[1]? = some (some (.ref a)) ∧ Q (.bl (decide (k = j))) H) := by
  unfold isiT at h
  split at h
  · rename_i f p1 e1 p2 x p3 p4
    simp only [Bool.and_eq_true, decide_eq_true_eq] at h
    obtain ⟨⟨rfl, rfl⟩, rfl⟩ := h
    obtain ⟨_, _, he, _, _, gI, _, _, _, _, gC⟩ := u.sc_
    have hcl : clsN.getD j "" ∈ clsN := by
      have hl : j < clsN.length := hj
      rw [List.getD_eq_getElem?_getD, List.getElem?_eq_getElem hl]
      exact List.getElem_mem hl
    have hmj := u.F.cls j hj
    have hnd : (clsN.getD j "" == ("__debug__" : Str)) = false := by
      have : ∀ x ∈ clsN, (x == ("__debug__" : Str)) = false := by decide +kernel
      exact this _ hcl
    refine PEw (pe_callB (r := rIsE X.K (S.ex k) a) (call_isE (X := X) (pn := pn) (by rw [u.hK]; exact u.F.exc k hk) hz hfl) gI (by show X.mg _ = none; rw [u.hm]; exact u.F.mI) (by decide +kernel)
      (pa_cons (pe_var (i := 1) (by show X.N[1]? = _; rw [u.hN]; rfl) (.inl he) (by decide +kernel) (by decide +kernel)) (pa_cons (pe_glob (v := .ref (S.ex j)) (gC _ hcl) (by show X.mg _ = _; rw [u.hm]; exact hmj) rfl hnd) pa_nil)) (by decide +kernel) (by decide +kernel)) fun σ H Q ⟨h1, h2⟩ => ?_
    refine ⟨.ref a, h1, .ref (S.ex j), .ref (S.ex j), decide (k = j), rfl, fun w r => r, ?_, h2⟩
    rw [u.hK]
    exact u.F.kit k j hk hj
  · cases h
theorem s1_ok {st : Stmt} (u : Su S X) (hk : k < 3) (hz : Zc (.ref (S.ex k)) none oe) (hfl : ∃ vs, oe.data = .fields vs) (h : st1B st = true) :
    PS (X.suite a ((a, oe) :: pn)) st (fun D σ H => σ[1]? = some (some (.ref a)) ∧ ∀ p, H p = none → D.nx (σ.set 2 (some (.ref p))) (upd H p (.lst (kindsV k)))) := by
  unfold st1B at h
  split at h
  · rename_i x p1 a0 a1 a2 a3 a4 a5 p2 p3
    simp only [Bool.and_eq_true, decide_eq_true_eq] at h
    obtain ⟨⟨⟨⟨⟨⟨rfl, h0⟩, h1⟩, h2⟩, h3⟩, h4⟩, h5⟩ := h
    have ns : ∀ {j e}, isiT j e = true → ∀ {es env}, starEach (e :: es) env = (false, eval e env) :: starEach es env := fun {j e} h {es env} => by
      unfold isiT at h
      split at h
      · rfl
      · cases h
    have q := fun {j e} (hj : j < 6) (h : isiT j e = true) => pe_isi (pn := pn) (a := a) u hk hj hz hfl h
    refine PSw (ps_set (i := 2) (by show X.N.Nodup; rw [u.hN]; exact toldNd) (by show X.N[2]? = _; rw [u.hN]; rfl) (.inr u.sc_.2.2.2.1)
      (pe_lst (pa_cons (q (by decide) h0) (pa_cons (q (by decide) h1) (pa_cons (q (by decide) h2) (pa_cons (q (by decide) h3) (pa_cons (q (by decide) h4) (pa_cons (q (by decide) h5) pa_nil (ns h5)) (ns h4)) (ns h3)) (ns h2)) (ns h1)) (ns h0)))
      rfl (.inl (u.hf _))) fun D σ H ⟨e1, hh⟩ => ?_
    refine ⟨e1, e1, e1, e1, e1, e1, by show 6 ≤ sizeLine; decide, fun p hp => hh p hp⟩
  · cases h
theorem sLst_ok {cs : List Expr} {ys : List Str} (h : sLst cs ys = true) {Y : Cx} : PA Y cs (fun σ H Q => Q (ys.map V.str) H) := by
  induction cs generalizing ys with
  | nil =>
    cases ys with
    | nil => exact PAw pa_nil fun σ H Q h => h
    | cons _ _ => cases h
  | cons e es ih =>
    cases ys with
    | nil => simp [sLst] at h
    | cons y ys =>
      simp only [sLst] at h
      split at h
      · rename_i x q
        obtain ⟨j, p, rfl⟩ := cStr_ok q
        simp only [Bool.and_eq_true, decide_eq_true_eq] at h
        obtain ⟨rfl, h⟩ := h
        exact PAw (pa_cons pe_str (ih h)) fun σ H Q h => h
      · cases h
/-- the kept part of the heap -/
def Kp (H H' : Hp) : Prop := ∀ b o, H b = some o → H' b = some o
theorem Kp.new {H : Hp} {p : Addr} {o : HO} (h : H p = none) : Kp H (upd H p o) := fun b u e => by rw [upd_ne (ne_of_none e h)]; exact e
theorem Kp.trans {H H1 H2 : Hp} (a : Kp H H1) (b : Kp H1 H2) : Kp H H2 := fun c o e => b c o (a c o e)
theorem Kp.none {H H1 : Hp} (a : Kp H H1) {p : Addr} (h : H1 p = none) : H p = none := by
  cases q : H p with
  | none => rfl
  | some o => rw [a p o q] at h; cases h
theorem ixK : ∀ k, k < 3 → ∀ i, i < 6 → atI (kindsV k) ((0 : Int) + (i : Nat)) = some (V.bl (decide (k = i))) := by decide +kernel
theorem ixN6 : ∀ i, i < 6 → atI (kndN.map V.str) ((0 : Int) + (i : Nat)) = some (V.str (exName i)) := by decide +kernel
theorem s2_ok {st : Stmt} (u : Su S X) (hk : k < 3) (hz : PXN.CtxN oe) (hfl : ∃ vs, oe.data = .fields vs) (h : st2B X.env.scope st = true) :
    PS (X.suite a ((a, oe) :: pn)) st (fun D σ H => ∃ c0 L n0 k0, σ = [c0, some (.ref a), some (.ref L), n0, k0] ∧ H L = some (.lst (kindsV k)) ∧ ∀ M H', Kp H H' → H M = none → H' M = some (.lst [.str (exName k)]) → D.nx [c0, some (.ref a), some (.ref L), some (.ref M), k0] H') := by
  unfold st2B at h
  split at h
  · rename_i y py cs p1 k1 p2 p3 k2 p4 r p5 j6 p6 p7 kd p8 k3 p9 p10 scope pos spos
    simp only [Bool.and_eq_true, decide_eq_true_eq, Bool.not_eq_true'] at h
    obtain ⟨⟨⟨⟨⟨⟨⟨⟨⟨⟨⟨⟨rfl, hcs⟩, rfl⟩, rfl⟩, rfl⟩, rfl⟩, rfl⟩, hl⟩, ha⟩, hb⟩, hk1⟩, hk2⟩, hk3⟩ := h
    obtain ⟨hsc, _, _, _, hnm, _, gR, _⟩ := u.sc_
    have FS := C8.fnScope_by hsc
    have hNn : (X.suite a ((a, oe) :: pn)).N.Nodup := by show X.N.Nodup; rw [u.hN]; exact toldNd
    have vk : ∀ {s1 : Shared} {H : Hp} {C : Addr} {cl : List (Str × Addr)} {fp : List Addr}, Vis ((X.suite a ((a, oe) :: pn)).blk s1 H scope (compEnvC scope cl C X.env) fp).env.scope "k" := .inl hk2
    have pv4 : ∀ {s1 : Shared} {H : Hp} {C : Addr} {cl : List (Str × Addr)} {fp : List Addr} {p : Pos}, PE ((X.suite a ((a, oe) :: pn)).blk s1 H scope (compEnvC scope cl C X.env) fp) (.Name "k" p) (tVar 4) := fun {s1 H C cl fp p} =>
      pe_var (by show X.N[4]? = _; rw [u.hN]; rfl) vk (by decide +kernel) (by decide +kernel)
    obtain ⟨vs, hvs⟩ := hfl
    refine PSw (ps_setLcH (i := 3) (wi := iRng1 (tCons (tC (.int 6)) tNil)) (g := gName 4) (tt := tB (tOp (rIx X.K) (tVar 2) (tVar 4))) (te := tOp (rIx X.K) (tLst (fun σ H Q => Q (kndN.map V.str) H)) (tVar 4)) (own := ownK) (p := (a, oe)) ⟨rfl, vs, hvs, hz vs hvs⟩ List.mem_cons_self hNn (by show X.N[3]? = _; rw [u.hN]; rfl) hnm
      (sw_true FS.kind hnm hl ha) (L2H.pi_range1H gR (by show X.mg _ = none; rw [u.hm]; exact u.F.mR) (pa_cons pe_int pa_nil)) (by have := blkOk_by hb; rw [← u.hN] at this; exact this)
      (fun s1 H C cl fp => pg_name hNn (by show X.N[4]? = _; rw [u.hN]; rfl) (.inl hk2) (.inr hk2))
      (fun s1 H C cl fp => pts_one (pt_val (pe_ix ix_seq (pe_var (by show X.N[2]? = _; rw [u.hN]; rfl) (by
        rcases hk3 with z | z
        · exact .inr (.inl z)
        · exact .inr (.inr z)) (by decide +kernel) (by decide +kernel)) pv4 (fun _ _ => rfl)) (fun _ => rfl)))
      (fun s1 H C cl fp => pe_ix ix_seq (pe_lst (sLst_ok hcs)) pv4 (fun _ _ => rfl)) (fun _ => rfl)) fun D σ H ⟨c0, L, n0, k0, e, hL, hh⟩ => ?_
    subst e
    refine ⟨6, rfl, by decide, by decide, fun M hM => ?_⟩
    have nLM : L ≠ M := ne_of_none hL hM
    refine lc_range (lo := 0) (n := 6) (fun i H' => H' M = some (.lst (if k < i then [V.str (exName k)] else [])) ∧ ∀ b o, H b = some o → H' b = some o) ⟨by rw [upd_same]; rfl, fun b o e => by rw [upd_ne (ne_of_none e hM)]; exact e⟩ (fun i H2 hi ⟨q1, q2⟩ => ?_) (fun H2 ⟨q1, q2⟩ => ?_)
    · refine ⟨rfl, _, rfl, _, rfl, .inl ⟨L, _, _, _, rfl, rfl, SqL.of (q2 _ _ hL), ixK k hk i hi, decide (k = i), rfl, ?_⟩⟩
      by_cases hki : k = i
      · subst hki
        rw [if_pos (decide_eq_true rfl)]
        refine ⟨by show 6 ≤ sizeLine; decide, fun p hp => ⟨_, rfl, .inl ⟨p, _, _, _, rfl, rfl, SqL.of upd_same, ixN6 k hi, ?_⟩⟩⟩
        rw [if_neg (Nat.lt_irrefl k)] at q1
        refine ⟨[], by rw [upd_ne (ne_of_none q1 hp)]; exact q1, by show 0 < sizeLine; decide, ?_, fun b o e => ?_⟩
        · rw [upd_same, if_pos (Nat.lt_succ_self k)]
          rfl
        · rw [upd_ne (ne_of_none e hM), upd_ne (ne_of_none (q2 _ _ e) hp)]
          exact q2 b o e
      · have hf : ¬ (decide (k = i) = true) := by rw [decide_eq_false hki]; exact Bool.false_ne_true
        dsimp only
        rw [if_neg hf]
        refine ⟨?_, q2⟩
        rw [q1]
        by_cases h1 : k < i
        · rw [if_pos h1, if_pos (Nat.lt_succ_of_lt h1)]
        · rw [if_neg h1, if_neg (by omega)]
    · rw [if_pos (by omega)] at q1
      exact hh M H2 q2 hM q1
  · cases h
theorem s3_ok {st : Stmt} (u : Su S X) (h : st3B st = true) :
    PS (X.suite a ((a, oe) :: pn)) st (fun D σ H => ∃ c0 L M k0 x, σ = [c0, some (.ref a), some (.ref L), some (.ref M), k0] ∧ H M = some (.lst [.str x]) ∧ ∀ T H', Kp H H' → H T = none → H' T = some (.tup [.str x]) → D.rt (.ref T) H') := by
  unfold st3B at h
  split at h
  · rename_i o j1 p1 n1 p2 em j2 p3 p4 p5 j3 p6 p7 p8 f p9 l p10 n2 p11 p12 j4 p13 p14 p15 p16 kk p17 p18
    simp only [Bool.and_eq_true, decide_eq_true_eq] at h
    obtain ⟨⟨⟨rfl, rfl⟩, rfl⟩, rfl⟩ := h
    obtain ⟨_, _, _, _, hnm, _, _, gI, gL, _⟩ := u.sc_
    have pv3 : ∀ {p : Pos}, PE (X.suite a ((a, oe) :: pn)) (.Name "names" p) (tVar 3) := fun {p} => pe_var (by show X.N[3]? = _; rw [u.hN]; rfl) (.inl hnm) (by decide +kernel) (by decide +kernel)
    refine PSw (ps_ret (pe_tup (pa_cons (pe_ix ix_seq (pe_lst (pa_cons pe_str (pa_cons (pe_ix ix_seq (pe_op op_cat pv3 (pe_lst (pa_cons pe_str pa_nil))) pe_int (fun _ _ => rfl)) pa_nil)))
      (pe_callTy call_int1 gI (by show X.mg _ = none; rw [u.hm]; exact u.F.mT) (by decide +kernel) (pa_cons (pe_cmpR op_eq (pe_callB call_len_seq gL (by show X.mg _ = none; rw [u.hm]; exact u.F.mL) (by decide +kernel) (pa_cons pv3 pa_nil) (by decide +kernel) (by decide +kernel)) pe_int (nomark _)) pa_nil) (by decide +kernel) (by decide +kernel)) (fun _ _ => rfl)) pa_nil))) fun D σ H ⟨c0, L, M, k0, x, e, hM, hh⟩ => ?_
    subst e
    refine ⟨_, rfl, by show 1 ≤ sizeLine; decide, fun p1 hp1 => ?_⟩
    have hM1 : (upd H p1 (.lst [V.str em])) M = some (.lst [.str x]) := by rw [upd_ne (ne_of_none hM hp1)]; exact hM
    refine ⟨M, p1, _, _, rfl, rfl, hM1, upd_same, by show 2 ≤ sizeLine; decide, fun p2 hp2 => ?_⟩
    refine .inl ⟨p2, _, 0, .str x, rfl, rfl, SqL.of upd_same, rfl, ?_⟩
    refine ⟨by show 2 ≤ sizeLine; decide, fun p3 hp3 => ?_⟩
    have k1 : Kp H (upd (upd (upd H p1 (.lst [V.str em])) p2 (.lst ([V.str x] ++ [V.str em]))) p3 (.lst [V.str o, V.str x])) := (Kp.new hp1).trans ((Kp.new hp2).trans (Kp.new hp3))
    refine ⟨_, rfl, M, _, rfl, .inl (SqL.of (k1 _ _ hM)), rfl, .inr ⟨true, rfl, ?_⟩⟩
    refine .inl ⟨p3, _, 1, .str x, rfl, rfl, SqL.of upd_same, rfl, ?_⟩
    refine ⟨by show 1 ≤ sizeLine; decide, fun T hT => hh T _ (k1.trans (Kp.new hT)) (k1.none hT) upd_same⟩
  · cases h
end
end Y

/-! part Y19 -/
set_option Elab.async false
set_option linter.all false
set_option maxRecDepth 100000
set_option maxHeartbeats 2000000
/-! Y19: what the telling def makes of a lambda. -/
namespace Y
open PySem PySem.Spec
open PyProof.Rows hiding St
open L2 LamX
def toldB (sg : Scope) : List Stmt → Bool
  | [.Try [.Return (some (.Tuple [.Constant (.str t) _ _, .Call (.Name c _) [] [] _] _ _)) _] [.ExceptHandler (some (.Name se _)) (some e) [s1, s2, s3] _] [] [] _] =>
    decide (t = "told") && decide (c = "call") && decide (se = "SpreadError") && decide (e = "e") && st1B s1 && st2B sg s2 && st3B s3 && toldSc sg
  | _ => false
/-- what a told call comes to -/
def TTd (S : RS) : (XK → Hp → VK → Prop) → Hp → VK → Prop := fun tl H Q =>
  tl (fun cls d H' => ∃ k, k < 3 ∧ cls = .ref (S.ex k) ∧ d = none ∧ ∀ T H'', Kp H' H'' → H' T = none → H'' T = some (.tup [.str (exName k)]) → Q (.ref T) H'') H
    (fun v H' => [V.str "told", v].length ≤ sizeLine ∧ ∀ T, H' T = none → Q (.ref T) (upd H' T (.tup [.str "told", v])))
theorem five {α : Type} {l : List α} (h : l.length = 5) : ∃ a b c d e, l = [a, b, c, d, e] := by
  match l, h with
  | [a, b, c, d, e], _ => exact ⟨a, b, c, d, e, rfl⟩
section
variable {X : Cx} {S : RS} {a : Addr} {oe : Obj} {pn : List (Addr × Obj)}
theorem suite_ok {s1 s2 s3 : Stmt} {k : Nat} (u : Su S X) (hk : k < 3) (hz : L2N.Zn (.ref (S.ex k)) none oe) (hfl : ∃ vs, oe.data = .fields vs) (h1 : st1B s1 = true) (h2 : st2B X.env.scope s2 = true) (h3 : st3B s3 = true) :
    PSs (X.suite a ((a, oe) :: pn)) [s1, s2, s3] (fun D σ H => (∃ c0 x2 x3 x4, σ = [c0, some (.ref a), x2, x3, x4]) ∧ ∀ T H', Kp H H' → H T = none → H' T = some (.tup [.str (exName k)]) → D.rt (.ref T) H') :=
  PSsw (pss_cons (s1_ok u hk hz.zc hfl h1) (pss_cons (s2_ok u hk hz.2.2 hfl h2) (pss_one (s3_ok u h3)))) fun D σ H ⟨⟨c0, x2, x3, x4, e⟩, hq⟩ => by
    subst e
    refine ⟨rfl, fun L hL => ⟨c0, L, x3, x4, rfl, upd_same, fun M H1 k1 hM q1 => ⟨c0, L, M, x4, exName k, rfl, q1, fun T H2 k2 hT q2 => ?_⟩⟩⟩
    exact hq T H2 ((Kp.new hL).trans (k1.trans k2)) ((Kp.new hL).trans k1 |>.none hT) q2
theorem told_ok {q : Str} {sg : Scope} {g : Addr} {cdg : Value} {bg : List Stmt} (hK : X.K = S.K) (hm : X.mg = S.mg) (F : ClsF S) (h : toldB sg bg = true) :
    GivesN X toldNs "_law_told" sg g cdg bg "call" q (TTd S) := by
  intro f c' s H Q tl act hc hq
  unfold toldB at h
  split at h
  · rename_i t j0 p0 c p1 p2 kt p3 p4 se np e s1 s2 s3 pos' pos
    simp only [Bool.and_eq_true, decide_eq_true_eq] at h
    obtain ⟨⟨⟨⟨⟨⟨⟨rfl, rfl⟩, rfl⟩, rfl⟩, h1⟩, h2⟩, h3⟩, hsc⟩ := h
    generalize hY : (cxOf C8.CX0 X.prog X.w X.K X.mg X.base toldNs "_law_told" sg g cdg X.A X.stack s H C8.E0).nox = Y at act ⊢
    have u : Su S Y := by subst hY; exact ⟨hK, hm, rfl, fun _ => rfl, hsc, F⟩
    have hsg : Y.env.scope = sg := by subst hY; rfl
    obtain ⟨CS, hCS, hex⟩ := F.base
    have FS := C8.fnScope_by (by have := u.sc_.1; exact this)
    refine ⟨_, pss_one (L2N.ps_try_as (X := Y) (i := 1) (c := .ref CS) (Wout := fun _ _ _ _ => False)
      (tb := fun W D σ H => ∃ Ech : XK, (∀ cls d σ' H', Ech cls d H' → W cls d σ' H') ∧ σ[0]? = some (some (.ref f)) ∧ H c' = some (CodeO c' q) ∧ tl Ech H (fun v H' => [V.str "told", v].length ≤ sizeLine ∧ ∀ T, H' T = none → D.rt (.ref T) (upd H' T (.tup [.str "told", v]))))
      (ts := fun a cls d D σ H => ∃ k, k < 3 ∧ cls = .ref (S.ex k) ∧ d = none ∧ (∃ σ0 : L2.St, σ = σ0.set 1 (some (.ref a))) ∧ ∀ T H', Kp H H' → H T = none → H' T = some (.tup [.str (exName k)]) → D.rt (.ref T) H')
      (by subst hY; rfl) (by subst hY; rfl) (by rw [u.hN]; exact toldNd) (by rw [u.hN]; rfl) u.sc_.2.2.1 ⟨u.sc_.2.2.2.2.2.2.2.2.2.1, by decide +kernel, .inl (by rw [u.hm]; exact hCS)⟩ (fun uu s' ⟨_, _, _, _, _, _, _, _, _, _, _, _, _, _, _, _, w⟩ => w.elim) (fun W pn xe tk _ => ?_) (fun a oe cls d pn hz hfl => ?_)), ?_⟩
    · refine ⟨fun pins s' σ H' D I h' => ?_⟩
      obtain ⟨Ech, hW, g1, g2, g3⟩ := h'
      have hp := act W pn xe Ech p1 p2 tk hW
      have hr := pss_one (ps_ret (pos := p4) (pe_tup (x1 := kt) (pos := p3) (pa_cons (pe_str (j := j0) (pos := p0) (x := "told")) (pa_cons hp pa_nil))))
      exact hr.run pins s' σ H' D I ⟨g1, g2, g3⟩
    · refine ⟨fun pins s' σ H' D I h' => ?_⟩
      obtain ⟨k, hk, rfl, rfl, ⟨σ0, hσ⟩, hh⟩ := h'
      have hl : σ.length = 5 := by
        have := I.len
        rw [this]
        show Y.N.length = 5
        rw [u.hN]
        rfl
      rw [hσ, List.length_set] at hl
      obtain ⟨a0, a1, a2, a3, a4, rfl⟩ := five hl
      exact (suite_ok u hk hz hfl h1 (by rw [hsg]; exact h2) h3).run pins s' σ H' D I ⟨⟨a0, a2, a3, a4, hσ⟩, hh⟩
    · refine ⟨fun cls d H' => ∃ k, k < 3 ∧ cls = .ref (S.ex k) ∧ d = none ∧ ∀ T H'', Kp H' H'' → H' T = none → H'' T = some (.tup [.str (exName k)]) → Q (.ref T) H'', fun cls d σ' H' ⟨k, hk, e1, e2, hh⟩ => ?_, rfl, hc, hq⟩
      subst e1 e2
      refine ⟨true, by rw [u.hK]; exact hex k hk, fun _ a ha => ⟨k, hk, rfl, rfl, ⟨σ', rfl⟩, hh⟩, fun z => nomatch z⟩
  · cases h
end
end Y

/-! part Y9 -/
set_option Elab.async false
set_option linter.all false
set_option maxRecDepth 100000
set_option maxHeartbeats 1000000
/-! Y9: the checker of expressions. -/
namespace Y
open PySem PySem.Spec
open PyProof.Rows hiding St
open L2
/-- what a global name stands for -/
inductive Gk where
  | fn (k : Nat) | int (i : Int) | abs | ex (k : Nat) | tup (is : List Int)
/-- the class k is raised with a text -/
def RaiseOk (S : RS) (x : Str) (k : Nat) : Prop := ∀ X : Cx, X.prog = S.P → X.w = S.w → X.K = S.K → X.mg = S.mg → X.base = S.base → Gl X x → ∀ (m : Str) (j : Nat) (p p2 pos : Pos), L2N.PMk X (.Call (.Name x p) [.Constant (.str m) j p2] [] pos) (fun _ H Q => Q (.ref (S.ex k)) none H)
def GkOk (S : RS) (x : Str) : Gk → Prop
  | .fn k => S.mg x = some (.ref (S.fa k))
  | .int i => ∃ u, S.mg x = some u ∧ RelV (.int i) u
  | .abs => S.mg x = none
  | .ex k => RaiseOk S x k
  | .tup is => ∃ a, S.mg x = some (.ref a) ∧ ∀ H, SqT S.K H a (is.map V.int)
/-- the program, seen by the checker -/
structure Tb where
  gt : List (Str × Gk)
  lv : Nat → Nat
/-- are all tuples of ints known to be without a dict (a row of the table says so) -/
def sgG (gt : List (Str × Gk)) : Bool := gt.any fun p => match p.2 with | .abs => p.1 == ("%strong" : Str) | _ => false
structure Bas (S : RS) (T : Tb) : Prop where
  g : ∀ x k, T.gt.lookup x = some k → GkOk S x k
  sg : S.sg = sgG T.gt
/-- the def that compares by repr -/
def sameB (sg : Scope) : List Stmt → Bool
  | [.Return (some (.Compare (.Call (.Name r1 _) [.List [.Name a _] _] [] _) [.Eq] [.Call (.Name r2 _) [.List [.Name b _] _] [] _] _)) _] =>
    decide (r1 = "repr") && decide (r2 = "repr") && decide (a = "told") && decide (b = "due") && C8.scC ["told", "due"] ["told", "due"] sg && kE sg "told" .local && kE sg "due" .local && kE sg "repr" .globalImplicit
  | _ => false
/-- lambdas may be made here -/
def LamF (R : RT) (X : Cx) : Prop := ∃ c P, LamX.TabB X.base X.mg c P ∧ X.env.code = .ref c ∧ (P, X.env.qual ++ "<lambda>") ∈ R.sa.T ∧ ∀ p ∈ R.sa.T, p.1 = P → p.2 = X.env.qual ++ "<lambda>"
/-- what stands where the law itself runs -/
structure LawF (S : RS) (R : RT) (X : Cx) : Prop where
  tab : ∃ c P, LamX.TabB X.base X.mg c P ∧ X.env.code = .ref c ∧ (P, X.env.qual ++ "<lambda>") ∈ R.sa.T ∧ ∀ p ∈ R.sa.T, p.1 = P → p.2 = X.env.qual ++ "<lambda>"
  told : ∃ g pg bg sg fd, S.mg "_law_told" = some (.ref g) ∧ FunD S.K "_law_told" "_law_told" pg bg sg [] [] g fd ∧ Binds S.K fd ["call"] [] ∧ toldB sg bg = true
  cls : ClsF S
  same : ∃ g pg bg sg fd, S.mg "_law_same" = some (.ref g) ∧ FunD S.K "_law_same" "_law_same" pg bg sg [] [] g fd ∧ Binds S.K fd ["told", "due"] [] ∧ sameB sg bg = true
  rep : S.mg "repr" = none
  grd : X.A.guards = some []
/-- where an expression is read -/
structure Sit (S : RS) (T : Tb) (Φ : Nat → List D → (D → Prop) → (Nat → Prop) → Prop) (dr : Nat → Nat) (R : RT) (z : Pz) (X : Cx) (Ed : Nat → Prop) : Prop where
  A : At S z X
  hS : R.S = S
  w : Wsh R Ed X
  bs : Bas S T
  fh : ∀ k, T.lv k ≤ z.L → FHeld S Φ dr T.lv k
  lw : z.gd = true → LawF S R X
  lm : z.lm = true → LamF R X
theorem Sit.sg {S : RS} {T : Tb} {Φ : Nat → List D → (D → Prop) → (Nat → Prop) → Prop} {dr : Nat → Nat} {R : RT} {z : Pz} {X : Cx} {Ed : Nat → Prop} (s : Sit S T Φ dr R z X Ed) (h : sgG T.gt = false) : R.sg = false := by
  rw [← s.bs.sg, ← s.hS] at h
  exact h
theorem Sit.hK {S : RS} {T : Tb} {Φ : Nat → List D → (D → Prop) → (Nat → Prop) → Prop} {dr : Nat → Nat} {R : RT} {z : Pz} {X : Cx} {Ed : Nat → Prop} (s : Sit S T Φ dr R z X Ed) : X.K = R.K := by rw [s.A.hK, ← s.hS]
inductive Rk where
  | d | b | n
def rlOf (R : RT) : Rk → Rl
  | .d => rlD R
  | .b => rlB R
  | .n => rlN R
def notB : Rk → Bool
  | .b => false
  | _ => true
def kGl (z : Pz) (x : Str) : Bool := decide (z.sc.names.lookup x = some .globalImplicit)
def kVis (z : Pz) (i : Nat) (x : Str) : Bool := decide (z.N[i]? = some x) && (match z.sc.names.lookup x with | some .local => true | some .cell => true | some .free => true | _ => false) && !(x == ("__debug__" : Str)) && !(x == ("__classdict__" : Str))
def kLoc (z : Pz) (i : Nat) (x : Str) : Bool := decide (z.N[i]? = some x) && (match z.sc.names.lookup x with
  | some .local => true
  | some .cell => (match z.own with | none => true | some s => s.names.lookup x == some .cell)
  | _ => false)
def isTab (T : Tb) (x : Str) : Gk → Bool
  | .fn k => match T.gt.lookup x with | some (.fn j) => j == k | _ => false
  | .int i => match T.gt.lookup x with | some (.int j) => j == i | _ => false
  | .abs => match T.gt.lookup x with | some .abs => true | _ => false
  | .ex k => match T.gt.lookup x with | some (.ex j) => j == k | _ => false
  | .tup is => match T.gt.lookup x with | some (.tup j) => j == is | _ => false
theorem isTab_ok {T : Tb} {x : Str} {g : Gk} (h : isTab T x g = true) : T.gt.lookup x = some g := by
  unfold isTab at h
  split at h <;> split at h <;> first
    | (rename_i e; rw [e, eq_of_beq h])
    | assumption
    | cases h
def plainT : Expr → Bool
  | .UnaryOp .Not _ _ => false
  | .BoolOp _ _ _ => false
  | .IfExp _ _ _ _ => false
  | .Compare _ _ _ _ => false
  | _ => true
theorem plainT_ok {e : Expr} {env : Env} (h : plainT e = true) : ∀ whole, isTrue e env whole = (do let v ← whole; standAt e.pos; holding [v] (truthy v)) := by
  intro whole
  cases e
  case UnaryOp op l p => cases op <;> first | rfl | (simp only [plainT] at h; cases h)
  all_goals first | rfl | (simp only [plainT] at h; cases h)
def plainI : Expr → Bool
  | .Slice _ _ _ _ => false
  | _ => true
theorem plainI_ok {e : Expr} (h : plainI e = true) : PlainIx e := by
  intro o i
  cases e <;> first | rfl | cases h
def plainF : Expr → Bool
  | .Set _ _ _ => false
  | _ => true
theorem plainF_ok {e : Expr} (h : plainF e = true) {env : Env} : ∀ x, foldedSetIterable e env x = pure x := by
  intro x
  cases e <;> first | rfl | cases h
/-- a core term's checkers, one for each place -/
structure Ck where
  r : Rk
  e : Pz → Expr → Bool
  t : Pz → Expr → Bool
  bE : BoolOp → Pz → List Expr → Bool
  bT : BoolOp → Pz → List Expr → Bool
  a : Bool → Pz → List Expr → Bool
  o : Pz → Option Expr → Bool
  i : Bool → Pz → Expr → Expr → Bool
  g : Pz → Expr → Bool
  gs : Pz → List Expr → Bool
  f : Pz → List Expr → Bool
section
variable (S : RS) (T : Tb) (Φ : Nat → List D → (D → Prop) → (Nat → Prop) → Prop) (dr : Nat → Nat)
def rlb (R : RT) (b : Bool) : Rl := if b = true then rlB R else rlD R
structure Snd (k : Ck) (c : C) : Prop where
  e : ∀ {R z X Ed}, Sit S T Φ dr R z X Ed → ∀ {x}, k.e z x = true → PE X x (TEx Φ exName dr R (rlOf R k.r) Ed c)
  t : ∀ {R z X Ed}, Sit S T Φ dr R z X Ed → ∀ {x}, k.t z x = true → PT X x (TTx Φ exName dr R Ed c)
  bE : ∀ {R z X Ed}, Sit S T Φ dr R z X Ed → ∀ {op xs} {pos : Pos}, k.bE op z xs = true → PE X (.BoolOp op xs pos) (TEx Φ exName dr R (rlD R) Ed c)
  bT : ∀ {R z X Ed}, Sit S T Φ dr R z X Ed → ∀ {op xs} {pos : Pos}, k.bT op z xs = true → PW X (.BoolOp op xs pos) (TTx Φ exName dr R Ed c)
  a : ∀ {R z X Ed}, Sit S T Φ dr R z X Ed → ∀ {b xs}, k.a b z xs = true → PA X xs (TAx Φ exName dr R (rlb R b) Ed c)
  o : ∀ {R z X Ed}, Sit S T Φ dr R z X Ed → ∀ {x}, k.o z x = true → PO X x (TOx Φ exName dr R Ed c)
  i : ∀ {R z X Ed}, Sit S T Φ dr R z X Ed → ∀ {b tg x}, k.i b z tg x = true → PI X tg x (TIx Φ exName dr R b Ed c)
  g : ∀ {R z X Ed}, Sit S T Φ dr R z X Ed → ∀ {x}, k.g z x = true → PG X x (TGx R c)
  gs : ∀ {R z X Ed}, Sit S T Φ dr R z X Ed → ∀ {xs}, k.gs z xs = true → PGs X xs (TGsx R c)
  f : ∀ {R z X Ed}, Sit S T Φ dr R z X Ed → ∀ {xs}, k.f z xs = true → PTs X xs (TTx Φ exName dr R Ed c)
end
/-- a value's -/
def mkE (cnt : Bool) (r : Rk) (e : Pz → Expr → Bool) : Ck where
  r := r
  e := e
  t := fun z x => notB r && plainT x && e z x
  bE := fun _ z xs => match xs with | [x] => notB r && e z x | _ => false
  bT := fun _ z xs => match xs with | [x] => notB r && plainT x && e z x | _ => false
  a := fun _ _ _ => false
  o := fun z x => match x with | some x => notB r && e z x | none => false
  i := fun b z _ x => !cnt && (b || notB r) && e z x
  g := fun _ _ => false
  gs := fun _ _ => false
  f := fun z xs => match xs with | [x] => notB r && plainT x && e z x | _ => false
section
variable {S : RS} {T : Tb} {Φ : Nat → List D → (D → Prop) → (Nat → Prop) → Prop} {dr : Nat → Nat}
variable {R : RT} {z : Pz} {X : Cx} {Ed : Nat → Prop} {x l r : Expr} {xs : List Expr} {a b c : C} {pos : Pos}
theorem toD {k : Rk} (h : PE X x (TEx Φ exName dr R (rlOf R k) Ed c)) (n : notB k = true) : PE X x (TEx Φ exName dr R (rlD R) Ed c) := by
  cases k with
  | d => exact h
  | b => cases n
  | n => exact TE.n2d h
theorem toB {k : Rk} (h : PE X x (TEx Φ exName dr R (rlOf R k) Ed c)) : PE X x (TEx Φ exName dr R (rlB R) Ed c) := by
  cases k with
  | d => exact TE.d2b h
  | b => exact h
  | n => exact TE.d2b (TE.n2d h)
theorem pw_one {op : BoolOp} {t : TT} (h : PT X x t) : PW X (.BoolOp op [x] pos) t := by
  cases op with
  | And => exact pw_and1 h
  | Or => exact pw_or1 h
theorem mkE_snd {cnt : Bool} {k : Rk} {e : Pz → Expr → Bool} (hc : cnt = true ∨ cntC0 c = false) (h : ∀ {R z X Ed}, Sit S T Φ dr R z X Ed → ∀ {x}, e z x = true → PE X x (TEx Φ exName dr R (rlOf R k) Ed c)) : Snd S T Φ dr (mkE cnt k e) c where
  e := fun s _ q => h s q
  t := fun s x q => by
    simp only [mkE, Bool.and_eq_true] at q
    exact TE.test (toD (h s q.2) q.1.1) (plainT_ok q.1.2)
  bE := fun s op xs pos q => by
    simp only [mkE] at q
    split at q
    · simp only [Bool.and_eq_true] at q
      exact pe_one (toD (h s q.2) q.1)
    · cases q
  bT := fun s op xs pos q => by
    simp only [mkE] at q
    split at q
    · simp only [Bool.and_eq_true] at q
      exact pw_one (TE.test (toD (h s q.2) q.1.1) (plainT_ok q.1.2))
    · cases q
  a := fun s b xs q => by cases q
  o := fun s x q => by
    simp only [mkE] at q
    split at q
    · simp only [Bool.and_eq_true] at q
      exact nd_part1 (toD (h s q.2) q.1)
    · cases q
  i := fun s b tg x q => by
    simp only [mkE, Bool.and_eq_true, Bool.not_eq_true', Bool.or_eq_true] at q
    obtain ⟨⟨q1, q2⟩, q3⟩ := q
    rcases hc with hc | hc
    · rw [hc] at q1; cases q1
    cases b with
    | true => exact nd_iseqB s.hK hc (toB (h s q3))
    | false =>
      rcases q2 with q2 | q2
      · cases q2
      · exact nd_iseq s.hK hc (toD (h s q3) q2)
  g := fun s x q => by cases q
  gs := fun s x q => by cases q
  f := fun s xs q => by
    simp only [mkE] at q
    split at q
    · simp only [Bool.and_eq_true] at q
      exact pts_one (TE.test (toD (h s q.2) q.1.1) (plainT_ok q.1.2))
    · cases q
/-- no value -/
def mkN : Ck where
  r := .b
  e := fun _ _ => false
  t := fun _ _ => false
  bE := fun _ _ _ => false
  bT := fun _ _ _ => false
  a := fun _ _ _ => false
  o := fun _ _ => false
  i := fun _ _ _ _ => false
  g := fun _ _ => false
  gs := fun _ _ => false
  f := fun _ _ => false
theorem mkN_snd : Snd S T Φ dr mkN c := by
  constructor <;> intros <;> (rename_i h; cases h)
/-- a test's: as a value, and as a test -/
def mkT (k : Ck) (t : Pz → Expr → Bool) : Ck := { k with t := t, bT := fun _ z xs => (match xs with | [x] => t z x | _ => false), f := fun z xs => (match xs with | [x] => t z x | _ => false) }
theorem mkT_snd {k : Ck} {t : Pz → Expr → Bool} (h : Snd S T Φ dr k c) (ht : ∀ {R z X Ed}, Sit S T Φ dr R z X Ed → ∀ {x}, t z x = true → PT X x (TTx Φ exName dr R Ed c)) : Snd S T Φ dr (mkT k t) c where
  e := h.e
  t := ht
  bE := h.bE
  bT := fun s op xs pos q => by
    simp only [mkT] at q
    split at q
    · exact pw_one (ht s q)
    · cases q
  a := h.a
  o := h.o
  i := h.i
  g := h.g
  gs := h.gs
  f := fun s xs q => by
    simp only [mkT] at q
    split at q
    · exact pts_one (ht s q)
    · cases q
/-- and, or -/
def mkBo (o : BoolOp) (A B : Ck) : Ck :=
  let vE : BoolOp → Pz → List Expr → Bool := fun op z xs => match xs with | l :: r :: rest => decide (op = o) && notB A.r && A.e z l && B.bE o z (r :: rest) | _ => false
  let vT : BoolOp → Pz → List Expr → Bool := fun op z xs => match xs with | l :: r :: rest => decide (op = o) && A.t z l && B.bT o z (r :: rest) | _ => false
  let E : Pz → Expr → Bool := fun z x => match x with | .BoolOp op xs _ => vE op z xs | _ => false
  let Tt : Pz → Expr → Bool := fun z x => match x with | .BoolOp op xs _ => vT op z xs | _ => false
  { r := .d, e := E, t := Tt, bE := fun op z xs => (match xs with | [x] => E z x | xs => vE op z xs), bT := fun op z xs => (match xs with | [x] => Tt z x | xs => vT op z xs), a := fun _ _ _ => false, o := fun _ _ => false,
    i := fun _ _ _ _ => false, g := fun _ _ => false, gs := fun _ _ => false, f := fun z xs => (match xs with | [x] => Tt z x | _ => false) }
theorem mkBo_snd {o : BoolOp} {A B : Ck} {c : C}
    (hE : ∀ {R z X Ed}, Sit S T Φ dr R z X Ed → ∀ {l r : Expr} {rest : List Expr} {pos : Pos}, notB A.r = true → A.e z l = true → B.bE o z (r :: rest) = true → PE X (.BoolOp o (l :: r :: rest) pos) (TEx Φ exName dr R (rlD R) Ed c))
    (hT : ∀ {R z X Ed}, Sit S T Φ dr R z X Ed → ∀ {l r : Expr} {rest : List Expr} {pos : Pos}, A.t z l = true → B.bT o z (r :: rest) = true → PW X (.BoolOp o (l :: r :: rest) pos) (TTx Φ exName dr R Ed c)) : Snd S T Φ dr (mkBo o A B) c := by
  have vE : ∀ {R z X Ed}, Sit S T Φ dr R z X Ed → ∀ {op : BoolOp} {xs : List Expr} {pos : Pos}, (match xs with | l :: r :: rest => decide (op = o) && notB A.r && A.e z l && B.bE o z (r :: rest) | _ => false) = true → PE X (.BoolOp op xs pos) (TEx Φ exName dr R (rlD R) Ed c) := by
    intro R z X Ed s op xs pos q
    split at q
    · simp only [Bool.and_eq_true, decide_eq_true_eq] at q
      obtain ⟨⟨⟨e, q1⟩, q2⟩, q3⟩ := q
      subst e
      exact hE s q1 q2 q3
    · cases q
  have vT : ∀ {R z X Ed}, Sit S T Φ dr R z X Ed → ∀ {op : BoolOp} {xs : List Expr} {pos : Pos}, (match xs with | l :: r :: rest => decide (op = o) && A.t z l && B.bT o z (r :: rest) | _ => false) = true → PW X (.BoolOp op xs pos) (TTx Φ exName dr R Ed c) := by
    intro R z X Ed s op xs pos q
    split at q
    · simp only [Bool.and_eq_true, decide_eq_true_eq] at q
      obtain ⟨⟨e, q2⟩, q3⟩ := q
      subst e
      exact hT s q2 q3
    · cases q
  have E : ∀ {R z X Ed}, Sit S T Φ dr R z X Ed → ∀ {x : Expr}, (mkBo o A B).e z x = true → PE X x (TEx Φ exName dr R (rlD R) Ed c) := by
    intro R z X Ed s x q
    simp only [mkBo] at q
    split at q
    · exact vE s q
    · cases q
  have Tt : ∀ {R z X Ed}, Sit S T Φ dr R z X Ed → ∀ {x : Expr}, (mkBo o A B).t z x = true → PT X x (TTx Φ exName dr R Ed c) := by
    intro R z X Ed s x q
    simp only [mkBo] at q
    split at q
    · exact (vT s q).pt
    · cases q
  refine { e := fun s _ q => E s q, t := fun s _ q => Tt s q, bE := ?_, bT := ?_, a := fun _ _ _ q => (by cases q), o := fun _ _ q => (by cases q), i := fun _ _ _ _ q => (by cases q), g := fun _ _ q => (by cases q), gs := fun _ _ q => (by cases q), f := ?_ }
  · intro R z X Ed s op xs pos q
    match xs, q with
    | [], q => cases q
    | [x], q => exact pe_one (E s q)
    | l :: r :: rest, q => exact vE s (xs := l :: r :: rest) q
  · intro R z X Ed s op xs pos q
    match xs, q with
    | [], q => cases q
    | [x], q => exact pw_one (Tt s q)
    | l :: r :: rest, q => exact vT s (xs := l :: r :: rest) q
  · intro R z X Ed s xs q
    match xs, q with
    | [], q => cases q
    | [x], q => exact pts_one (Tt s q)
    | l :: r :: rest, q => cases q
end
end Y

/-! part Y20 -/
set_option Elab.async false
set_option linter.all false
set_option maxRecDepth 100000
set_option maxHeartbeats 2000000
/-! Y20: repr, the comparison by repr, told calls. -/
namespace Y
open PySem PySem.Spec
open PyProof.Rows hiding St
open L2 LamX
section
variable {K : PySem.W.Frag} {H H' : Hp}
theorem SqL.kp (k : Kp H H') {a : Addr} {vs : List V} (h : SqL K H a vs) : SqL K H' a vs := by
  rcases h with (h | ⟨o, h⟩) | h
  · exact .inl (.inl (k _ _ h))
  · exact .inl (.inr ⟨o, k _ _ h⟩)
  · exact .inr h
theorem SqT.kp (k : Kp H H') {a : Addr} {vs : List V} (h : SqT K H a vs) : SqT K H' a vs := by
  rcases h with (h | ⟨o, h⟩) | h
  · exact .inl (.inl (k _ _ h))
  · exact .inl (.inr ⟨o, k _ _ h⟩)
  · exact .inr h
mutual
theorem Dp.kp (k : Kp H H') : ∀ {v : V} {p : PyData}, Dp K H v p → Dp K H' v p
  | _, _, .non => .non
  | _, _, .bl b => .bl b
  | _, _, .int i => .int i
  | _, _, .str x => .str x
  | _, _, .lst h1 h3 => .lst (SqL.kp k h1) (DpAll.kp k h3)
  | _, _, .tup h1 h2 => .tup (SqT.kp k h1) (DpAll.kp k h2)
theorem DpAll.kp (k : Kp H H') : ∀ {vs : List V} {ps : List PyData}, DpAll K H vs ps → DpAll K H' vs ps
  | _, _, .nil => .nil
  | _, _, .cons h1 h2 => .cons (Dp.kp k h1) (DpAll.kp k h2)
end
end
def rRepr (K : PySem.W.Frag) : RCa := fun xs H Q => ∃ a p, xs = [.ref a] ∧ Dp K H (.ref a) p ∧ ReprOk p ∧ Q (.str p.shown) H
theorem call_reprD {X : Cx} {k : Nat} (hg : X.A.guards = some []) (hr : Room k X.A) : CallR X (.builtin "repr") (rRepr X.K) := by
  intro pins s σ H xs us Q I r h
  obtain ⟨a, p, rfl, hd, ⟨h1, h2, h3, h4⟩, q⟩ := h
  obtain ⟨u, rfl, ru⟩ := Vals.one r
  cases ru
  obtain ⟨as, rd⟩ := Dp.reads I p (.ref a) (.ref a) hd rfl
  refine repr_of_reads' rd h1 (fun z => by rw [h2] at z; cases z) hg ?_ (fun _ _ e => e) (fun h' u tk hk => ?_) h4
  · have := hr.un
    omega
  · exact ⟨.str p.shown, H, I.kept (t' := tk) hk, ⟨u, rfl⟩, q⟩
theorem boot_repr : bootBuiltins "repr" = some (.builtin "repr") := by decide +kernel
/-- repr([x]) == repr([y]) -/
theorem pss_same {X : Cx} {k : Nat} {bg : List Stmt} (hg : X.A.guards = some []) (hr : Room k X.A) (hN : X.N = (["told", "due"] : List Str)) (hm : X.mg "repr" = none) (h : sameB X.env.scope bg = true) :
    PSs X bg (fun D σ H => ∃ v w p q, σ = [some v, some w] ∧ Dp X.K H v p ∧ Dp X.K H w q ∧ ReprOk (.list [p]) ∧ ReprOk (.list [q]) ∧ ∀ H', Kp H H' → D.rt (.bl (decide ((PyData.list [p]).shown = (PyData.list [q]).shown))) H') := by
  unfold sameB at h
  split at h
  · rename_i r1 p1 a p2 p3 p4 r2 p5 b p6 p7 p8 p9 p10
    simp only [Bool.and_eq_true, decide_eq_true_eq] at h
    obtain ⟨⟨⟨⟨⟨⟨⟨rfl, rfl⟩, rfl⟩, rfl⟩, _⟩, h1⟩, h2⟩, h3⟩ := h
    have gR : Gl X "repr" := kE_ok h3
    have v0 : ∀ {p : Pos}, PE X (.Name "told" p) (tVar 0) := fun {p} => pe_var (by rw [hN]; rfl) (.inl (kE_ok h1)) (by decide +kernel) (by decide +kernel)
    have v1 : ∀ {p : Pos}, PE X (.Name "due" p) (tVar 1) := fun {p} => pe_var (by rw [hN]; rfl) (.inl (kE_ok h2)) (by decide +kernel) (by decide +kernel)
    refine PSsw (pss_one (ps_ret (pe_cmpR op_eq (pe_callB (call_reprD hg hr) gR hm boot_repr (pa_cons (pe_lst (pa_cons v0 pa_nil)) pa_nil) (by decide +kernel) (by decide +kernel)) (pe_callB (call_reprD hg hr) gR hm boot_repr (pa_cons (pe_lst (pa_cons v1 pa_nil)) pa_nil) (by decide +kernel) (by decide +kernel)) (nomark _)))) fun D σ H ⟨v, w, p, q, e, d1, d2, o1, o2, hq⟩ => ?_
    subst e
    refine ⟨v, rfl, by show 1 ≤ sizeLine; decide, fun L1 n1 => ⟨L1, .list [p], rfl, ?_, o1, ?_⟩⟩
    · exact .lst (SqL.of upd_same) (.cons (Dp.kp (Kp.new n1) d1) .nil)
    refine ⟨w, rfl, by show 1 ≤ sizeLine; decide, fun L2 n2 => ⟨L2, .list [q], rfl, ?_, o2, ?_⟩⟩
    · exact .lst (SqL.of upd_same) (.cons (Dp.kp ((Kp.new n1).trans (Kp.new n2)) d2) .nil)
    refine ⟨rfl, ?_⟩
    have e : decide (V.str (PyData.list [p]).shown = V.str (PyData.list [q]).shown) = decide ((PyData.list [p]).shown = (PyData.list [q]).shown) := by
      by_cases z : (PyData.list [p]).shown = (PyData.list [q]).shown
      · rw [decide_eq_true z, z, decide_eq_true rfl]
      · rw [decide_eq_false z, decide_eq_false (fun y => z (by injection y))]
    rw [e]
    exact hq _ ((Kp.new n1).trans (Kp.new n2))
  · cases h
section
variable {R : RT} {F F' : Addr → Prop} {H H' : Hp} {σ : St} {ρ : Ev} {n m : Nat}
theorem StOk.kp {sa : SA} (st : StOk sa n H) (k : Kp H H') : StOk sa n H' := ⟨fun s b es => by
  obtain ⟨c, ns, q1, q2, q3, q4, q5⟩ := st.1 s b es
  exact ⟨c, ns, k _ _ q1, q2, q3, k _ _ q4, q5⟩, st.2.ext k⟩
theorem EnvOk.kp (E : EnvOk R n F σ H ρ) (k : Kp H H') : Nxt R n σ ρ F H F H' := by
  have x : Ext R.sa H H' := fun b o q _ => k b o q
  refine ⟨⟨E.ext.trans x, E.st.kp k, E.s0, E.fs, fun a ha z => ?_, E.new, E.len, fun i s hs => ?_, E.apart⟩, x, fun _ h => h, fun _ h => .inl h⟩
  · exact E.fr a ha (Kp.none k z)
  · have q := E.slot i s hs
    cases s with
    | sh d =>
      obtain ⟨v, h1, h2⟩ := q
      exact ⟨v, h1, h2.mono (E.keep x) fun _ h => h⟩
    | ow ps =>
      obtain ⟨a, vs, h1, h2, h3, h4, h5⟩ := q
      exact ⟨a, vs, h1, k _ _ h2, h3.mono (E.keep x) fun _ h => h, h4, h5⟩
theorem EnvOk.lst {P : Addr} {q : Str} (E : EnvOk R n F σ H ρ) (h : Lst P q H H') (hT : Tabs R.sa.T H') (hP : (P, q) ∈ R.sa.T) : Nxt R n σ ρ F H F H' := by
  rcases h with h | ⟨ps, c, hn, hc, h⟩
  · subst h; exact .refl E
  have x : Ext R.sa H H' := fun b o q hb => by
    rw [h, upd_ne (ne_of_none q hc), upd_ne (hb.2 _ hP)]
    exact q
  refine ⟨⟨E.ext.trans x, ⟨fun s b es => ?_, hT⟩, E.s0, E.fs, fun a ha z => ?_, E.new, E.len, fun i s hs => ?_, E.apart⟩, x, fun _ h => h, fun _ h => .inl h⟩
  · obtain ⟨cc, ns, q1, q2, q3, q4, q5⟩ := E.st.1 s b es
    obtain ⟨ps0, t1, _⟩ := E.st.2 _ hP
    have nl : ∀ b vs, H b = some (.lst vs) → H' b = some (.lst vs) := fun b vs e => by
      rw [h, upd_ne (ne_of_none e hc), upd_ne (fun z => by rw [z, t1] at e; cases e)]
      exact e
    exact ⟨cc, ns, nl _ _ q1, q2, q3, nl _ _ q4, q5⟩
  · cases e : H a with
    | none => exact E.fr a ha e
    | some o => rw [x a o e (E.fs a ha)] at z; cases z
  · have q := E.slot i s hs
    cases s with
    | sh d =>
      obtain ⟨v, h1, h2⟩ := q
      exact ⟨v, h1, h2.mono (E.keep x) fun _ h => h⟩
    | ow ps =>
      obtain ⟨a, vs, h1, h2, h3, h4, h5⟩ := q
      exact ⟨a, vs, h1, x _ _ h2 (E.s0.notS h5), h3.mono (E.keep x) fun _ h => h, h4, h5⟩
theorem shE_get {i : Nat} {s : Sl} (h : (shE ρ)[i]? = some (some s)) : ∃ d, s = .sh d ∧ ρ[i]? = some (some (.sh d)) := by
  unfold shE at h
  rw [List.getElem?_map] at h
  cases q : ρ[i]? with
  | none => rw [q] at h; cases h
  | some o =>
    rw [q] at h
    cases o with
    | none => cases h
    | some t =>
      cases t with
      | sh d => exact ⟨d, by cases h; rfl, rfl⟩
      | ow ps => cases h
/-- as a lambda's entry -/
theorem EnvOk.lam (E : EnvOk R n F σ H ρ) (m : Nat) : EnvOk ⟨R.S, R.sa, m, H, F⟩ n F σ H (shE ρ) := by
  refine ⟨.refl, E.st, E.st.s0, E.fs, E.fr, fun a h => .inl h, by unfold shE; rw [List.length_map]; exact E.len, fun i s hs => ?_, fun i j a ps qs h1 _ _ _ => ?_⟩
  · obtain ⟨d, rfl, hd⟩ := shE_get hs
    obtain ⟨v, h1, h2⟩ := E.slot i _ hd
    exact ⟨v, h1, RD.to (R := R) (R' := ⟨R.S, R.sa, m, H, F⟩) rfl rfl h2⟩
  · obtain ⟨d, e, _⟩ := shE_get h1
    cases e
end
section
variable {S : RS} {T : Tb} {Φ : Nat → List D → (D → Prop) → (Nat → Prop) → Prop} {dr : Nat → Nat}
variable {R : RT} {z : Pz} {X : Cx} {Ed : Nat → Prop} {e l r : Expr} {a b c : C} {pos p : Pos}
theorem nd_repr (s : Sit S T Φ dr R z X Ed) (L : LawF S R X) (hg : Gl X "repr") (hs : isStar e = false) (ha : PE X e (TEx Φ exName dr R (rlB R) Ed a)) : PE X (.Call (.Name "repr" p) [e] [] pos) (TEx Φ exName dr R (rlN R) Ed (.repr a)) :=
  PEw (pe_callB (call_reprD L.grd s.A.hr) hg (by rw [s.A.hm]; exact L.rep) boot_repr (pa_cons ha pa_nil (each_plain hs)) (by decide +kernel) (by decide +kernel) (each_plain hs)) fun σ H Q ⟨n, F, ρ, Qd, E, hn, hw, k⟩ => by
    simp only [wp] at hw
    simp only [drw] at hn k
    refine ⟨n, F, ρ, _, E, hn, hw, fun d v F1 H1 q x r => ?_⟩
    split at q
    · rename_i pp
      obtain ⟨⟨q1, q2⟩, q3⟩ := q
      have hd := RB.dp r
      have : ∃ a, v = .ref a := by
        cases pp with
        | list ps => cases hd; exact ⟨_, rfl⟩
        | tuple ps => cases hd; exact ⟨_, rfl⟩
        | _ => cases q1
      obtain ⟨ad, rfl⟩ := this
      exact ⟨ad, pp, rfl, by rw [s.hK]; exact hd, q2, k _ _ F1 H1 q3 x (.inl ⟨.str _, fun _ z => nomatch z⟩)⟩
    · exact q.elim
theorem nd_same {e1 e2 : Expr} (s : Sit S T Φ dr R z X Ed) (L : LawF S R X) (hL : 1 ≤ z.L) (hg : Gl X "_law_same") (hs1 : isStar e1 = false) (hs2 : isStar e2 = false) (ha : PE X e1 (TEx Φ exName dr R (rlB R) Ed a)) (hb : PE X e2 (TEx Φ exName dr R (rlB R) Ed b)) :
    PE X (.Call (.Name "_law_same" p) [e1, e2] [] pos) (TEx Φ exName dr R (rlN R) Ed (.same a b)) := by
  obtain ⟨g, pg, bg, sg, fd, hm, FD, hB, hsame⟩ := L.same
  obtain ⟨oc, od, dV, kV, doc, pm, an, cdv, ct, osl, rfl, lk, hcd, _⟩ := FD.ex
  refine ⟨fun pins s0 σ H Q I h => ?_⟩
  have hall : [e2].all (fun e => !isStar e) = true := by rw [List.all_cons, hs2]; rfl
  refine wpAny_Call_Name_kw (ld_glob I hg (by rw [s.A.hm]; exact hm) ?_ (by decide +kernel))
  obtain ⟨n, F, ρ, Qd, E, hn, hw, k⟩ := h
  simp only [drw] at hn k
  have hA : PA X [e1, e2] (TAx Φ exName dr R (rlB R) Ed (.cons a (.cons b .nil))) := nd_acons (rl := rlB R) rlB_ok hs1 ha (nd_acons (rl := rlB R) rlB_ok hs2 hb nd_anil)
  refine PySem.W.callWith_K (h₀ := X.base) I.ok.mod.kin (by rw [s.A.hK]; exact FD.kp) (thn (hA.run pos pins s0 σ H (fun vs H1 => ∃ v w p q, vs = [v, w] ∧ Dp X.K H1 v p ∧ Dp X.K H1 w q ∧ ReprOk (.list [p]) ∧ ReprOk (.list [q]) ∧ ∀ H', Kp H1 H' → Q (.bl (decide ((PyData.list [p]).shown = (PyData.list [q]).shown))) H') I ?_) fun us s1 ⟨vs, H1, I1, r, v, w, p', q', ev, d1, d2, o1, o2, hq⟩ => ⟨I1.kIn, ?_⟩) (each_plain hs1) (none_star hall)
  · refine ⟨n, F, ρ, fun x => match x with
      | .args [x, y] => (match x, y with
        | .py p, .py q => (ReprOk (.list [p]) ∧ ReprOk (.list [q])) ∧ Qd (.B (decide ((PyData.list [p]).shown = (PyData.list [q]).shown)))
        | _, _ => False)
      | _ => False, E, by simp only [drw]; omega, hw, fun ds vs F1 H1 q x r hl => ?_⟩
    match ds, q with
    | [x1, y1], q =>
      obtain ⟨v, w, rfl, r1, r2⟩ := ra2 r
      cases x1 with
      | py p' =>
        cases y1 with
        | py q' =>
          have q : (ReprOk (.list [p']) ∧ ReprOk (.list [q'])) ∧ Qd (.B (decide ((PyData.list [p']).shown = (PyData.list [q']).shown))) := q
          exact ⟨v, w, p', q', rfl, by rw [s.hK]; exact RB.dp r1, by rw [s.hK]; exact RB.dp r2, q.1.1, q.1.2, fun H' kp => k _ _ F1 H' q.2 ((x.trans (x.env.kp kp)).mono (by simp only [drw]; omega)) (.inl ⟨.bl _, fun _ z => nomatch z⟩)⟩
        | _ => exact False.elim q
      | _ => exact False.elim q
  · subst ev
    have hsc : C8.scC ["told", "due"] ["told", "due"] sg = true := by
      unfold sameB at hsame
      split at hsame
      · simp only [Bool.and_eq_true] at hsame
        exact hsame.1.1.1.2
      · cases hsame
    have Sg := C8.fnScope_by hsc
    obtain ⟨k', hk'⟩ : ∃ k', z.L = k' + 1 := ⟨z.L - 1, by omega⟩
    have hr : Room (k' + 1) X.A := by rw [← hk']; exact s.A.hr
    have hl2 : us.length = 2 := r.length.symm
    have rc : codeAny (model X.prog X.w) X.A (.call (.ref g) ⟨us, []⟩) (L2.CR C8.CX0 X.stack X.prog X.w H1 s1 Q C8.E0) s1 := by
      refine run_ofS (N := ["told", "due"]) (ps := ["told", "due"]) (us := us) (vs := [v, w]) (by rw [s.A.hK]; exact lk) (by rw [s.A.hK]; exact hcd) Sg hr I1.env0 ?_ r rfl fun hr' => ?_
      · have := hB s1 us (by have := I1.kIn; rw [s.A.hK] at this; exact this) (by rw [List.append_nil]; exact hl2)
        rw [List.append_nil] at this
        exact this
      · refine ⟨_, pss_same (by show X.A.guards = _; exact L.grd) hr' rfl (by show X.mg _ = none; rw [s.A.hm]; exact L.rep) hsame, v, w, p', q', rfl, d1, d2, o1, o2, fun H' kp => hq H' kp⟩
    refine wpAny_call (codeAny_mono rc fun r s2 hq => ?_)
    cases r with
    | error e => exact (show False from hq).elim
    | ok fl =>
      cases fl with
      | ret u => exact I1.after hq
      | next => exact False.elim hq
      | brk => exact False.elim hq
      | cont => exact False.elim hq
end
end Y

/-! part Y21 -/
set_option Elab.async false
set_option linter.all false
set_option maxRecDepth 100000
set_option maxHeartbeats 2000000
/-! Y21: a told call. -/
namespace Y
open PySem PySem.Spec
open PyProof.Rows hiding St
open L2 LamX
section
variable {S : RS} {T : Tb} {Φ : Nat → List D → (D → Prop) → (Nat → Prop) → Prop} {dr : Nat → Nat}
variable {R : RT} {z : Pz} {X : Cx} {Ed : Nat → Prop} {e l r : Expr} {es : List Expr} {a b c : C} {pos p lpos : Pos}
def lamZ (z : Pz) (scope : Scope) : Pz := ⟨z.N, scope, some scope, z.L - 2, false, false⟩
/-- the lambda's reading: what it may raise is told of later -/
def tLx (Φ : Nat → List D → (D → Prop) → (Nat → Prop) → Prop) (dr : Nat → Nat) (S : RS) (a : C) : XK → TE := fun E σ H Q => ∃ (sa : SA) (m : Nat) (F : Addr → Prop) (Ed : Nat → Prop), (m ≤ BIG ∧ sa.T = S.T0) ∧
  (∀ k H', Ed k → Ext sa H H' → StOk sa m H' → E (.ref (S.ex k)) none H') ∧ ∃ n ρ Qd, EnvOk ⟨S, sa, m, H, F⟩ n F σ H ρ ∧ n + drw dr a ≤ m ∧ wp Φ exName a ρ Qd Ed ∧ ∀ d v F' H', Qd d → Nxt ⟨S, sa, m, H, F⟩ (n + drw dr a) σ ρ F H F' H' → RD ⟨S, sa, m, H, F⟩ F' H' v d → Q v H'
theorem lam_fn {scope sc : Scope} (L : LamS sc scope) {Q : Prop} (x : Str) (h : (scope.names.lookup x == some .cell) = true) : Q :=
  absurd rfl (L.own _ (PySem.mem_of_lookup (eq_of_beq h))).2
theorem lam_sit {scope : Scope} (s : Sit S T Φ dr R z X Ed) (L : LamS X.env.scope scope) {sa : SA} {m : Nat} {F : Addr → Prop} {Ed' : Nat → Prop} {A : Around} {outer : List Env} {s0 : Shared} {H H2 : Hp} {E : XK} {f c' : Addr} (hr : Room (z.L - 2) (A.deeper (lamEnv X scope s0.heap.objs.size f c')))
    (hm : m ≤ BIG ∧ sa.T = S.T0) (hE : ∀ k H', Ed' k → Ext sa H2 H' → StOk sa m H' → E (.ref (S.ex k)) none H') : Sit S T Φ dr ⟨S, sa, m, H2, F⟩ (lamZ z scope) (lamN X A outer s0 H E scope f c') Ed' where
  A := { hP := s.A.hP, hw := s.A.hw, hK := s.A.hK, hm := s.A.hm, hb := s.A.hb, hN := s.A.hN, nd := s.A.nd, hs := rfl, calm := rfl, hr := hr, hg := (fun z => (by cases z)), hf := (fun x h => lam_fn L x h) }
  hS := rfl
  w := ⟨⟨_, L2N.takes_of rfl rfl rfl rfl, fun j σ H' q x st => hE j H' q x st⟩, hm.1, hm.2⟩
  bs := s.bs
  fh := fun k hk => s.fh k (Nat.le_trans hk (Nat.sub_le _ _))
  lw := fun z => (by cases z)
  lm := fun z => (by cases z)
theorem nd_told {body : Expr} {scope : Scope} (s : Sit S T Φ dr R z X Ed) (L : LawF S R X) (hL : 2 ≤ z.L) (hg : Gl X "_law_told") (hlam : LamS X.env.scope scope)
    (ha : ∀ {R' X' Ed'}, Sit S T Φ dr R' (lamZ z scope) X' Ed' → PE X' body (TEx Φ exName dr R' (rlD R') Ed' a)) :
    PE X (.Call (.Name "_law_told" p) [.Lambda ⟨[], [], none, [], [], none, []⟩ body scope lpos] [] pos) (TEx Φ exName dr R (rlN R) Ed (.told a)) := by
  obtain ⟨g, pg, bg, sg, fd, hm, FD, hB, htold⟩ := L.told
  obtain ⟨oc, od, dV, kV, doc, pm, an, cdv, ct, osl, rfl, lk, hcd, _⟩ := FD.ex
  obtain ⟨c, P, TB, hcode, hmT, huT⟩ := L.tab
  have hsc : toldSc sg = true := by
    unfold toldB at htold
    split at htold
    · simp only [Bool.and_eq_true] at htold
      exact htold.2
    · cases htold
  have hsc2 : C8.scC toldNs ["call"] sg = true ∧ sg.names.lookup ("call" : Str) = some .local := by
    unfold toldSc at hsc
    simp only [Bool.and_eq_true] at hsc
    exact ⟨hsc.1.1.1.1.1.1.1.1.1.1, kE_ok hsc.1.1.1.1.1.1.1.1.1.2⟩
  have Sg := C8.fnScope_by hsc2.1
  have hr : Room ((z.L - 2) + 2) X.A := by rw [Nat.sub_add_cancel hL]; exact s.A.hr
  have main := pe_lamcall3 (pos := pos) (p := p) (lpos := lpos) (T := R.sa.T) (TT := TTd S) (t := tLx Φ dr S a) (k := z.L - 2) (params := ⟨[], [], none, [], [], none, []⟩) (body := body) (scope := scope) (Ng := toldNs) (a := "call") hg (by rw [s.A.hm]; exact hm) (by rw [s.A.hK]; exact FD.kp) (by rw [s.A.hK]; exact lk) (by rw [s.A.hK]; exact hcd) (by rw [s.A.hK]; exact hB) Sg rfl (.inl hsc2.2)
    (told_ok s.A.hK s.A.hm L.cls htold) TB hcode hmT huT hr hlam rfl (fun _ _ _ _ _ => rfl) (fun A outer s0 H E f c' hr' => ⟨fun pins s1 σ H2 Q I h => ?_⟩) (by decide +kernel) (by decide +kernel) (by decide +kernel)
  · refine PEw main fun σ H Q ⟨n, F, ρ, Qd, E, hn, hw, k⟩ => ?_
    simp only [wp] at hw
    simp only [drw] at hn k
    refine ⟨E.st.2, fun H1 hl hT1 => ?_⟩
    have x1 := E.lst hl hT1 hmT
    have E1 := x1.env
    have hS := s.hS
    refine ⟨R.sa, n + drw dr a, F, _, ⟨Nat.le_trans hn s.w.big, by rw [← hS]; exact s.w.tt⟩, fun j H' hj hx hst => ?_, n, shE ρ, _, by have := E1.lam (n + drw dr a); rw [hS] at this; exact this, Nat.le_refl _, hw, fun d v F' H' q x r => ?_⟩
    · obtain ⟨hj3, hq⟩ := hj
      refine ⟨j, hj3, rfl, rfl, fun Tt H'' kp hn' hTt => ?_⟩
      have fr : ∀ b, F b → H' b ≠ none := fun b hb z => by
        cases q : H1 b with
        | none => exact E1.fr b hb q
        | some o =>
          rw [hx b o q (E1.fs b hb)] at z
          cases z
      have y : Nxt R (n + drw dr a) σ ρ F H1 F H' := E1.after ⟨hx, hst, fun _ h => h, fr, fun _ h => .inl h, E1.fs⟩
      have y2 := y.env.kp kp
      exact k _ _ F H'' hq ((x1.trans y).trans y2) (.inl ⟨.tup (SqT.of hTt) (fun _ z => by cases z) (.cons (.str _) .nil), fun _ z => nomatch z⟩)
    · split at q
      · rename_i pp
        refine ⟨by show 2 ≤ sizeLine; decide, fun Tt hTt => ?_⟩
        have y : Nxt R (n + drw dr a) σ ρ F H1 F' H' := E1.after ⟨x.ext, x.env.st, x.sub, x.env.fr, x.nw, x.env.fs⟩
        have r' : Rp R.sg R.K F' H' v pp := by
          have r : Rp S.sg S.K F' H' v pp := r
          show Rp R.S.sg R.S.K F' H' v pp
          rw [hS]; exact r
        have y2 := Nxt.upd y.env hTt (o := .tup [V.str "told", v])
        refine k _ _ F' _ q ((x1.trans y).trans y2) ?_
        have := y.env.newT (.inr rfl) hTt (RpAll.cons (.str "told") (.cons r' .nil))
        exact RN.back E (x1.trans y).ext y2.env.st y2.ext y.env.st this
      · exact q.elim
  · obtain ⟨sa, m, F, Ed', hm', hE, n, ρ, Qd, E0, hn, hw, kk⟩ := h
    exact (ha (lam_sit (F := F) s hlam hr' hm' hE)).run pins s1 σ H2 Q I ⟨n, F, ρ, Qd, E0, hn, hw, kk⟩
end
end Y

/-! part Y31 -/
set_option Elab.async false
set_option linter.all false
set_option maxRecDepth 100000
set_option maxHeartbeats 2000000
/-! Y31: a lambda with a default that it does not read. -/
namespace Y
open PySem PySem.Spec PyProof.Rows LamX
open L2 (Hp HO V Cx Inv TE TI TT TG TS VK XK upd upd_ne upd_same ne_of_none frs CX cloFrom PE PS PSs FnScope Gl Vis Room Takes WX cxOf closure_ok E0 Env0 Un)
structure LamD (sc scope : Scope) (d : Str) : Prop where
  kind : scope.kind = .function
  co : scope.isCoroutine = false
  gen : scope.isGenerator = false
  own : ∀ y ∈ scope.names, (y.2 = .local → y.1 = d) ∧ y.2 ≠ .cell
  par : scope.names.lookup d = some .local
  free : ∀ y ∈ scope.names, y.2 = .free → sc.names.lookup y.1 = some .cell ∨ sc.names.lookup y.1 = some .free
def lamDB (sc scope : Scope) (d : Str) : Bool :=
  decide (scope.kind = .function) && !scope.isCoroutine && !scope.isGenerator && decide (scope.names.lookup d = some .local) && scope.names.all fun y => (!decide (y.2 = .local) || decide (y.1 = d)) && !decide (y.2 = .cell) && (!decide (y.2 = .free) || decide (sc.names.lookup y.1 = some .cell) || decide (sc.names.lookup y.1 = some .free))
theorem lamD_by {sc scope : Scope} {d : Str} (h : lamDB sc scope d = true) : LamD sc scope d := by
  unfold lamDB at h
  simp only [Bool.and_eq_true, Bool.or_eq_true, Bool.not_eq_true', decide_eq_true_eq, decide_eq_false_iff_not, List.all_eq_true] at h
  obtain ⟨⟨⟨⟨h1, h2⟩, h3⟩, h5⟩, h4⟩ := h
  refine ⟨h1, h2, h3, fun y hy => ⟨fun e => (h4 y hy).1.1.resolve_left (fun z => z e), (h4 y hy).1.2⟩, h5, fun y hy e => ?_⟩
  rcases (h4 y hy).2 with (z | z) | z
  · exact absurd e z
  · exact .inl z
  · exact .inr z
theorem LamD.has {X : Cx} {scope : Scope} {d : Str} (L : LamD X.env.scope scope d) (ok : X.Ok) : ∀ y ∈ scope.names, y.2 = .free → ∃ c, X.env.cells.lookup y.1 = some c := fun y hy e => by
  rcases L.free y hy e with k | k
  · exact ok.has _ (.inl k)
  · exact ok.has _ (.inr k)
theorem binds_D {s : Shared} {T0 : Addr} {v : Value} {q : Str} {ar : Arg} {n : Int} {kd : Nat} {cp : Pos} {body : Expr} {scope : Scope} {cl : List (Str × Addr)} {doc pm cv ctv : Value} (oT : s.heap.get? T0 = some (PySem.W.kdv_tup [v])) :
    BindsTo s (PySem.W.kdv_fn "<lambda>" q ⟨[], [ar], none, [], [], none, [.Constant (.int n) kd cp]⟩ (.expr body) scope cl (.ref T0) doc pm cv ctv) ⟨[], []⟩ [(ar.arg, v)] := by
  refine BindsTo.of_defaults rfl oT rfl rfl ?_
  have e : (ar.arg == ar.arg) = true := beq_self_eq_true _
  simp [List.lookup]
section
variable {X : Cx} {pins : List (Addr × Obj)} {σ : L2.St} {H : Hp} {s : Shared}
theorem lam_tailD {T : List (Addr × Str)} {c P T0 : Addr} {v : Value} {params : Arguments} {body : Expr} {scope : Scope} {pos : Pos} {E : Value → Shared → Prop} {Q : Value → Shared → Prop} (I : Inv X pins σ H s) (TB : TabB X.base X.mg c P) (hcode : X.env.code = .ref c)
    (hm : (P, X.env.qual ++ "<lambda>") ∈ T) (hu : ∀ p ∈ T, p.1 = P → p.2 = X.env.qual ++ "<lambda>") (hT : Tabs T H) (hfree : ∀ y ∈ scope.names, y.2 = .free → ∃ c, X.env.cells.lookup y.1 = some c)
    (oT : s.heap.get? T0 = some (PySem.W.kdv_tup [v])) (nT : H T0 = none)
    (h : ∀ (f c' : Addr) (doc pm ctv : Value) (H1 : Hp) (s' : Shared), Inv X pins σ H1 s' → Lst P (X.env.qual ++ "<lambda>") H H1 → Tabs T H1 →
      s'.heap.get? f = some (PySem.W.kdv_obj "<lambda>" (X.env.qual ++ "<lambda>") params (.expr body) scope (cloFrom X.env.cells scope.names []) (.ref T0) doc pm c' ctv) → H1 f = none → f ∉ frs X.stack → s'.heap.get? T0 = some (PySem.W.kdv_tup [v]) → H1 T0 = none → H1 c' = some (CodeO c' (X.env.qual ++ "<lambda>")) → Q (.ref f) s') :
    wpAny (model X.prog X.w) X.A (makeTail "<lambda>" (X.env.qual ++ "<lambda>") params (.expr body) scope X.env (.ref T0) .none none pos pos.line) Q E s := by
  obtain ⟨ps, hP, ht, ha⟩ := hT _ hm
  have bP : s.heap.BuiltinsAt X.mg P := TB.bm.keeps I.bk
  have hP' : s.heap.get? P = some { cls := .none, data := .fields ps } := I.hok P _ hP
  have nofr : ∀ f, s.heap.objs.size ≤ f → f ∉ frs X.stack := fun f hf z => by
    rcases List.mem_cons.mp (I.stkSub _ z) with e | e
    · have h1 := I.lt
      rw [← e] at h1
      exact Nat.lt_irrefl _ (Nat.lt_of_lt_of_le h1 hf)
    · exact I.nofs hf e
  have hTs := Heap.lt_size oT
  cases hc : codeAmong pos ps.toList with
  | some cv =>
    obtain ⟨c', e, hco⟩ := ha pos cv hc
    subst e
    refine PySem.W.kdv_makeTailHit (mg := X.mg) (c := c) (P := P) (ps := ps) (closure_ok hfree) I.ok.glob (I.mod.glob.keeps I.bk) hcode (TB.code.keeps I.bk) hP' ht hc bP fun ctv doc h' tk hx hsz => ?_
    have I1 : Inv X pins σ H { s with heap := h'.push (PySem.W.kdv_obj "<lambda>" (X.env.qual ++ "<lambda>") params (.expr body) scope (cloFrom X.env.cells scope.names []) (.ref T0) doc ((X.mg "__name__").getD .none) c' ctv), toks := tk } := I.kept fun b o e => Heap.get?_push_of_some _ (hx b o e)
    exact h _ c' _ _ ctv H _ I1 (.inl rfl) hT (Heap.get?_push_size _ rfl) (I.hok.fresh hsz) (nofr _ hsz) (Heap.get?_push_of_some _ (hx _ _ oT)) nT hco
  | none =>
    refine PySem.W.kdv_makeTail (mg := X.mg) (c := c) (P := P) (ps := ps) (closure_ok hfree) I.ok.glob (I.mod.glob.keeps I.bk) hcode (TB.code.keeps I.bk) hP' ht hc TB.gP bP fun c' ctv doc h' tk hx hge hlt hrec htb => ?_
    obtain ⟨c2, oc, vs, t, e2, hoc, hd, hv⟩ := hrec
    cases e2
    have hsz : s.heap.objs.size ≤ h'.objs.size := Nat.le_trans hge (Nat.le_of_lt hlt)
    have nC : H c' = none := I.hok.fresh hge
    have I1 := inv_table (t' := tk) (more := #[rawInt pos.line, rawInt pos.col, .ref c']) (h' := h'.push (PySem.W.kdv_obj "<lambda>" (X.env.qual ++ "<lambda>") params (.expr body) scope (cloFrom X.env.cells scope.names []) (.ref T0) doc ((X.mg "__name__").getD .none) c' ctv)) I hP
      (fun b o hb e => Heap.get?_push_of_some _ (hx b o hb e)) (Heap.get?_push_of_some _ htb) hge ⟨oc, vs, t, Heap.get?_push_of_some _ hoc, hd, hv⟩
    have keepC : ∀ c0, H c0 = some (CodeO c0 (X.env.qual ++ "<lambda>")) ∨ (∃ q, H c0 = some (CodeO c0 q)) → c0 ≠ P ∧ c0 ≠ c' := fun c0 hz => by
      have : ∃ q, H c0 = some (CodeO c0 q) := hz.elim (fun z => ⟨_, z⟩) id
      obtain ⟨q, hz⟩ := this
      refine ⟨fun z => ?_, ne_of_none hz nC⟩
      rw [z, hP] at hz
      exact codeO_ne ps (Option.some.inj hz).symm
    have eL : (ps ++ #[rawInt pos.line, rawInt pos.col, .ref c']).toList = ps.toList ++ [rawInt pos.line, rawInt pos.col, .ref c'] := by simp
    have nTP : T0 ≠ P := fun z => by rw [z, hP] at nT; cases nT
    have nTc : T0 ≠ c' := Nat.ne_of_lt (Nat.lt_of_lt_of_le hTs hge)
    refine h h'.objs.size c' _ _ ctv _ _ I1 (.inr ⟨_, c', (by rw [hP]; exact Option.some_ne_none _), nC, rfl⟩) (fun p hp => ?_) (Heap.get?_push_size _ rfl) ?_ (nofr _ hsz) (Heap.get?_push_of_some _ (hx _ _ nTP oT)) (by rw [upd_ne nTc, upd_ne nTP]; exact nT) upd_same
    · by_cases hb : p.1 = P
      · rw [hu p hp hb, hb]
        refine ⟨_, by rw [upd_ne (ne_of_none hP nC), upd_same], by rw [eL]; exact PySem.TriplesOk_snoc _ _ _ _ ht, fun p' cv hcv => ?_⟩
        rw [eL] at hcv
        rcases among_app _ ht hcv with z | z
        · obtain ⟨c0, e1, e2⟩ := ha p' cv z
          obtain ⟨n1, n2⟩ := keepC c0 (.inl e2)
          exact ⟨c0, e1, by rw [upd_ne n2, upd_ne n1]; exact e2⟩
        · exact ⟨c', z, upd_same⟩
      · obtain ⟨ps', a1, a2, a3⟩ := hT p hp
        refine ⟨ps', by rw [upd_ne (ne_of_none a1 nC), upd_ne hb]; exact a1, a2, fun p' cv hcv => ?_⟩
        obtain ⟨c0, e1, e2⟩ := a3 p' cv hcv
        obtain ⟨n1, n2⟩ := keepC c0 (.inr ⟨_, e2⟩)
        exact ⟨c0, e1, by rw [upd_ne n2, upd_ne n1]; exact e2⟩
    · rw [upd_ne (Nat.ne_of_gt hlt), upd_ne (Nat.ne_of_gt (Nat.lt_of_lt_of_le (Heap.lt_size hP') hsz))]
      exact I.hok.fresh hsz
theorem lam_makeD {T : List (Addr × Str)} {c P : Addr} {n : Int} {kd : Nat} {cp : Pos} {ar : Arg} {body : Expr} {scope : Scope} {pos : Pos} {E : Value → Shared → Prop} {Q : Value → Shared → Prop} (I : Inv X pins σ H s) (TB : TabB X.base X.mg c P) (hcode : X.env.code = .ref c)
    (hm : (P, X.env.qual ++ "<lambda>") ∈ T) (hu : ∀ p ∈ T, p.1 = P → p.2 = X.env.qual ++ "<lambda>") (hT : Tabs T H) (hfree : ∀ y ∈ scope.names, y.2 = .free → ∃ c, X.env.cells.lookup y.1 = some c)
    (h : ∀ (f c' T0 : Addr) (v doc pm ctv : Value) (H1 : Hp) (s' : Shared), Inv X pins σ H1 s' → Lst P (X.env.qual ++ "<lambda>") H H1 → Tabs T H1 →
      s'.heap.get? f = some (PySem.W.kdv_obj "<lambda>" (X.env.qual ++ "<lambda>") ⟨[], [ar], none, [], [], none, [.Constant (.int n) kd cp]⟩ (.expr body) scope (cloFrom X.env.cells scope.names []) (.ref T0) doc pm c' ctv) → H1 f = none → f ∉ frs X.stack → s'.heap.get? T0 = some (PySem.W.kdv_tup [v]) → H1 T0 = none → T0 ∉ frs X.stack → H1 c' = some (CodeO c' (X.env.qual ++ "<lambda>")) → Q (.ref f) s') :
    wpAny (model X.prog X.w) X.A (eval (.Lambda ⟨[], [ar], none, [], [], none, [.Constant (.int n) kd cp]⟩ body scope pos) X.env) Q E s := by
  have nofr : ∀ f, s.heap.objs.size ≤ f → f ∉ frs X.stack := fun f hf z => by
    rcases List.mem_cons.mp (I.stkSub _ z) with e | e
    · have h1 := I.lt
      rw [← e] at h1
      exact Nat.lt_irrefl _ (Nat.lt_of_lt_of_le h1 hf)
    · exact I.nofs hf e
  refine PySem.W.kdv_lam rfl rfl ?_
  refine PySem.W.kdv_all1 (wpAny_Constant_int (PySem.W.kdv_all0 ?_))
  rw [makeFunction_eq]
  simp only [List.zip_nil_right, List.filterMap_nil, List.isEmpty_nil, if_true, pure_bind, List.isEmpty_cons, Bool.false_eq_true, if_false]
  refine wpAny_bind (wpAny_newTextTuple ?_)
  have I0 : Inv X pins σ H { s with heap := s.heap.push (PySem.W.kdv_tup [.int n s.toks]), toks := s.toks + 1 } := I.kept fun b o e => Heap.get?_push_of_some _ e
  exact lam_tailD I0 TB hcode hm hu hT hfree (Heap.get?_push_size _ rfl) (I.hok.fresh (Nat.le_refl _)) fun f c' doc pm ctv H1 s' I1 a b c d e g i j => h f c' _ _ doc pm ctv H1 s' I1 a b c d e g i (nofr _ (Nat.le_refl _)) j
theorem lam_startD {A : Around} {outer : List PySem.Env} {E : XK} {scope : Scope} {f c' : Addr} {h₁ : Heap} {tk : Nat} {d : Str} {v : Value} {HZ : Hp} {s1 : Shared} {σ' : L2.St} (I : Inv X pins σ H s) (L : LamD X.env.scope scope d) (e0 : Env0 X.prog X.w X.K X.mg X.base A outer s1 HZ) (hd : A.handled = none)
    (hσ : ∀ (j : Nat) (u : V), X.N[j]? = some d → σ'[j]? ≠ some (some u)) (hσ2 : ∀ (j : Nat) (u : V), σ'[j]? = some (some u) → σ[j]? = some (some u)) (hl : σ'.length = σ.length)
    (un : Un (frs X.stack) [] H HZ s.heap s1.heap) (hns : h₁.Ns s1.heap.objs.size fun y => ([(d, v)] : List (Str × Value)).reverse.lookup y) (kp : ∀ b o, s1.heap.get? b = some o → h₁.get? b = some o) :
    Inv (lamCx X A outer s1 HZ E scope f c') [] σ' HZ { s1 with heap := h₁, toks := tk } := by
  have hfree := L.has I.ok
  have cm : ∀ {y c}, (cloFrom X.env.cells scope.names []).lookup y = some c → X.env.cells.lookup y = some c := fun {y c} e => by
    rcases L2.cloFrom_mem (PySem.mem_of_lookup e) with hm | ⟨h1, h2⟩
    · cases hm
    · obtain ⟨c1, hc⟩ := hfree _ h1 rfl
      have hc : X.env.cells.lookup y = some c1 := hc
      have e2 : c = c1 := by
        rw [h2, hc] <;> rfl
      rw [e2]
      exact hc
  have look : ∀ {y}, scope.names.lookup y = some .free → ∃ c, (cloFrom X.env.cells scope.names []).lookup y = some c := fun {y} hl => by
    have hy : (y, NameKind.free) ∈ scope.names := PySem.mem_of_lookup hl
    exact L2.mem_lookup (L2.cloFrom_has (cells := X.env.cells) (acc := []) hy)
  have cellK : ∀ {c : Addr} {v : Option Value}, H c = none → s.heap.IsCell c v → h₁.IsCell c v := fun {c v} n ⟨o, ho, hd⟩ => by
    obtain ⟨sl, q⟩ := un.any ho n (by simp)
    exact ⟨_, kp _ _ q, hd⟩
  have noA : ∀ b : Addr, b ∉ (lamCx X A outer s1 HZ E scope f c').ex := fun b z => absurd (show b ∈ ([] : List Addr) from z) (by simp)
  refine ⟨⟨e0.mod, L.kind, rfl, rfl, Nat.le_refl _, fun y z c e1 e2 => I.ok.inj y z c (cm e1) (cm e2), fun y hy => ?_, fun y c z _ => ?_, fun _ => hd, Around.frames_deeper e0.frames, .inr ⟨rfl, rfl⟩, fun b z => absurd z (noA b), e0.bs, e0.bsz, fun b _ _ => noA b,
      fun b z => absurd z (noA b), e0.funs, e0.frf⟩,
    rfl, e0.bare, Un.kept kp, ⟨_, hns, fun i y v e1 e2 e3 => ?_⟩, fun y c e => ?_, e0.hok.fresh (Nat.le_refl _), fun y c e => ?_, fun q hq => absurd (show q ∈ ([] : List (Addr × Obj)) ++ [] from hq) (by simp), e0.hok.kept kp, hl.trans I.len⟩
  · have hy : scope.names.lookup y = some .cell ∨ scope.names.lookup y = some .free := hy
    rcases hy with hy | hy
    · exact absurd rfl (L.own _ (PySem.mem_of_lookup hy)).2
    · exact look hy
  · have z : false = true := z
    cases z
  · have e3 : Vis scope y := e3
    rcases e3 with k | k | k
    · have ey : y = d := (L.own _ (PySem.mem_of_lookup k)).1 rfl
      rw [ey] at e1
      exact absurd e2 (hσ i v e1)
    · exact absurd rfl (L.own _ (PySem.mem_of_lookup k)).2
    · obtain ⟨m, hn, hl⟩ := I.loc
      have hvis : Vis X.env.scope y := (L.free _ (PySem.mem_of_lookup k) rfl).elim (fun k => .inr (.inl k)) (fun k => .inr (.inr k))
      obtain ⟨w', r, q⟩ := hl i y v e1 (hσ2 i v e2) hvis
      obtain ⟨c2, h2⟩ := look k
      refine ⟨w', r, .inr ⟨.inr k, c2, h2, ?_⟩⟩
      have c1 := cm h2
      rcases q with ⟨k', _⟩ | ⟨_, c3, e', z⟩
      · have k' : X.env.scope.names.lookup y = some .local := k'
        rcases L.free _ (PySem.mem_of_lookup k) rfl with k2 | k2 <;> rw [show X.env.scope.names.lookup y = _ from k2] at k' <;> cases k'
      · rw [c1] at e'
        cases e'
        exact cellK (I.freeC y _ c1) z
  · obtain ⟨w', z⟩ := I.cell y c (cm e)
    exact ⟨w', cellK (I.freeC y c (cm e)) z⟩
  · obtain ⟨v, o, ho, hd⟩ := I.cell y c (cm e)
    exact un.free c o ho (I.freeC y c (cm e)) (by simp)
/-- x(), in the def that got the lambda -/
theorem pe_actD {CXg : L2.CXT} {Eg : XK} {Ng : List Str} {qg : Str} {sg : Scope} {g f c' T0 : Addr} {cdg doc pm ctv v : Value} {ar : Arg} {n : Int} {kd : Nat} {cp : Pos} {body : Expr} {scope : Scope} {k i i0 : Nat} {a : Str} {pn : List (Addr × Obj)} {xe : Value → Shared → Prop} {W : WX} {E : XK} {tb : TE} {p1 p2 : Pos}
    (I : Inv X pins σ H s) (L : LamD X.env.scope scope ar.arg) (hi0 : ∀ j : Nat, X.N[j]? = some ar.arg → j = i0) (hf : s.heap.get? f = some (PySem.W.kdv_obj "<lambda>" (X.env.qual ++ "<lambda>") ⟨[], [ar], none, [], [], none, [.Constant (.int n) kd cp]⟩ (.expr body) scope (cloFrom X.env.cells scope.names []) (.ref T0) doc pm c' ctv)) (hfn : H f = none) (hfr : f ∉ frs X.stack)
    (hT : s.heap.get? T0 = some (PySem.W.kdv_tup [v])) (hTn : H T0 = none) (hTr : T0 ∉ frs X.stack)
    (tk : L2N.Takes ((cxOf CXg X.prog X.w X.K X.mg X.base Ng qg sg g cdg X.A X.stack s H Eg).tr pn xe) W) (hW : ∀ cls d σ' H', E cls d H' → W cls d σ' H') (hr : Room (k + 1) (X.A.deeper (envOfC qg sg s.heap.objs.size g cdg)))
    (hbody : ∀ (A : Around) (outer : List PySem.Env) (s : Shared) (H : Hp), Room k (A.deeper (lamEnv X scope s.heap.objs.size f c')) → PE (lamN X A outer s H E scope f c') body tb)
    (hN : Ng[i]? = some a) (hv : Vis sg a) (hd : (a == ("__debug__" : Str)) = false) (hcd : (a == ("__classdict__" : Str)) = false) :
    PE ((cxOf CXg X.prog X.w X.K X.mg X.base Ng qg sg g cdg X.A X.stack s H Eg).tr pn xe) (.Call (.Name a p1) [] [] p2)
      (fun σZ HZ Q => σZ[i]? = some (some (.ref f)) ∧ HZ c' = some (CodeO c' (X.env.qual ++ "<lambda>")) ∧ tb (σ.set i0 none) HZ Q) := by
  refine ⟨fun pinsZ sZ σZ HZ Q IZ h => ?_⟩
  obtain ⟨hs, hc, ht⟩ := h
  refine wpAny_Call_Name_kw (L2.thn ((L2.pe_var (pos := p1) (i := i) hN hv hd hcd).run pinsZ sZ σZ HZ (fun v H1 => v = .ref f ∧ H1 = HZ) IZ ⟨.ref f, hs, rfl, rfl⟩) fun u s1 ⟨v, H1, I1, r1, q1⟩ => ?_)
  obtain ⟨rfl, rfl⟩ := q1
  obtain rfl : u = Value.ref f := r1
  have of1 := I1.base.keep f _ hf hfn hfr (fun z => nomatch (show f ∈ ([] : List Addr) from z))
  have oT1 := I1.base.keep T0 _ hT hTn hTr (fun z => nomatch (show T0 ∈ ([] : List Addr) from z))
  refine PySem.W.callWith_F0 ⟨_, _, _, _, of1⟩ ?_
  obtain ⟨⟨oc, vs, t, hoc, hdc, hvc⟩, _, _⟩ := I1.hok c' _ hc
  have rc : codeAny (model X.prog X.w) (X.A.deeper (envOfC qg sg s.heap.objs.size g cdg)) (.call (.ref f) ⟨[], []⟩) (L2.CR (L2N.CX X.prog X.w) (envOfC qg sg s.heap.objs.size g cdg :: X.stack) X.prog X.w H1 s1 Q E) s1 := by
    refine PySem.W.kla_callFunE hr.depth of1 rfl L.co L.gen rfl ⟨c', oc, vs, t, rfl, hoc, hdc, hvc⟩ ?_
    refine binds_D oT1 _ _ _ _ ?_
    refine wpAny_newFunctionEnv (fun y hy => (L.own y hy).2) (fun y hy => by rw [List.mem_singleton.mp hy]; exact L.par) (fun h₁ hns hsb => ⟨I1.nolimit.fresh _ hsb, ?_⟩) L.kind
    show codeAny _ _ (.expr body (lamEnv X scope s1.heap.objs.size f c')) _ _
    have kp : ∀ b o, s1.heap.get? b = some o → h₁.get? b = some o := fun b o e => hsb.extBut b o (Nat.ne_of_lt (Heap.lt_size e)) (Heap.get?_push_of_some _ e)
    have J := (lam_startD (σ' := σ.set i0 none) (f := f) (c' := c') (E := E) (tk := s1.toks + 1) I L I1.env0 hr.hd (fun j u e z => by
        have := hi0 j e
        subst this
        rw [List.getElem?_set] at z
        simp only [if_true] at z
        split at z <;> cases z) (fun j u z => by
        rw [List.getElem?_set] at z
        split at z
        · split at z <;> cases z
        · exact z) (List.length_set ..) I1.base hns kp).wish (fun e s' => wpAny (model X.prog X.w) ((X.A.deeper (envOfC qg sg s.heap.objs.size g cdg)).deeper (lamEnv X scope s1.heap.objs.size f c')) (leaving (lamEnv X scope s1.heap.objs.size f c') e) (fun _ s'' => L2N.CX X.prog X.w (envOfC qg sg s.heap.objs.size g cdg :: X.stack) H1 s1 E e s'') (fun e' s'' => L2N.CX X.prog X.w (envOfC qg sg s.heap.objs.size g cdg :: X.stack) H1 s1 E e' s'') s')
    refine PySem.W.kla_codeExpr (wpAny_mono ((hbody _ _ s1 H1 (hr.deeper _)).run [] _ _ H1 Q J ht) (fun v s' hq => ?_) fun e s' hq => hq)
    obtain ⟨w', H', J', rv, q⟩ := hq
    exact ⟨w', H', J'.os, J'.bare, J'.base, J'.hok, rv, q⟩
  have hx : L2.Passes (L2N.CX X.prog X.w) ((cxOf CXg X.prog X.w X.K X.mg X.base Ng qg sg g cdg X.A X.stack s H Eg).tr pn xe) E := L2N.passes_call tk hW
  refine wpAny_call (codeAny_mono rc fun r s' hq => ?_)
  cases r with
  | error e => exact hx pinsZ σZ H1 s1 e s' I1 hq
  | ok fl =>
    cases fl with
    | ret u => exact I1.after hq
    | next => exact False.elim hq
    | brk => exact False.elim hq
    | cont => exact False.elim hq
end
section
variable {X : Cx}
def tLamD (i0 : Nat) (T : List (Addr × Str)) (P : Addr) (q : Str) (TT : (XK → Hp → VK → Prop) → Hp → VK → Prop) (t : XK → TE) : TE := fun σ H Q => Tabs T H ∧ ∀ H1, Lst P q H H1 → Tabs T H1 → TT (fun E H' Q' => t E (σ.set i0 none) H' Q') H1 Q
/-- x(lambda d=n: body) -/
theorem pe_lamcallD {T : List (Addr × Str)} {TT : (XK → Hp → VK → Prop) → Hp → VK → Prop} {x a : Str} {g c P : Addr} {k i0 : Nat} {pg : Arguments} {bg : List Stmt} {sg : Scope} {dV kV doc pm cdv ct oc : Value} {an od : Option Addr} {osl : Array (Option Value)} {Ng : List Str}
    {ar : Arg} {n : Int} {kd : Nat} {cp : Pos} {body : Expr} {scope : Scope} {t : XK → TE} {p lpos pos : Pos} (hg : Gl X x) (hm : X.mg x = some (.ref g)) (hk : PySem.W.keepIn X.K (.ref g) = true)
    (lk : X.K.lookup g = some ⟨oc, od, .func (PySem.W.fnOf x x pg bg sg dV kV doc pm an cdv ct), osl⟩) (hcg : PySem.W.codeIn X.K cdv x = true) (hb : L2.Binds X.K (PySem.W.fnOf x x pg bg sg dV kV doc pm an cdv ct) [a] []) (Sg : FnScope Ng [a] sg) (hNg : Ng[0]? = some a) (hva : Vis sg a)
    (hG : GivesN X Ng x sg g cdv bg a (X.env.qual ++ "<lambda>") TT)
    (TB : TabB X.base X.mg c P) (hcode : X.env.code = .ref c) (hmT : (P, X.env.qual ++ "<lambda>") ∈ T) (hu : ∀ p ∈ T, p.1 = P → p.2 = X.env.qual ++ "<lambda>") (hr : Room (k + 2) X.A) (L : LamD X.env.scope scope ar.arg) (hi0 : ∀ j : Nat, X.N[j]? = some ar.arg → j = i0)
    (hbody : ∀ (A : Around) (outer : List PySem.Env) (s : Shared) (H : Hp) (E : XK) (f c' : Addr), Room k (A.deeper (lamEnv X scope s.heap.objs.size f c')) → PE (lamN X A outer s H E scope f c') body (t E))
    (hdb : (x == ("__debug__" : Str)) = false) (hd : (a == ("__debug__" : Str)) = false) (hcd : (a == ("__classdict__" : Str)) = false) :
    PE X (.Call (.Name x p) [.Lambda ⟨[], [ar], none, [], [], none, [.Constant (.int n) kd cp]⟩ body scope lpos] [] pos) (tLamD i0 T P (X.env.qual ++ "<lambda>") TT t) := by
  refine ⟨fun pins s σ H Q I h => ?_⟩
  obtain ⟨hT, h⟩ := h
  refine wpAny_Call_Name_kw (L2.ld_glob I hg hm ?_ hdb)
  refine PySem.W.callWith_K (h₀ := X.base) I.ok.mod.kin hk ?_ (by rfl) (by rfl)
  show wpAny _ _ (spliced ((false, eval (.Lambda ⟨[], [ar], none, [], [], none, [.Constant (.int n) kd cp]⟩ body scope lpos) X.env) :: backTo pos (starEach [] X.env))) _ _ s
  refine Calls.spliced_cons (lam_makeD I TB hcode hmT hu hT (L.has I.ok) fun f c' T0 v doc pm' ctv H1 s' I1 eN T1 hf hfn hfr oT nT rT hco => Calls.spliced_nil ⟨I1.kIn, ?_⟩)
  have rc : codeAny (model X.prog X.w) X.A (.call (.ref g) ⟨[.ref f], []⟩) (L2.CR C8.CX0 X.stack X.prog X.w H1 s' Q C8.E0) s' := by
    refine run_ofS (N := Ng) (ps := [a]) (us := [.ref f]) (vs := [.ref f]) lk hcg Sg hr I1.env0 (hb s' [.ref f] I1.kIn rfl) (.cons rfl .nil) rfl fun hr' => ?_
    obtain ⟨t', ht', hq'⟩ := hG f c' s' H1 Q (fun E H' Q' => t E (σ.set i0 none) H' Q') (fun W pn xe E p1 p2 tk hW => pe_actD (CXg := C8.CX0) (Eg := C8.E0) (i := 0) I1 L hi0 hf hfn hfr oT nT rT tk hW hr' (fun A outer s H hr2 => hbody A outer s H E f c' hr2) hNg hva hd hcd) hco (h H1 eN T1)
    exact ⟨t', ht'.nox, hq'⟩
  refine wpAny_call (codeAny_mono rc fun r s2 hq => ?_)
  cases r with
  | error e => exact (show False from hq).elim
  | ok fl =>
    cases fl with
    | ret u => exact I1.after hq
    | next => exact False.elim hq
    | brk => exact False.elim hq
    | cont => exact False.elim hq
end
end Y

/-! part Y37 -/
set_option Elab.async false
set_option linter.all false
set_option maxRecDepth 100000
set_option maxHeartbeats 2000000
/-! Y37: min with a key that is a lambda: (x[i], x[j], ..). -/
namespace Y
open PySem PySem.Spec PyProof.Rows LamX
open L2 (Hp HO V Cx Inv TE TI TT TG TS VK XK upd upd_ne upd_same ne_of_none frs CX cloFrom PE PS PSs FnScope Gl Vis Room Takes WX cxOf closure_ok E0 SqL SqT Vals RelV EP)
/-- x[i], x[j], .. -/
def keyJ (x : Str) : List Expr → Option (List Nat)
  | [] => some []
  | .Subscript (.Name y _) (.Constant (.int j) _ _) _ :: r => if y = x ∧ 0 ≤ j ∧ j < 1000 then (keyJ x r).map (j.toNat :: ·) else none
  | _ => none
def kOf (its : List Value) (j : Nat) : Int := match its[j]? with
  | some (.int k _) => k
  | _ => 0
section
variable {prog : Program} {w : World} {A : Around} {E : Value → Shared → Prop} {env : Env} {x : Str} {b : Addr} {its : List Value} {m : Str → Option Value}
theorem key_items (hk : env.scope.kind = .function) (hl : env.kindOf x = some .local) (hd : (x == ("__debug__" : Str)) = false) (hm : m x = some (.ref b)) (pos : Pos) :
    ∀ (es : List Expr) (js : List Nat) (s : Shared) (Q : List Value → Shared → Prop), keyJ x es = some js → s.heap.Ns env.locals m → IsTup s.heap b its.toArray → (∀ j ∈ js, ∃ k t, its[j]? = some (.int k t)) →
      (∀ vs tk, IntsAre vs (js.map (kOf its)) → Q vs { s with toks := tk }) → wpAny (model prog w) A (spliced (backTo pos (starEach es env))) Q E s := by
  intro es
  induction es with
  | nil =>
    intro js s Q h _ _ _ hQ
    simp only [keyJ, Option.some.injEq] at h
    subst h
    exact Calls.spliced_nil (hQ [] s.toks .nil)
  | cons e r ih =>
    intro js s Q h hn ht hj hQ
    unfold keyJ at h
    split at h
    · rename_i heq; cases heq
    · rename_i y p1 j kd p2 p3 r' heq
      cases heq
      split at h
      · rename_i hc
        obtain ⟨rfl, h0, h1⟩ := hc
        cases q : keyJ y r with
        | none => rw [q] at h; cases h
        | some js' =>
          rw [q] at h
          simp only [Option.map_some, Option.some.injEq] at h
          subst h
          obtain ⟨k, t, hk1⟩ := hj j.toNat List.mem_cons_self
          have hlt : j.toNat < its.length := (List.getElem?_eq_some_iff.mp hk1).1
          show wpAny _ _ (spliced ((false, eval (.Subscript (.Name y p1) (.Constant (.int j) kd p2) p3) env) :: backTo pos (starEach r env))) _ _ s
          refine Calls.spliced_cons (Subscript_ (wpAny_Name (wpAny_loadName_local hk hl hn hm (wpAny_Constant_int ?_)) hd))
          refine item_tupleL (l := its) (j := j.toNat) ht (by omega) (by omega) ?_ hk1 ?_
          · have e : j = ((j.toNat : Nat) : Int) := by omega
            rw [e]
            unfold seqIndex?
            have e2 : (((j.toNat : Nat) : Int)).toNat = j.toNat := by omega
            have e3 : ¬ ((j.toNat : Nat) : Int) < 0 := by omega
            have e4 : (0 : Int) ≤ ((j.toNat : Nat) : Int) := by omega
            have e5 : ((j.toNat : Nat) : Int) < (its.length : Int) := by omega
            simp only [e3, if_false, e4, e5, decide_true, Bool.and_self, if_true, e2]
          · refine ih js' { s with toks := s.toks + 1 } _ q hn ht (fun i hi => hj i (List.mem_cons_of_mem _ hi)) fun vs tk hv => hQ (.int k t :: vs) tk ?_
            have e : kOf its j.toNat = k := by unfold kOf; rw [hk1]
            show IntsAre _ (kOf its j.toNat :: js'.map (kOf its))
            rw [e]
            exact .cons k t hv
      · cases h
    · cases h
end
section
variable {prog : Program} {w : World} {A : Around} {E : Value → Shared → Prop} {s : Shared} {f b c' : Addr} {q : Str} {ar : Arg} {es : List Expr} {kk : Nat} {tpos : Pos} {scope : Scope} {clo : List (Str × Addr)} {pm ctv : Value} {its : List Value} {js : List Nat} {Q : Value → Shared → Prop}
theorem binds_1 {q : Str} {ar : Arg} {body : Expr} {scope : Scope} {clo : List (Str × Addr)} {pm cv ctv u : Value} : bindArgs (PySem.W.kla_fn "<lambda>" q ⟨[], [ar], none, [], [], none, []⟩ body scope clo pm cv ctv) ⟨[u], []⟩ = pure [(ar.arg, u)] := by
  have e : (ar.arg == ar.arg) = true := beq_self_eq_true _
  have e2 : seqItems? Value.none = pure none := rfl
  unfold bindArgs
  simp [PySem.W.kla_fn, List.lookup, e, e2]
theorem key_turn {sc : Scope} (hf : s.heap.get? f = some (PySem.W.kla_obj "<lambda>" q ⟨[], [ar], none, [], [], none, []⟩ (.Tuple es kk tpos) scope clo pm c' ctv)) (hcd : s.heap.CodeRec (.ref c') q) (L : LamD sc scope ar.arg) (hlim : s.heap.NoLimit) (hroom : A.depth < recursionLimit)
    (hd : (ar.arg == ("__debug__" : Str)) = false) (ht : IsTup s.heap b its.toArray) (hjs : keyJ ar.arg es = some js) (hlen : js.length ≤ 100) (hj : ∀ j ∈ js, ∃ k t, its[j]? = some (.int k t))
    (h : ∀ vs h' tk t, (∀ b o, s.heap.get? b = some o → h'.get? b = some o) → IntsAre vs (js.map (kOf its)) → IsTup h' t vs.toArray → s.heap.get? t = none → Q (.ref t) { s with heap := h', toks := tk }) :
    wpAny (model prog w) A (call (.ref f) [.ref b]) Q E s := by
  refine wpAny_call (PySem.W.kla_callFunE hroom hf rfl L.co L.gen rfl hcd ?_)
  show wpAny _ _ (bindArgs (PySem.W.kla_fn "<lambda>" q ⟨[], [ar], none, [], [], none, []⟩ (.Tuple es kk tpos) scope clo pm (.ref c') ctv) ⟨[.ref b], []⟩) _ _ s
  rw [binds_1]
  refine wpAny_pure (wpAny_newFunctionEnv (fun y hy => (L.own y hy).2) (fun y hy => by rw [List.mem_singleton.mp hy]; exact L.par) (fun h₁ hns hsb => ⟨hlim.fresh _ hsb, ?_⟩) L.kind)
  have kp : ∀ b o, s.heap.get? b = some o → h₁.get? b = some o := fun b o e => hsb.extBut b o (Nat.ne_of_lt (Heap.lt_size e)) (Heap.get?_push_of_some _ e)
  refine PySem.W.kla_codeExpr (wpAny_Tuple ?_)
  refine key_items (b := b) (its := its) (m := fun y => ([(ar.arg, Value.ref b)] : List (Str × Value)).reverse.lookup y) L.kind ?par hd (by simp) tpos es js _ _ hjs hns (ht.keeps kp) hj fun vs tk hv => ⟨?_, ?_⟩
  case par =>
    have e := L.par
    first | exact e | (unfold Env.kindOf; exact e) | (simp only [Env.kindOf, newEnv]; exact e)
  · have := hv.length
    rw [List.length_map] at this
    rw [this]
    exact Nat.le_trans hlen (by decide)
  · refine h vs _ tk _ (fun b o e => Heap.get?_push_of_some _ (kp b o e)) hv ⟨_, Heap.get?_push_size _ rfl, rfl, _, rfl⟩ ?_
    cases z : s.heap.get? h₁.objs.size with
    | none => rfl
    | some o => exact absurd (Heap.lt_size (kp _ _ z)) (Nat.lt_irrefl _)
end
/-- the min loop, whatever the lambda's object -/
theorem min_key {prog : Program} {w : World} {A : Around} {E : Value → Shared → Prop} {s : Shared} {f c' a : Addr} {q : Str} {ar : Arg} {es : List Expr} {kk : Nat} {tpos : Pos} {scope sc : Scope} {clo : List (Str × Addr)} {pm ctv : Value} {its : List Value} {js : List Nat} {Q : Value → Shared → Prop} {kf : Nat → List Int} {row : Nat → List Value}
    (hh : A.handled = none) (hf : s.heap.get? f = some (PySem.W.kla_obj "<lambda>" q ⟨[], [ar], none, [], [], none, []⟩ (.Tuple es kk tpos) scope clo pm c' ctv)) (hcd : s.heap.CodeRec (.ref c') q) (L : LamD sc scope ar.arg) (hlim : s.heap.NoLimit) (hroom : A.depth < recursionLimit) (hu : A.units + 1 < cLine)
    (hd : (ar.arg == ("__debug__" : Str)) = false) (hjs : keyJ ar.arg es = some js) (hlen : js.length ≤ 100) (hl : s.heap.IsList a its.toArray) (hne : 0 < its.length)
    (hit : ∀ i v, its[i]? = some v → ∃ b, v = .ref b ∧ IsTup s.heap b (row i).toArray ∧ (∀ j ∈ js, ∃ k t, (row i)[j]? = some (.int k t)) ∧ js.map (kOf (row i)) = kf i)
    (h : ∀ v h' tk, its[argBest (fun i j => HT.lexLt (kf i) (kf j)) (its.length - 1)]? = some v → (∀ b o, s.heap.get? b = some o → h'.get? b = some o) → Q v { s with heap := h', toks := tk }) :
    wpAny (model prog w) A (call (.builtin "min") [.ref a] [(Str.ofString "key", .ref f)]) Q E s := by
  have hsz : its.toArray.size = its.length := by simp
  refine call_min_walkK (PySem.W.iter_listW (A := A.in1) hh hl fun s₂ e W st hfp hw hk => ?_)
  obtain ⟨S, hS⟩ : ∃ S, S = s₂.heap.objs.size := ⟨_, rfl⟩
  have hIS : s.heap.objs.size < S := by
    rw [hS, e]
    show _ < (s.heap.push _).objs.size
    rw [Heap.size_push]
    exact Nat.lt_succ_self _
  have lt1 : ∀ b o, s.heap.get? b = some o → b < s.heap.objs.size := fun b o e => Heap.lt_size e
  refine ⟨s.heap.objs.size, _, _, _, its.toArray.size, _, _, fun s' => ∃ h' tk, s' = { s with heap := h', toks := tk } ∧ ∀ b o, s.heap.get? b = some o → h'.get? b = some o,
    fun i k s' => ∃ t vs, k = .ref t ∧ IsTup s'.heap t vs.toArray ∧ IntsAre vs (kf i) ∧ t ≠ S ∧ t ≠ s.heap.objs.size, fun i j => HT.lexLt (kf i) (kf j), rfl, W, st, hfp, by rw [hsz]; exact hne, ?_, ?_, ?_⟩
  · rw [← hS]
    refine ⟨fun s1 s2 hJ hm => ?_, fun i k s1 s2 hV hm => ?_, fun i v s1 o Q E hi hP hJ hst hSo hQ => ?_, fun i j ki kj s1 Q E hJ hV1 hV2 hQ => ?_⟩
    · obtain ⟨h', tk, rfl, kp⟩ := hJ
      have e2 := Moved.eq_with hm
      refine ⟨s2.heap, s2.toks, e2, fun b o e => hm.heap b o (fun z => ?_) (kp b o e)⟩
      have := lt1 b o e
      rcases List.mem_cons.mp z with z | z
      · rw [z] at this
        exact Nat.lt_irrefl _ (Nat.lt_trans this hIS)
      · rw [List.mem_singleton.mp z] at this
        exact Nat.lt_irrefl _ this
    · obtain ⟨t, vs, rfl, ht, hv, n1, n2⟩ := hV
      obtain ⟨o, ho, r⟩ := ht
      refine ⟨t, vs, rfl, ⟨o, hm.heap t o (fun z => ?_) ho, r⟩, hv, n1, n2⟩
      rcases List.mem_cons.mp z with z | z
      · exact n1 z
      · exact n2 (List.mem_singleton.mp z)
    · obtain ⟨h', tk, rfl, kp⟩ := hJ
      have hP' : its[i]? = some v := by simpa using hP
      obtain ⟨b, rfl, ht, hj, hk⟩ := hit i v hP'
      have hst := id hst
      refine key_turn (sc := sc) (kp _ _ hf) (hcd.keeps kp) L (hlim.keeps kp) hroom hd (ht.keeps kp) hjs hlen hj fun vs h2 tk2 t kp2 hv ht2 hn2 => ?_
      refine hQ _ _ ⟨h2, tk2, rfl, fun b o e => kp2 b o (kp b o e)⟩ ?_ (kp2 _ _ hSo) ⟨t, vs, rfl, ht2, by rw [← hk]; exact hv, fun z => ?_, fun z => ?_⟩ fun j k' ⟨t', vs', e1, e2, e3, e4, e5⟩ => ⟨t', vs', e1, IsTup.keeps e2 kp2, e3, e4, e5⟩
      · obtain ⟨⟨oI, g1, g2, g3⟩, ⟨oL, g4, g5⟩⟩ := hst
        exact ⟨⟨oI, kp2 _ _ g1, g2, g3⟩, ⟨oL, kp2 _ _ g4, g5⟩⟩
      · rw [z] at hn2
        have hSo : h'.get? S = some o := hSo
        rw [show h'.get? S = none from hn2] at hSo
        cases hSo
      · obtain ⟨⟨oI, g1, g2, g3⟩, _⟩ := hst
        rw [z] at hn2
        have g1 : h'.get? s.heap.objs.size = some oI := g1
        rw [show h'.get? s.heap.objs.size = none from hn2] at g1
        cases g1
    · obtain ⟨t1, vs1, rfl, ht1, hv1, _⟩ := hV1
      obtain ⟨t2, vs2, rfl, ht2, hv2, _⟩ := hV2
      exact HT.lt_tupInts ht1 ht2 hv1 hv2 hu hQ
  · exact ⟨s₂.heap, s₂.toks, by rw [e], hk⟩
  · intro v s' hP ⟨h', tk, e1, kp⟩
    subst e1
    refine h v h' tk ?_ kp
    rw [hsz] at hP
    simpa using hP
theorem vals_back : ∀ {xs : List V} {us : List Value} {i : Nat} {u : Value}, Vals xs us → us[i]? = some u → ∃ x, xs[i]? = some x ∧ RelV x u
  | _, _, _, _, .nil, e => by simp at e
  | _, _, 0, _, .cons r _, e => by simp at e; subst e; exact ⟨_, rfl, r⟩
  | _, _, i + 1, u, .cons _ t, e => by
    obtain ⟨x, h1, h2⟩ := vals_back (i := i) (u := u) t (by simpa using e)
    exact ⟨x, by simpa using h1, h2⟩
section
variable {X : Cx}
def tMinK (T : List (Addr × Str)) (P : Addr) (q : Str) (K : PySem.W.Frag) (js : List Nat) (te : TE) : TE := fun σ H Q => te σ H fun x H1 => Tabs T H1 ∧ ∀ H2, Lst P q H1 H2 → Tabs T H2 → ∃ (a : Addr) (vs : List V) (kf : Nat → List Int), x = .ref a ∧ SqL K H2 a vs ∧ 0 < vs.length ∧
  (∀ i v, vs[i]? = some v → ∃ b xs, v = .ref b ∧ SqT K H2 b xs ∧ js.map (fun j => xs[j]?) = (kf i).map fun k => some (V.int k)) ∧ ∀ v, vs[argBest (fun i j => HT.lexLt (kf i) (kf j)) (vs.length - 1)]? = some v → Q v H2
/-- min(e, key=lambda x: (x[i], ..)) -/
theorem pe_minK {T : List (Addr × Str)} {te : TE} {c P : Addr} {k : Nat} {e : Expr} {ar : Arg} {es : List Expr} {kk : Nat} {tpos p lpos kpos pos : Pos} {scope : Scope} {js : List Nat} (hg : Gl X "min") (hm : X.mg "min" = none) (ha : PE X e te) (hse : starEach [e] X.env = (false, eval e X.env) :: starEach [] X.env)
    (TB : TabB X.base X.mg c P) (hcode : X.env.code = .ref c) (hmT : (P, X.env.qual ++ "<lambda>") ∈ T) (hu : ∀ p ∈ T, p.1 = P → p.2 = X.env.qual ++ "<lambda>") (hr : Room (k + 1) X.A) (L : LamD X.env.scope scope ar.arg) (hd : (ar.arg == ("__debug__" : Str)) = false)
    (hjs : keyJ ar.arg es = some js) (hlen : js.length ≤ 100) :
    PE X (.Call (.Name "min" p) [e] [⟨some "key", .Lambda ⟨[], [ar], none, [], [], none, []⟩ (.Tuple es kk tpos) scope lpos, kpos⟩] pos) (tMinK T P (X.env.qual ++ "<lambda>") X.K js te) := by
  refine ⟨fun pins s σ H Q I h => ?_⟩
  refine wpAny_Call_Name_kw (L2.ld_blt I hg hm (u := .builtin "min") (by decide +kernel) ?_)
  refine PyProof.Rows.callWith_kw ?_ (by rw [hse]; rfl) (by rw [hse]; rfl)
  rw [hse]
  show wpAny _ _ (spliced ((false, eval e X.env) :: backTo pos (starEach [] X.env))) _ _ s
  refine Calls.spliced_cons (L2.thn (ha.run pins s σ H _ I h) fun v s1 ⟨x, H1, I1, r1, hT, hq⟩ => Calls.spliced_nil ?_)
  show wpAny _ _ (evalAll [do let v ← eval (.Lambda ⟨[], [ar], none, [], [], none, []⟩ (.Tuple es kk tpos) scope lpos) X.env; standAt pos; pure v]) _ _ s1
  refine wpAny_evalAll_cons (wpAny_bind (lam_make3 I1 TB hcode hmT hu hT rfl (L.has I.ok) fun f c' pm ctv H2 s2 I2 eN T2 hf hfn hfr hco => wpAny_bind (wpAny_standAt (wpAny_pure (wpAny_evalAll_nil ?_)))))
  obtain ⟨a, vs, kf, rfl, hl, hne, hit, hQ⟩ := hq H2 eN T2
  obtain rfl : v = Value.ref a := r1
  show wpAny _ _ (call (.builtin "min") [.ref a] [(Str.ofString "key", .ref f)]) _ _ s2
  obtain ⟨its, rv, pl, _⟩ := I2.list hl
  obtain ⟨⟨oc, us, t, hoc, hdc, hvc⟩, _, _⟩ := I2.hok c' _ hco
  have hlen2 := rv.length
  obtain ⟨row, hrow⟩ : ∃ row : Nat → List Value, ∀ i v, its[i]? = some v → ∃ b, v = .ref b ∧ IsTup s2.heap b (row i).toArray ∧ (∀ j ∈ js, ∃ k t, (row i)[j]? = some (.int k t)) ∧ js.map (kOf (row i)) = kf i := by
    have : ∀ i, ∃ r : List Value, ∀ v, its[i]? = some v → ∃ b, v = .ref b ∧ IsTup s2.heap b r.toArray ∧ (∀ j ∈ js, ∃ k t, r[j]? = some (.int k t)) ∧ js.map (kOf r) = kf i := by
      intro i
      cases z : its[i]? with
      | none => exact ⟨[], fun v e => by cases e⟩
      | some v =>
        obtain ⟨w, hw, rw1⟩ := vals_back rv z
        obtain ⟨b, xs, rfl, hq, hk⟩ := hit i w hw
        obtain rfl : v = Value.ref b := rw1
        obtain ⟨r, rr, pt, _⟩ := I2.tuple hq
        refine ⟨r, fun v e => ?_⟩
        cases e
        have key : ∀ (js : List Nat) (ks : List Int), js.map (fun j => xs[j]?) = ks.map (fun k => some (V.int k)) → (∀ j ∈ js, ∃ k t, r[j]? = some (.int k t)) ∧ js.map (kOf r) = ks := by
          intro js
          induction js with
          | nil =>
            intro ks h
            cases ks with
            | nil => exact ⟨fun j h => (nomatch h), rfl⟩
            | cons _ _ => cases h
          | cons j js ih =>
            intro ks h
            cases ks with
            | nil => cases h
            | cons k ks =>
              simp only [List.map_cons, List.cons.injEq] at h
              obtain ⟨g1, g2⟩ := ih ks h.2
              have h1 : xs[j]? = some (V.int k) := h.1
              obtain ⟨u, hu1, hu2⟩ := L2.Vals.get rr h1
              obtain ⟨t, hu3⟩ : ∃ t, u = .int k t := hu2
              subst hu3
              refine ⟨fun i hi => ?_, ?_⟩
              · rcases List.mem_cons.mp hi with rfl | hi
                · exact ⟨k, t, hu1⟩
                · exact g1 i hi
              · rw [List.map_cons, g2]
                congr 1
                unfold kOf
                rw [hu1]
        exact ⟨b, rfl, pt, (key js _ hk).1, (key js _ hk).2⟩
    exact ⟨fun i => Classical.choose (this i), fun i => Classical.choose_spec (this i)⟩
  refine min_key (kf := kf) (row := row) hr.hd hf ⟨c', oc, us, t, rfl, hoc, hdc, hvc⟩ L I2.nolimit hr.depth (by have := hr.un; omega) hd hjs hlen pl.isList (by rw [← hlen2]; exact hne) hrow fun u h' tk hu kp => ?_
  rw [← hlen2] at hu
  obtain ⟨w, hw, rw1⟩ := vals_back rv hu
  exact ⟨w, H2, I2.kept kp, rw1, hQ w hw⟩
end
end Y

/-! part Y38 -/
set_option Elab.async false
set_option linter.all false
set_option maxRecDepth 100000
set_option maxHeartbeats 1000000
/-! Y38: a call that gives a new list; min with a key that is a lambda; list.remove. -/
namespace Y
open PySem PySem.Spec
open PyProof.Rows hiding St
open L2 LamX
section
variable {Φ : Nat → List D → (D → Prop) → (Nat → Prop) → Prop} {exN : Nat → Str} {dr : Nat → Nat}
variable {X : Cx} {R : RT} {z : Pz} {Ed : Nat → Prop} {e : Expr} {es : List Expr} {a : C} {pos : Pos}
theorem ra_none {F F' : Addr → Prop} {H : Hp} : ∀ {vs : List V} {ds : List D}, ds.all noLD = true → RAx (RB R F H) vs ds → RA R F' H vs ds
  | [], [], _, _ => trivial
  | v :: vs, d :: ds, h, ⟨a, b⟩ => by
    rw [List.all_cons, Bool.and_eq_true] at h
    refine ⟨?_, ra_none h.2 b⟩
    rcases a with a | ⟨u, ws, ps, h1, h2, h3, h4, h5⟩
    · exact rd_free h.1 a
    · subst h1
      exact absurd h.1 (by show ¬ (false = true); decide)
  | [], _ :: _, _, h => h.elim
  | _ :: _, [], _, h => h.elim
theorem sp_new {k n : Nat} {F : Addr → Prop} {σ : St} {H : Hp} {ρ : Ev} {vs : List V} {ds : List D} {Qd : D → Prop} {Q : VK} (E : EnvOk R n F σ H ρ) (hn : n + dr k ≤ R.nb) (hB : R.nb ≤ BIG) (tt : R.sa.T = R.S.T0) (hl : ds.all noLD = true) (hr : RAx (RB R F H) vs ds) (hw : Φ k ds (fun d => lsFree d = true ∧ Qd d) Ed)
    (kk : ∀ d v H', Qd d → Nxt R (n + dr k) σ ρ F H F H' → RN R H F H' v d → Q v H') :
    spF R.S Φ dr k vs H Q (fun cls d H' => ∃ j, Ed j ∧ cls = .ref (R.ex j) ∧ d = none ∧ Ext R.sa R.H0 H' ∧ StOk R.sa R.nb H') := by
  refine ⟨R.sa, n, fun _ => False, ds, _, Ed, ⟨E.st, E.st.s0, fun b hb => hb.elim, fun b hb => hb.elim, tt⟩, Nat.le_trans hn hB, RA.to (R := R) (R' := ⟨R.S, R.sa, n + dr k, H, fun _ => False⟩) rfl rfl (ra_none hl hr), hw, fun d v F' H' q A r => ?_, fun j H' q x st => ⟨j, q, rfl, rfl, E.ext.trans x, st.mono hn⟩⟩
  have A2 : Aft ⟨R.S, R.sa, n + dr k, H, F⟩ F H F H' := ⟨A.ext, A.st, fun _ h => h, fun a ha z => (by
    cases e : H a with
    | none => exact E.fr a ha e
    | some o => exact absurd ((A.ext a o e (E.fs a ha)).symm.trans z) (by simp)), fun a ha => .inl ha, E.fs⟩
  refine kk d v H' q.2 (E.after A2) ?_
  have r : RD ⟨R.S, R.sa, n + dr k, H, fun _ => False⟩ F' H' v d := r
  have free := q.1
  cases d with
  | py p =>
    cases p with
    | list ps =>
      cases r with
      | @lst a ws _ h1 h2 h3 =>
        have hn : H a = none := (A.new a h2).resolve_left fun z => z
        exact .inr ⟨a, ws, ps, rfl, rfl, hn, h1, fun z => E.fr a z hn, RpAll.free free h3⟩
    | none => exact .inl ⟨rd_free (d := .py _) free r, fun ps z => (by cases z)⟩
    | bool b => exact .inl ⟨rd_free (d := .py _) free r, fun ps z => (by cases z)⟩
    | int b => exact .inl ⟨rd_free (d := .py _) free r, fun ps z => (by cases z)⟩
    | str b => exact .inl ⟨rd_free (d := .py _) free r, fun ps z => (by cases z)⟩
    | tuple b => exact .inl ⟨rd_free (d := .py _) free r, fun ps z => (by cases z)⟩
    | dict b => cases free
  | _ => cases free
theorem nd_calln {S : RS} {lv : Nat → Nat} {k : Nat} {x : Str} {p : Pos} (hA : At S z X) (hS : R.S = S) (w : Wsh R Ed X) (FH : FHeld S Φ dr lv k) (hl : lv k ≤ z.L) (hg : Gl X x) (hm : S.mg x = some (.ref (S.fa k))) (hd : (x == ("__debug__" : Str)) = false)
    (hs : (e :: es).all (fun e => !isStar e) = true) (ha : PA X (e :: es) (TAx Φ exN dr R (rlB R) Ed a)) : PE X (.Call (.Name x p) (e :: es) [] pos) (TEx Φ exN dr R (rlN R) Ed (.calln k a)) := by
  subst hS
  obtain ⟨fd, ps, F, b⟩ := FH.ex
  rw [List.all_cons, Bool.and_eq_true, Bool.not_eq_true'] at hs
  refine PEw (pe_call (F := by rw [hA.hP, hA.hw, hA.hK, hA.hm, hA.hb]; exact F) (hA.hr.mono hl) hg (by rw [hA.hm]; exact hm) (by rw [hA.hK]; exact FH.kp) (by rw [hA.hK]; exact b) .nil (w.passes hA.hP hA.hw) ha hd (each_plain hs.1) (none_star hs.2)) fun σ H Q ⟨n, F, ρ, Qd, E, hn, hw, kk⟩ => ?_
  simp only [wp] at hw
  simp only [drw] at hn kk
  refine ⟨n, F, ρ, _, E, by omega, hw, fun ds vs F1 H1 q1 x1 r1 _ => ?_⟩
  show spF R.S Φ dr k (vs ++ []) H1 Q _
  rw [List.append_nil]
  refine sp_new x1.env (by omega) w.big w.tt q1.1 r1 q1.2 fun d v H' q x2 r => kk d v F1 H' q ((x1.trans x2).mono (by omega)) ?_
  have st1 : StOk R.sa (n + drw dr a + dr k) H1 := x1.env.st.mono (by omega)
  exact RN.back E x1.ext x2.env.st x2.ext st1 r
end
/-! ### min with a key -/
theorem keyI_at {sg : Bool} {K : PySem.W.Frag} {F : Addr → Prop} {H : Hp} {vs : List V} {ps : List PyData} (r : RpAll sg K F H vs ps) : ∀ {js : List Nat} {ks : List Int}, keyI ps js = some ks → js.map (fun j => vs[j]?) = ks.map fun k => some (V.int k)
  | [], ks, h => by
    simp only [keyI, Option.some.injEq] at h
    subst h
    rfl
  | j :: js, ks, h => by
    simp only [keyI] at h
    split at h
    · rename_i k hk
      cases q : keyI ps js with
      | none => rw [q] at h; cases h
      | some ks' =>
        rw [q] at h
        simp only [Option.map_some, Option.some.injEq] at h
        subst h
        obtain ⟨v, h1, h2⟩ := r.get hk
        cases h2
        simp only [List.map_cons, h1, keyI_at r q]
    · cases h
section
variable {S : RS} {T : Tb} {Φ : Nat → List D → (D → Prop) → (Nat → Prop) → Prop} {dr : Nat → Nat}
variable {R : RT} {z : Pz} {X : Cx} {Ed : Nat → Prop} {e : Expr} {a : C}
theorem minKD_inv {js : List Nat} {d : D} {Q : D → Prop} (h : minKD js d Q) : ∃ ps, d = .L ps ∧ 0 < ps.length ∧ (∀ p ∈ ps, (keyP js p).isSome = true) ∧ ∀ p, ps[bestI js ps]? = some p → Q (.py p) := by
  unfold minKD at h
  split at h
  · exact ⟨_, rfl, h⟩
  · exact h.elim
theorem nd_minK {ar : Arg} {es : List Expr} {kk : Nat} {tpos p lpos kpos pos : Pos} {scope : Scope} {js : List Nat} (s : Sit S T Φ dr R z X Ed) (hlm : z.lm = true) (hL : 1 ≤ z.L) (hg : Gl X "min") (hm : X.mg "min" = none) (hs : isStar e = false) (L : LamD X.env.scope scope ar.arg) (hd : (ar.arg == ("__debug__" : Str)) = false)
    (hjs : keyJ ar.arg es = some js) (hlen : js.length ≤ 100) (ha : PE X e (TEx Φ exName dr R (rlB R) Ed a)) :
    PE X (.Call (.Name "min" p) [e] [⟨some "key", .Lambda ⟨[], [ar], none, [], [], none, []⟩ (.Tuple es kk tpos) scope lpos, kpos⟩] pos) (TEx Φ exName dr R (rlD R) Ed (.minK js a)) := by
  obtain ⟨c, P, TB, hcode, hmT, huT⟩ := s.lm hlm
  have hr : Room ((z.L - 1) + 1) X.A := by rw [Nat.sub_add_cancel hL]; exact s.A.hr
  refine PEw (pe_minK hg hm ha (each_plain hs) TB hcode hmT huT hr L hd hjs hlen) fun σ H Q ⟨n, F, ρ, Qd, E, hn, hw, k⟩ => ?_
  simp only [wp] at hw
  simp only [drw] at hn k
  refine ⟨n, F, ρ, _, E, hn, hw, fun d v F1 H1 q1 x1 r1 => ⟨x1.env.st.2, fun H2 hl hT2 => ?_⟩⟩
  have x2 := x1.env.lst hl hT2 hmT
  obtain ⟨ps, rfl, h0, hk, hq⟩ := minKD_inv q1
  · 
    have r2 := RB.mono x1.env x2.ext x2.sub r1
    obtain ⟨a0, vs, rfl, g1, g2, g3⟩ := RB.list x2.env r2
    have hle := g3.length
    refine ⟨a0, vs, keyAt js ps, rfl, SqL.of g1, by rw [hle]; exact h0, fun i v hv => ?_, fun v hv => ?_⟩
    · obtain ⟨p, hp, rp⟩ := RpAll.get' g3 hv
      have hm := hk p (List.mem_of_getElem? hp)
      cases hkp : keyP js p with
      | none => rw [hkp] at hm; cases hm
      | some ks =>
        have hka : keyAt js ps i = ks := by
          unfold keyAt
          rw [List.getD_eq_getElem?_getD, hp]
          show (keyP js p).getD [] = ks
          rw [hkp]
          rfl
        rw [hka]
        cases p with
        | tuple xs =>
          cases rp with
          | tup h1 _ h2 => exact ⟨_, _, rfl, by rw [s.hK]; exact h1, keyI_at h2 hkp⟩
        | _ => cases hkp
    · rw [hle] at hv
      obtain ⟨p, hp, rp⟩ := RpAll.get' g3 hv
      exact k _ _ F1 H2 (hq p hp) (x1.trans x2) rp
end
/-! ### list.remove -/
theorem vals_erase : ∀ {xs : List V} {us : List Value} (j : Nat), Vals xs us → Vals (xs.eraseIdx j) (us.eraseIdx j)
  | _, _, _, .nil => .nil
  | _, _, 0, .cons _ t => t
  | _, _, j + 1, .cons r t => .cons r (vals_erase j t)
theorem RpAll.erase {sg : Bool} {K : PySem.W.Frag} {F : Addr → Prop} {H : Hp} : ∀ {vs : List V} {ps : List PyData} (j : Nat), RpAll sg K F H vs ps → RpAll sg K F H (vs.eraseIdx j) (ps.eraseIdx j)
  | _, _, _, .nil => .nil
  | _, _, 0, .cons _ t => t
  | _, _, j + 1, .cons a t => .cons a (t.erase j)
def rRem (K : PySem.W.Frag) : V → List V → Hp → VK → Prop := fun x vs H Q => ∃ l xs y ds d j, x = .ref l ∧ vs = [y] ∧ H l = some (.lst xs) ∧ DpAll K H xs ds ∧ Dp K H y d ∧ PyData.plainAll ds = true ∧ d.plain = true ∧ SeqAt.shaped d = true ∧ SeqAt.dataPlace ds d = some j ∧ Q .non (upd H l (.lst (xs.eraseIdx j)))
theorem mt_remove {X : Cx} (hu : X.A.units + 100 < cLine) : MtM X "list.remove" (rRem X.K) := by
  intro pins s σ H x vs v us Q I rx rv h
  obtain ⟨l, xs, y, ds, d, j, rfl, rfl, hH, hds, hd, hp, hdp, hsd, hj, q⟩ := h
  cases rx
  obtain ⟨u, rfl, ru⟩ := rv.one
  obtain ⟨z, its, n, r, hl, e⟩ := I.lstM hH
  obtain ⟨as, rs⟩ := Dp.readsAll I ds xs its hds r
  obtain ⟨bs, rd⟩ := Dp.reads I d y u hd ru
  have h64 := SeqAt.depth_of_shaped hsd
  have hmin : min (PyData.depthAll ds) d.depth ≤ 64 := Nat.le_trans (Nat.min_le_right _ _) h64
  have hil : its.length = xs.length := r.length.symm
  have hjl : j < its.length := by
    have h1 := (List.findIdx?_eq_some_iff_getElem.mp hj).1
    have h2 : its.length = ds.length := SeqAt.ReadsAll.length ds its as rs
    omega
  refine SeqAt.remove_list_data (vs := its.toArray) (d := d) (xs := ds) (as := as) (bs := bs) ⟨_, e, rfl, n, rfl⟩ rs rd hp hdp (by omega) hj (by rw [List.size_toArray]; omega) ?_
  refine ⟨.non, _, I.lset (its' := its.eraseIdx j) hH e (by simp) (vals_erase j r) ?_, rfl, q⟩
  have := List.length_eraseIdx_le xs j
  omega
section
variable {Φ : Nat → List D → (D → Prop) → (Nat → Prop) → Prop} {dr : Nat → Nat}
end
end Y

/-! part Y32 -/
set_option Elab.async false
set_option linter.all false
set_option maxRecDepth 100000
set_option maxHeartbeats 2000000
/-! Y32: a told call, of a lambda with a default. -/
namespace Y
open PySem PySem.Spec
open PyProof.Rows hiding St
open L2 LamX
section
variable {S : RS} {T : Tb} {Φ : Nat → List D → (D → Prop) → (Nat → Prop) → Prop} {dr : Nat → Nat}
variable {R : RT} {z : Pz} {X : Cx} {Ed : Nat → Prop} {e l r : Expr} {es : List Expr} {a b c : C} {pos p lpos : Pos}
/-- the default's name stands at i alone -/
def kDi (N : List Str) (d : Str) (i : Nat) : Bool := (List.range N.length).all fun j => decide (j = i) || !decide (N[j]? = some d)
theorem kDi_ok {N : List Str} {d : Str} {i : Nat} (h : kDi N d i = true) : ∀ j : Nat, N[j]? = some d → j = i := fun j e => by
  unfold kDi at h
  rw [List.all_eq_true] at h
  have hj : j < N.length := by
    rcases Nat.lt_or_ge j N.length with q | q
    · exact q
    · rw [List.getElem?_eq_none q] at e; cases e
  have q := h j (List.mem_range.mpr hj)
  simp only [Bool.or_eq_true, Bool.not_eq_true', decide_eq_true_eq, decide_eq_false_iff_not] at q
  exact q.resolve_right fun z => z e
theorem lam_fnD {scope sc : Scope} {dn : Str} (L : LamD sc scope dn) {Q : Prop} (x : Str) (h : (scope.names.lookup x == some .cell) = true) : Q :=
  absurd rfl (L.own _ (PySem.mem_of_lookup (eq_of_beq h))).2
theorem lam_sitD {scope : Scope} (s : Sit S T Φ dr R z X Ed) {dn : Str} (L : LamD X.env.scope scope dn) {sa : SA} {m : Nat} {F : Addr → Prop} {Ed' : Nat → Prop} {A : Around} {outer : List Env} {s0 : Shared} {H H2 : Hp} {E : XK} {f c' : Addr} (hr : Room (z.L - 2) (A.deeper (lamEnv X scope s0.heap.objs.size f c')))
    (hm : m ≤ BIG ∧ sa.T = S.T0) (hE : ∀ k H', Ed' k → Ext sa H2 H' → StOk sa m H' → E (.ref (S.ex k)) none H') : Sit S T Φ dr ⟨S, sa, m, H2, F⟩ (lamZ z scope) (lamN X A outer s0 H E scope f c') Ed' where
  A := { hP := s.A.hP, hw := s.A.hw, hK := s.A.hK, hm := s.A.hm, hb := s.A.hb, hN := s.A.hN, nd := s.A.nd, hs := rfl, calm := rfl, hr := hr, hg := (fun z => (by cases z)), hf := (fun x h => lam_fnD L x h) }
  hS := rfl
  w := ⟨⟨_, L2N.takes_of rfl rfl rfl rfl, fun j σ H' q x st => hE j H' q x st⟩, hm.1, hm.2⟩
  bs := s.bs
  fh := fun k hk => s.fh k (Nat.le_trans hk (Nat.sub_le _ _))
  lw := fun z => (by cases z)
  lm := fun z => (by cases z)
theorem nd_toldd {body : Expr} {scope : Scope} (s : Sit S T Φ dr R z X Ed) (L : LawF S R X) (hL : 2 ≤ z.L) (hg : Gl X "_law_told") {ar : Arg} {cn : Int} {kd i0 : Nat} {cp : Pos} (hlam : LamD X.env.scope scope ar.arg) (hi0 : ∀ j : Nat, X.N[j]? = some ar.arg → j = i0)
    (ha : ∀ {R' X' Ed'}, Sit S T Φ dr R' (lamZ z scope) X' Ed' → PE X' body (TEx Φ exName dr R' (rlD R') Ed' a)) :
    PE X (.Call (.Name "_law_told" p) [.Lambda ⟨[], [ar], none, [], [], none, [.Constant (.int cn) kd cp]⟩ body scope lpos] [] pos) (TEx Φ exName dr R (rlN R) Ed (.toldd i0 a)) := by
  obtain ⟨g, pg, bg, sg, fd, hm, FD, hB, htold⟩ := L.told
  obtain ⟨oc, od, dV, kV, doc, pm, an, cdv, ct, osl, rfl, lk, hcd, _⟩ := FD.ex
  obtain ⟨c, P, TB, hcode, hmT, huT⟩ := L.tab
  have hsc : toldSc sg = true := by
    unfold toldB at htold
    split at htold
    · simp only [Bool.and_eq_true] at htold
      exact htold.2
    · cases htold
  have hsc2 : C8.scC toldNs ["call"] sg = true ∧ sg.names.lookup ("call" : Str) = some .local := by
    unfold toldSc at hsc
    simp only [Bool.and_eq_true] at hsc
    exact ⟨hsc.1.1.1.1.1.1.1.1.1.1, kE_ok hsc.1.1.1.1.1.1.1.1.1.2⟩
  have Sg := C8.fnScope_by hsc2.1
  have hr : Room ((z.L - 2) + 2) X.A := by rw [Nat.sub_add_cancel hL]; exact s.A.hr
  have main := pe_lamcallD (i0 := i0) (ar := ar) (n := cn) (kd := kd) (cp := cp) (pos := pos) (p := p) (lpos := lpos) (T := R.sa.T) (TT := TTd S) (t := tLx Φ dr S a) (k := z.L - 2) (body := body) (scope := scope) (Ng := toldNs) (a := "call") hg (by rw [s.A.hm]; exact hm) (by rw [s.A.hK]; exact FD.kp) (by rw [s.A.hK]; exact lk) (by rw [s.A.hK]; exact hcd) (by rw [s.A.hK]; exact hB) Sg rfl (.inl hsc2.2)
    (told_ok s.A.hK s.A.hm L.cls htold) TB hcode hmT huT hr hlam hi0 (fun A outer s0 H E f c' hr' => ⟨fun pins s1 σ H2 Q I h => ?_⟩) (by decide +kernel) (by decide +kernel) (by decide +kernel)
  · refine PEw main fun σ H Q ⟨n, F, ρ, Qd, E, hn, hw, k⟩ => ?_
    simp only [wp] at hw
    simp only [drw] at hn k
    refine ⟨E.st.2, fun H1 hl hT1 => ?_⟩
    have x1 := E.lst hl hT1 hmT
    have E1 := x1.env
    have hS := s.hS
    refine ⟨R.sa, n + drw dr a, F, _, ⟨Nat.le_trans hn s.w.big, by rw [← hS]; exact s.w.tt⟩, fun j H' hj hx hst => ?_, n, wipeE (shE ρ) [i0], _, by have := wipe_both (E1.lam (n + drw dr a)) [i0]; rw [hS] at this; exact this, Nat.le_refl _, hw, fun d v F' H' q x r => ?_⟩
    · obtain ⟨hj3, hq⟩ := hj
      refine ⟨j, hj3, rfl, rfl, fun Tt H'' kp hn' hTt => ?_⟩
      have fr : ∀ b, F b → H' b ≠ none := fun b hb z => by
        cases q : H1 b with
        | none => exact E1.fr b hb q
        | some o =>
          rw [hx b o q (E1.fs b hb)] at z
          cases z
      have y : Nxt R (n + drw dr a) σ ρ F H1 F H' := E1.after ⟨hx, hst, fun _ h => h, fr, fun _ h => .inl h, E1.fs⟩
      have y2 := y.env.kp kp
      exact k _ _ F H'' hq ((x1.trans y).trans y2) (.inl ⟨.tup (SqT.of hTt) (fun _ z => by cases z) (.cons (.str _) .nil), fun _ z => nomatch z⟩)
    · split at q
      · rename_i pp
        refine ⟨by show 2 ≤ sizeLine; decide, fun Tt hTt => ?_⟩
        have y : Nxt R (n + drw dr a) σ ρ F H1 F' H' := E1.after ⟨x.ext, x.env.st, x.sub, x.env.fr, x.nw, x.env.fs⟩
        have r' : Rp R.sg R.K F' H' v pp := by
          have r : Rp S.sg S.K F' H' v pp := r
          show Rp R.S.sg R.S.K F' H' v pp
          rw [hS]; exact r
        have y2 := Nxt.upd y.env hTt (o := .tup [V.str "told", v])
        refine k _ _ F' _ q ((x1.trans y).trans y2) ?_
        have := y.env.newT (.inr rfl) hTt (RpAll.cons (.str "told") (.cons r' .nil))
        exact RN.back E (x1.trans y).ext y2.env.st y2.ext y.env.st this
      · exact q.elim
  · obtain ⟨sa, m, F, Ed', hm', hE, n, ρ, Qd, E0, hn, hw, kk⟩ := h
    exact (ha (lam_sitD (F := F) s hlam hr' hm' hE)).run pins s1 σ H2 Q I ⟨n, F, ρ, Qd, E0, hn, hw, kk⟩
end
end Y

/-! part Y33 -/
set_option Elab.async false
set_option linter.all false
set_option maxRecDepth 100000
set_option maxHeartbeats 4000000
/-! Y33: zip of three tuples; a tuple turned round. -/
namespace Y
open PySem PySem.Spec
open PyProof.Rows hiding St
open L2
/-- the tuples at a, b, c, of n1, n2, n3 items, the items in new triples -/
def It3T (K : PySem.W.Frag) (a b c : Addr) (n1 n2 n3 : Nat) : It :=
  ⟨fun i H => ∃ (xs ys zs : List V) (x y z : V), SqT K H a xs ∧ SqT K H b ys ∧ SqT K H c zs ∧ xs.length = n1 ∧ ys.length = n2 ∧ zs.length = n3 ∧ xs[i]? = some x ∧ ys[i]? = some y ∧ zs[i]? = some z,
    fun i H v H' => ∃ T x y z, v = .ref T ∧ H T = none ∧ H' = upd H T (.tup [x, y, z]) ∧ (∀ xs, SqT K H a xs → xs[i]? = some x) ∧ (∀ ys, SqT K H b ys → ys[i]? = some y) ∧ ∀ zs, SqT K H c zs → zs[i]? = some z,
    fun i H => ∃ xs ys zs : List V, SqT K H a xs ∧ SqT K H b ys ∧ SqT K H c zs ∧ xs.length = n1 ∧ ys.length = n2 ∧ zs.length = n3 ∧ (n1 ≤ i ∨ n2 ≤ i ∨ n3 ≤ i)⟩
theorem turn_zip3 {P : Program} {w : World} {K : PySem.W.Frag} {elts : List Expr} {kk : Nat} {tpos : Pos} {a b c z TI TO i1 i2 i3 : Addr} {n1 n2 n3 : Nat} (D : ZipSep3 z TI TO i1 i2 i3 [i1, a] [i2, b] [i3, c]) (ha : a ≠ i1) (hb : b ≠ i2) (hc : c ≠ i3) :
    Turn P w K (.Tuple elts kk tpos) (It3T K a b c n1 n2 n3) [z, TI, TO, i1, i2, i3] z (fun i h => (i ≤ n1 ∧ i ≤ n2 ∧ i ≤ n3) ∧ IsZip h z TI TO .none ∧ IsTupOf3 h TI (.ref i1) (.ref i2) (.ref i3) ∧ (∃ x y u, IsTupOf3 h TO x y u) ∧ h.IsTupleIter i1 a i ∧ h.IsTupleIter i2 b i ∧ h.IsTupleIter i3 c i) where
  mem := by simp
  obj := fun i h st d hd => by
    obtain ⟨_, hz, hTI, ⟨x, y, u, hTO⟩, ⟨o1, e1, _, d1⟩, ⟨o2, e2, _, d2⟩, ⟨o3, e3, _, d3⟩⟩ := st
    have e' : d = z ∨ d = TI ∨ d = TO ∨ d = i1 ∨ d = i2 ∨ d = i3 := by simpa using hd
    rcases e' with q | q | q | q | q | q
    · rw [q]; exact ⟨_, hz, fun v q => nomatch q⟩
    · rw [q]; exact ⟨_, hTI, fun v q => nomatch q⟩
    · rw [q]; exact ⟨_, hTO, fun v q => nomatch q⟩
    · rw [q]; exact ⟨o1, e1, fun v q => by rw [d1] at q; cases q⟩
    · rw [q]; exact ⟨o2, e2, fun v q => by rw [d2] at q; cases q⟩
    · rw [q]; exact ⟨o3, e3, fun v q => by rw [d3] at q; cases q⟩
  keep := fun i h h' st k => by
    obtain ⟨hn, hz, hTI, ⟨x, y, u, hTO⟩, h1, h2, h3⟩ := st
    exact ⟨hn, k z (by simp) _ hz, k TI (by simp) _ hTI, ⟨x, y, u, k TO (by simp) _ hTO⟩, h1.at fun o q => k i1 (by simp) o q, h2.at fun o q => k i2 (by simp) o q, h3.at fun o q => k i3 (by simp) o q⟩
  item := by
    intro X hP hw hK hcm i pins s σ H E I hf st hg
    subst hP hw hK
    obtain ⟨hn, hz, hTI, ⟨x0, y0, u0, hTO⟩, h1, h2, h3⟩ := st
    obtain ⟨xs, ys, zs, x, y, u, hqx, hqy, hqz, e1, e2, e3, hx, hy, hu⟩ := hg
    obtain ⟨its, rv, p, _⟩ := I.tuple hqx
    obtain ⟨its2, rv2, p2, _⟩ := I.tuple hqy
    obtain ⟨its3, rv3, p3, _⟩ := I.tuple hqz
    obtain ⟨v1, hv1, r1⟩ := rv.get hx
    obtain ⟨v2, hv2, r2⟩ := rv2.get hy
    obtain ⟨v3, hv3, r3⟩ := rv3.get hu
    have hzl : z < s.heap.objs.size := Heap.lt_size hz
    have hh : X.A.in1.handled = none := I.ok.hd hcm
    have lx := (List.getElem?_eq_some_iff.mp hx).1
    have ly := (List.getElem?_eq_some_iff.mp hy).1
    have lu := (List.getElem?_eq_some_iff.mp hu).1
    refine wpAny_pyNext_zipD3_item D (Draws.tuple hh i1 a ha its.toArray) (Draws.tuple hh i2 b hb its2.toArray) (Draws.tuple hh i3 c hc its3.toArray) hz hTI hTO ⟨h1, p⟩ ⟨h2, p2⟩ ⟨h3, p3⟩
      (by rw [List.size_toArray, ← rv.length]; exact lx) (by rw [List.size_toArray, ← rv2.length]; exact ly) (by rw [List.size_toArray, ← rv3.length]; exact lu) fun w1 w2 w3 h' tk y1 y2 y3 z' TO' s1 s2 s3 hT hsz hk => ?_
    have f1 : v1 = w1 := by
      have y1 : its[i]? = some w1 := by simpa using y1
      rw [hv1] at y1; exact Option.some.inj y1
    have f2 : v2 = w2 := by
      have y2 : its2[i]? = some w2 := by simpa using y2
      rw [hv2] at y2; exact Option.some.inj y2
    have f3 : v3 = w3 := by
      have y3 : its3[i]? = some w3 := by simpa using y3
      rw [hv3] at y3; exact Option.some.inj y3
    subst f1 f2 f3
    refine ⟨_, rfl, wpAny_letOwnedTupleGo_zip (s := { s with heap := h', toks := tk }) z' fun h'' z'' sb => ?_⟩
    have hT2 : h''.get? s.heap.objs.size = some { cls := .type "tuple", data := .seq #[v1, v2, v3] } := (sb.2 _ (Nat.ne_of_gt hzl)).trans hT
    have new : ObjOk X.prog X.w (upd H s.heap.objs.size (.tup [x, y, u])) h'' s.heap.objs.size (.tup [x, y, u]) :=
      ⟨by show 3 ≤ sizeLine; decide, [v1, v2, v3], .cons r1 (.cons r2 (.cons r3 .nil)), ⟨_, hT2, rfl, _, rfl⟩⟩
    have I1 : Inv X pins σ (upd H s.heap.objs.size (.tup [x, y, u])) { s with heap := h'', toks := tk } :=
      I.turnedNew (t' := tk) (ch := [z, TI, TO, i1, i2, i3]) (fun d o hb q => (sb.2 d (fun q' => hb (by simp [q']))).trans (hk d o (fun q' => hb (by simp [q'])) (fun q' => hb (by simp [q'])) (fun q' => hb (by simp [q'])) (fun q' => hb (by simp [q'])) (fun q' => hb (by simp [q'])) q)) hf (Nat.le_refl _) new
    refine ⟨.ref s.heap.objs.size, _, I1, rfl, ⟨_, x, y, u, rfl, I.hok.fresh (Nat.le_refl _), rfl, fun l hl => by rw [I.tuple_inj hl hqx]; exact hx, fun l hl => by rw [I.tuple_inj hl hqy]; exact hy, fun l hl => by rw [I.tuple_inj hl hqz]; exact hu⟩, ⟨by omega, z'', ?_, ⟨v1, v2, v3, ?_⟩, ?_, ?_, ?_⟩, fun d hdm => ?_⟩
    · exact (sb.2 _ D.TIz).trans (hk _ _ D.TIz D.TITO D.TIi1 D.TIi2 D.TIi3 hTI)
    · exact (sb.2 _ D.TOz).trans TO'
    · exact s1.1.at fun o q => (sb.2 _ (Ne.symm D.zi1)).trans q
    · exact s2.1.at fun o q => (sb.2 _ (Ne.symm D.zi2)).trans q
    · exact s3.1.at fun o q => (sb.2 _ (Ne.symm D.zi3)).trans q
    · have hlt : d < s.heap.objs.size := by
        have e' : d = z ∨ d = TI ∨ d = TO ∨ d = i1 ∨ d = i2 ∨ d = i3 := by simpa using hdm
        rcases e' with q | q | q | q | q | q
        · rw [q]; exact hzl
        · rw [q]; exact Heap.lt_size hTI
        · rw [q]; exact Heap.lt_size hTO
        · rw [q]; obtain ⟨_, e1, _⟩ := h1; exact Heap.lt_size e1
        · rw [q]; obtain ⟨_, e2, _⟩ := h2; exact Heap.lt_size e2
        · rw [q]; obtain ⟨_, e3, _⟩ := h3; exact Heap.lt_size e3
      rw [upd_ne (Nat.ne_of_lt hlt)]
      exact (hf d hdm).1
  done := by
    intro X hP hw hK hcm i pins s σ H E I hf st hg
    subst hP hw hK
    obtain ⟨hn, hz, hTI, ⟨x0, y0, u0, hTO⟩, h1, h2, h3⟩ := st
    obtain ⟨xs, ys, zs, hqx, hqy, hqz, e1, e2, e3, hend⟩ := hg
    obtain ⟨its, rv, p, _⟩ := I.tuple hqx
    obtain ⟨its2, rv2, p2, _⟩ := I.tuple hqy
    obtain ⟨its3, rv3, p3, _⟩ := I.tuple hqz
    have hh : X.A.in1.handled = none := I.ok.hd hcm
    have l1 := rv.length
    have l2 := rv2.length
    have l3 := rv3.length
    have q1 : its.toArray.size = n1 := by rw [List.size_toArray]; omega
    have q2 : its2.toArray.size = n2 := by rw [List.size_toArray]; omega
    have q3 : its3.toArray.size = n3 := by rw [List.size_toArray]; omega
    exact wpAny_pyNext_zipD3_end D (Draws.tuple hh i1 a ha its.toArray) (Draws.tuple hh i2 b hb its2.toArray) (Draws.tuple hh i3 c hc its3.toArray) hz hTI hTO ⟨h1, p⟩ ⟨h2, p2⟩ ⟨h3, p3⟩
      (by omega) (by omega) (by omega) (by omega) fun h' tk hk => ⟨rfl, I.turnedL (t' := tk) (ch := [z, TI, TO, i1, i2, i3]) (fun d o hb q =>
      hk d o (fun q' => hb (by simp [q'])) (fun q' => hb (by simp [q'])) (fun q' => hb (by simp [q'])) (fun q' => hb (by simp [q'])) (fun q' => hb (by simp [q'])) q) hf⟩
  self := fun A i s Q E st h => wpAny_pyIter_zip st.2.1 h
def iZip3 (K : PySem.W.Frag) (ta : TA) : TI := fun σ H R => ta σ H fun vs H1 => ∃ a b c xs ys zs, vs = [.ref a, .ref b, .ref c] ∧ SqT K H1 a xs ∧ SqT K H1 b ys ∧ SqT K H1 c zs ∧ R (It3T K a b c xs.length ys.length zs.length) H1
theorem pi_zip3 {X : Cx} {e e2 e3 : Expr} {ta : TA} {p pos tpos : Pos} {elts : List Expr} {kk : Nat} (hg : Gl X "zip") (hm : X.mg "zip" = none) (ha : PA X [e, e2, e3] ta)
    (hs : starEach [e, e2, e3] X.env = (false, eval e X.env) :: starEach [e2, e3] X.env := by rfl) (hpl : (backTo pos (starEach [e2, e3] X.env)).any (·.1) = false := by rfl) :
    PI X (.Tuple elts kk tpos) (.Call (.Name "zip" p) [e, e2, e3] [] pos) (iZip3 X.K ta) := by
  refine ⟨fun pins s σ H R I h => ?_⟩
  refine Call_ (ld_blt I hg hm PyProof.Rows.boot_zip (PyProof.Rows.callWith_type1 (thn (ha.run pos pins s σ H _ I h) fun us s1 ⟨vs, H1, I1, r1, q1⟩ => ?_) hs hpl))
  obtain ⟨a, b, c, xs, ys, zs, ex, hqx, hqy, hqz, q⟩ := q1
  subst ex
  cases r1 with
  | cons r rr =>
    cases rr with
    | cons r' rr =>
      cases rr with
      | cons r'' rr =>
        cases rr
        cases r
        cases r'
        cases r''
        obtain ⟨its, rv, p1, _⟩ := I1.tuple hqx
        obtain ⟨its2, rv2, p2, _⟩ := I1.tuple hqy
        obtain ⟨its3, rv3, p3, _⟩ := I1.tuple hqz
        obtain ⟨o1, ho1, _⟩ := id p1
        obtain ⟨o2, ho2, _⟩ := id p2
        obtain ⟨o3, ho3, _⟩ := id p3
        have la := Heap.lt_size ho1
        have lb := Heap.lt_size ho2
        have lc := Heap.lt_size ho3
        have fresh6 : ∀ d, d ∈ [s1.heap.objs.size + 5, s1.heap.objs.size + 3, s1.heap.objs.size + 4, s1.heap.objs.size, s1.heap.objs.size + 1, s1.heap.objs.size + 2] → FpOk X pins H1 d := fun d hdm => by
          have e' : d = s1.heap.objs.size + 5 ∨ d = s1.heap.objs.size + 3 ∨ d = s1.heap.objs.size + 4 ∨ d = s1.heap.objs.size ∨ d = s1.heap.objs.size + 1 ∨ d = s1.heap.objs.size + 2 := by simpa using hdm
          have hle : s1.heap.objs.size ≤ d := by
            rcases e' with z | z | z | z | z | z
            · rw [z]; exact Nat.le_add_right _ _
            · rw [z]; exact Nat.le_add_right _ _
            · rw [z]; exact Nat.le_add_right _ _
            · rw [z]; exact Nat.le_refl _
            · rw [z]; exact Nat.le_add_right _ _
            · rw [z]; exact Nat.le_add_right _ _
          exact I1.fpOk hle (I1.hok.fresh hle)
        have sing : ∀ {a : Addr}, a < s1.heap.objs.size → ∀ b ∈ [a], b < s1.heap.objs.size := fun h b hb => by rw [List.mem_singleton.mp hb]; exact h
        refine zip_begins3 (begins_tuple a its.toArray) (begins_tuple b its2.toArray) (begins_tuple c its3.toArray) (show s1.heap.IsTuple a its.toArray from p1) (show s1.heap.IsTuple b its2.toArray from p2) (show s1.heap.IsTuple c its3.toArray from p3) fun h' hz hTI hTO h1 h2 h3 hsz hk => wpAny_pyIter_zip hz ?_
        have I2 : Inv X pins σ H1 { s1 with heap := h' } := I1.kept (t' := s1.toks) hk
        exact ⟨s1.heap.objs.size + 5, [s1.heap.objs.size + 5, s1.heap.objs.size + 3, s1.heap.objs.size + 4, s1.heap.objs.size, s1.heap.objs.size + 1, s1.heap.objs.size + 2], _, _, H1, rfl, I2,
          turn_zip3 (zip_sep3 (N := s1.heap.objs.size) (fp1 := [a]) (fp2 := [b]) (fp3 := [c]) (sing la) (sing lb) (sing lc)) (Nat.ne_of_lt la) (Nat.ne_of_lt (Nat.lt_succ_of_lt lb)) (Nat.ne_of_lt (Nat.lt_succ_of_lt (Nat.lt_succ_of_lt lc))),
          ⟨⟨Nat.zero_le _, Nat.zero_le _, Nat.zero_le _⟩, hz, hTI, ⟨_, _, _, hTO⟩, ⟨_, h1, rfl, rfl⟩, ⟨_, h2, rfl, rfl⟩, ⟨_, h3, rfl, rfl⟩⟩, fresh6, q⟩
section
variable {R : RT} {F F' : Addr → Prop} {H H' : Hp}
theorem yl_zip3 (hsg : R.sg = false) {b : Bool} {a c d : Addr} {vs ws us : List V} {ps qs rs : List PyData} (h1 : SqT R.K H a vs) (h2 : RpAll R.sg R.K F H vs ps) (g1 : SqT R.K H c ws) (g2 : RpAll R.sg R.K F H ws qs) (k1 : SqT R.K H d us) (k2 : RpAll R.sg R.K F H us rs) :
    Yl R b (It3T R.K a c d vs.length ws.length us.length) (zip3P ps qs rs) F H := by
  intro i F' H' st sub
  have e := st.1.sqt h1
  have e' := st.1.sqt g1
  have e'' := st.1.sqt k1
  unfold zip3P
  refine ⟨fun d hd => ?_, fun hl => ⟨vs, ws, us, e, e', e'', rfl, rfl, rfl, by
    rw [h2.length, g2.length, k2.length]
    rw [List.length_map, List.length_zip, List.length_zip] at hl
    omega⟩⟩
  rw [List.getElem?_map] at hd
  cases q : (ps.zip (qs.zip rs))[i]? with
  | none => rw [q] at hd; cases hd
  | some pq =>
    rw [q] at hd
    obtain ⟨p, q', r'⟩ := pq
    rw [List.getElem?_zip_eq_some, List.getElem?_zip_eq_some] at q
    obtain ⟨v, hv, r⟩ := h2.get q.1
    obtain ⟨w, hw, r2⟩ := g2.get q.2.1
    obtain ⟨u, hu, r3⟩ := k2.get q.2.2
    refine ⟨⟨vs, ws, us, v, w, u, e, e', e'', rfl, rfl, rfl, hv, hw, hu⟩, fun x H'' ⟨T, x1, y1, z1, ex, hT, eq, f1, f2, f3⟩ => ⟨.inr ⟨T, _, hT, eq⟩, ?_⟩⟩
    have q1 := f1 vs e
    have q2 := f2 ws e'
    have q3 := f3 us e''
    rw [hv] at q1
    rw [hw] at q2
    rw [hu] at q3
    cases q1; cases q2; cases q3
    subst ex eq
    cases Option.some.inj hd
    have kk : Keep F H (upd H' T (.tup [v, w, u])) := fun b o q h => by
      have := st.1 b o q h
      rw [upd_ne (ne_of_none this hT)]
      exact this
    exact .tup SqT.new (fun z _ => by rw [hsg] at z; cases z) (.cons (r.mono kk sub) (.cons (r2.mono kk sub) (.cons (r3.mono kk sub) .nil)))
end
section
variable {Φ : Nat → List D → (D → Prop) → (Nat → Prop) → Prop} {exN : Nat → Str} {dr : Nat → Nat}
variable {X : Cx} {R : RT} {z : Pz} {Ed : Nat → Prop} {tg e l r : Expr} {es : List Expr} {a b c : C} {pos p : Pos}
theorem nd_izip3 (hsg : R.sg = false) (hK : X.K = R.K) (hg : Gl X "zip") (hm : X.mg "zip" = none) {e2 e3 : Expr} {elts : List Expr} {kk : Nat} {tpos : Pos} (hs : isStar e = false) (hs2 : isStar e2 = false) (hs3 : isStar e3 = false) {bb : Bool}
    (ha : PE X e (TEx Φ exN dr R (rlB R) Ed a)) (hb : PE X e2 (TEx Φ exN dr R (rlB R) Ed b)) (hc : PE X e3 (TEx Φ exN dr R (rlB R) Ed c)) : PI X (.Tuple elts kk tpos) (.Call (.Name "zip" p) [e, e2, e3] [] pos) (TIx Φ exN dr R bb Ed (.zip3 a b c)) :=
  PIw (pi_zip3 hg hm (pa_cons ha (pa_cons hb (pa_cons hc pa_nil (each_plain hs3)) (by rw [each_plain hs2, each_plain hs3])) (by rw [each_plain hs, each_plain hs2, each_plain hs3])) (by rw [each_plain hs, each_plain hs2, each_plain hs3]) (none_star (es := [e2, e3]) (by rw [List.all_cons, List.all_cons, hs2, hs3]; rfl))) fun σ H K ⟨n, F, ρ, Qd, E, hn, hw, hi, k⟩ => by
    simp only [wp] at hw
    simp only [drw] at hn k
    refine ⟨n, F, ρ, _, E, by omega, hw, fun d v F1 H1 q1 x1 r1 => ?_⟩
    refine ⟨_, F1, ρ, _, x1.env, by omega, q1, fun d2 w F2 H2 q2 x2 r2 => ?_⟩
    refine ⟨_, F2, ρ, _, x2.env, by omega, q2, fun d3 u F3 H3 q3 x3 r3 => ?_⟩
    have x23 := x2.trans x3
    have x12 : Nxt R (n + (drw dr a + drw dr b + drw dr c)) σ ρ F H F3 H3 := (x1.trans x23).mono (by omega)
    have r1' : rlB R H F3 H3 v d := rlB_ok x1.env x23.ext x23.sub r1
    have r2' : rlB R H1 F3 H3 w d2 := rlB_ok x2.env x3.ext x3.sub r2
    rw [hK]
    split at q3
    · rename_i xs ys zs
      obtain ⟨a1, vs1, rfl, h1, h2⟩ := RB.tuple r1'
      obtain ⟨a2, vs2, rfl, g1, g2⟩ := RB.tuple r2'
      obtain ⟨a3, vs3, rfl, k1, k2⟩ := RB.tuple r3
      refine ⟨a1, a2, a3, vs1, vs2, vs3, rfl, h1, g1, k1, k _ _ _ _ _ q3 rfl x12 (yl_zip3 hsg h1 h2 g1 g2 k1 k2) fun z => ?_⟩
      cases z
    · exact q3.elim
end
end Y

/-! part Y34 -/
set_option Elab.async false
set_option linter.all false
set_option maxRecDepth 100000
set_option maxHeartbeats 1000000
/-! Y34: a tuple turned round, t[::-1]. -/
namespace L2R
open PySem PySem.Spec PyProof.Rows
section
variable {prog : Program} {w : World} {A : Around} {E : Value → Shared → Prop} {s : Shared}
theorem applied_rev {sl : Addr} {t : Tok} {n : Nat} {Q : Int × Int × Nat → Shared → Prop} (hs : s.heap.IsSliceOf sl .none .none (.int (-1) t))
    (h : Q ((n : Int) - 1, -1, n) s) : wpAny (model prog w) A (Builtin.Slice.sliceApplied (.ref sl) (pure (n : Int))) Q E s := by
  obtain ⟨os, hos, hcs, hds⟩ := id hs
  unfold Builtin.Slice.sliceApplied Builtin.Slice.sliceFields
  refine wpAny_bind (wpAny_bind (wpAny_field hos hds (x := .none) rfl (wpAny_bind (wpAny_field hos hds (x := .none) rfl (wpAny_bind (wpAny_field hos hds (x := .int (-1) t) rfl (wpAny_pure ?_)))))))
  refine wpAny_bind (HT.slicePart_ (.int (-1) t) ?_)
  show wpAny _ _ (if ((-1 : Int) == 0) = true then _ else _) _ _ s
  rw [if_neg (by decide)]
  refine wpAny_bind (HT.slicePart_ .none (wpAny_bind (HT.slicePart_ .none (wpAny_bind (wpAny_pure ?_)))))
  have e : Builtin.Slice.slicePlaces ((n : Int) - 1) (-1) (-1) = n := by
    unfold Builtin.Slice.slicePlaces
    rw [if_neg (by decide), show (-(-1) : Int) = 1 by decide, Int.ediv_one]
    split <;> omega
  show wpAny _ _ (pure ((n : Int) - 1, (-1 : Int), Builtin.Slice.slicePlaces ((n : Int) - 1) (-1) (-1))) _ _ s
  rw [e]
  exact wpAny_pure h
theorem fm_congr {α β : Type} {f g : α → Option β} : ∀ {l : List α}, (∀ m ∈ l, f m = g m) → l.filterMap f = l.filterMap g
  | [], _ => rfl
  | a :: l, h => by
    rw [List.filterMap_cons, List.filterMap_cons, h a List.mem_cons_self, fm_congr fun m hm => h m (List.mem_cons_of_mem _ hm)]
theorem pick_rev (xs : Array Value) : ((List.range xs.size).filterMap fun (m : Nat) => xs[((xs.size : Int) - 1 + (m : Int) * (-1)).toNat]?).toArray = xs.toList.reverse.toArray := by
  congr 1
  have e : (List.range xs.size).filterMap (fun (m : Nat) => xs[((xs.size : Int) - 1 + (m : Int) * (-1)).toNat]?) = ((List.range xs.size).map fun k => xs.size - 1 - k).filterMap (xs[·]?) := by
    rw [List.filterMap_map]
    refine fm_congr fun m hm => ?_
    have := List.mem_range.mp hm
    show xs[_]? = xs[_]?
    rw [show ((xs.size : Int) - 1 + (m : Int) * (-1)).toNat = xs.size - 1 - m by omega]
  rw [e, PySem.W.krv_range, List.filterMap_reverse, PySem.W.krv_all]
theorem getItem_rev {t sl : Addr} {items : Array Value} {u : Tok} {Q : Value → Shared → Prop} (ht : IsTup s.heap t items) (hs : s.heap.IsSliceOf sl .none .none (.int (-1) u))
    (h : Q (.ref s.heap.objs.size) { s with heap := s.heap.push { cls := .type "tuple", data := .seq items.toList.reverse.toArray } })
    (hsz : items.size ≤ sizeLine) : wpAny (model prog w) A (getItem (.ref t) (.ref sl)) Q E s := by
  have htake : sizeOk (.seq items.toList.reverse.toArray) := by
    show items.toList.reverse.toArray.size ≤ sizeLine
    rw [List.size_toArray, List.length_reverse, Array.length_toList]
    exact hsz
  obtain ⟨os, hos, hcs, hds⟩ := id hs
  have hTs : s.TypeIs (.ref sl) "slice" := ⟨os, hos, hcs⟩
  unfold getItem
  try with_reducible refine wpAny_holding ?_
  first | refine wpAny_bind (wpAny_pure ?_) | skip
  refine wpAny_bind (wpAny_sequenceKey ht.typeIs (by decide) ?_)
  refine wpAny_bind (wpAny_callSpecial?_slot (name := Str.ofString "__getitem__") ht.typeIs PyProof.Rows.slot_tuple_getitem
    (wpAny_call_entry PyProof.Rows.slot_tuple_getitem ht.typeIs entry_tuple_getitem ?_ (args_tuple_getitem _ _)))
  show wpAny _ _ (Builtin.Tuple.tupleItemsOf (.ref t) >>= _) _ _ s
  refine wpAny_bind (tupleItemsOf_ ht ?_)
  refine wpAny_bind (wpAny_typeOf hTs ?_)
  rw [if_pos (by decide)]
  refine wpAny_bind (applied_rev hs ?_)
  have hno : ¬ ((((items.size : Int) - 1 == 0) && (-1 : Int) == 1 && items.size == items.size) = true) := by
    rw [show ((-1 : Int) == 1) = false by decide, Bool.and_false, Bool.false_and]
    exact Bool.false_ne_true
  show wpAny _ _ (if (((items.size : Int) - 1 == 0) && (-1 : Int) == 1 && items.size == items.size) = true then _ else _) _ _ s
  rw [if_neg hno, pick_rev]
  first
    | exact wpAny_bind (m := Builtin.Tuple.tupleExact _) (wpAny_newObj_type (wpAny_pure ⟨_, rfl, wpAny_pure h⟩) htake)
    | exact wpAny_bind (m := Builtin.Tuple.tupleExact _) (wpAny_newObj_type (wpAny_bind (wpAny_pure (wpAny_pure ⟨_, rfl, wpAny_pure h⟩))) htake)
    | exact wpAny_bind (wpAny_bind (m := Builtin.Tuple.tupleExact _) (wpAny_newObj_type (wpAny_pure (wpAny_pure ⟨_, rfl, wpAny_pure h⟩)) htake))
    | exact wpAny_bind (wpAny_bind (m := Builtin.Tuple.tupleExact _) (wpAny_newObj_type (wpAny_pure ⟨_, rfl, wpAny_pure h⟩) htake))
end
end L2R
namespace Y
open PySem PySem.Spec
open PyProof.Rows hiding St
open L2
def tRevT (K : PySem.W.Frag) (te : TE) : TE := fun σ H Q => te σ H fun x H1 => ∃ a xs, x = .ref a ∧ SqT K H1 a xs ∧ ∀ p, H1 p = none → Q (.ref p) (upd H1 p (.tup xs.reverse))
theorem pe_revT {X : Cx} {e : Expr} {te : TE} {k : Nat} {p1 p2 p3 pos : Pos} (he : PE X e te) : PE X (.Subscript e (.Slice none none (some (.UnaryOp .USub (.Constant (.int 1) k p1) p2)) p3) pos) (tRevT X.K te) := by
  refine ⟨fun pins s σ H Q I h => ?_⟩
  refine Subscript_ (thn (he.run pins s σ H _ I h) fun v s1 ⟨x, H1, I1, r1, q1⟩ => ?_)
  obtain ⟨a, xs, ex, hx, q⟩ := q1
  subst ex
  cases r1
  have hst : PO X (some (.UnaryOp .USub (.Constant (.int 1) k p1) p2)) (tPart (tUn (rU fun i => .int (-i)) (tC (.int 1)))) := po_some (pe_un un_neg pe_int)
  refine wpAny_Slice (thn (po_none.run pins s1 σ H1 (fun o H2 => o = none ∧ H2 = H1) I1 ⟨rfl, rfl⟩) fun vl s2 ⟨l, H2, I2, pl, el, e2⟩ => ?_)
  subst el e2
  refine thn (po_none.run pins s2 σ H2 (fun o H3 => o = none ∧ H3 = H2) I2 ⟨rfl, rfl⟩) fun vu s3 ⟨u, H3, I3, pu, eu, e3⟩ => ?_
  subst eu e3
  refine thn (hst.run pins s3 σ H3 (fun o H4 => o = some (-1) ∧ H4 = H3) I3 ⟨1, rfl, -1, rfl, rfl, rfl⟩) fun vs s4 ⟨o, H4, I4, ps, eo, e4⟩ => ?_
  subst eo e4
  cases pl
  cases pu
  obtain ⟨tk, rfl⟩ : ∃ tk, vs = .int (-1) tk := by
    cases ps
    exact ⟨_, rfl⟩
  have I5 : Inv X pins σ H4 { s4 with heap := s4.heap.push { cls := .type "slice", data := .fields #[.none, .none, .int (-1) tk] } } := I4.kept (t' := s4.toks) fun b ob q => Heap.get?_push_of_some _ q
  obtain ⟨its, r, ht, hz⟩ := I5.tuple hx
  have hlen := r.length
  show wpAny (model X.prog X.w) X.A (subscriptTail e (.Slice none none (some (.UnaryOp .USub (.Constant (.int 1) k p1) p2)) p3) (.ref a) (.ref s4.heap.objs.size)) (EP X pins σ Q) X.xe { s4 with heap := s4.heap.push { cls := .type "slice", data := .fields #[.none, .none, .int (-1) tk] } }
  refine tail_any (ops := [.ref a, .ref s4.heap.objs.size]) ht.typeIs (PySem.F.slot_tuple_getitem.lookup) ?_ (by with_unfolding_all rfl)
  refine L2R.getItem_rev ht (Heap.IsSliceOf.new _ .none .none (.int (-1) tk)) ?_ (by rw [List.size_toArray]; omega)
  refine ⟨.ref _, _, I5.laid (t' := s4.toks) (o := .tup xs.reverse) (fun b ob q => Heap.get?_push_of_some _ q) (Nat.le_refl _) ?_, rfl, q _ (I5.hok.fresh (Nat.le_refl _))⟩
  exact ⟨by rw [List.length_reverse]; exact hz, _, r.reverse, IsTup.new _ _⟩
section
variable {Φ : Nat → List D → (D → Prop) → (Nat → Prop) → Prop} {exN : Nat → Str} {dr : Nat → Nat}
variable {X : Cx} {R : RT} {Ed : Nat → Prop} {e : Expr} {a : C} {pos : Pos}
theorem nd_rvs (hsg : R.sg = false) (hK : X.K = R.K) {k : Nat} {p1 p2 p3 : Pos} (ha : PE X e (TEx Φ exN dr R (rlB R) Ed a)) : PE X (.Subscript e (.Slice none none (some (.UnaryOp .USub (.Constant (.int 1) k p1) p2)) p3) pos) (TEx Φ exN dr R (rlN R) Ed (.rvs a)) :=
  PEw (pe_revT ha) fun σ H Q ⟨n, F, ρ, Qd, E, hn, hw, k⟩ => by
    simp only [wp] at hw
    simp only [drw] at hn k
    refine ⟨n, F, ρ, _, E, hn, hw, fun d v F1 H1 q1 x1 r1 => ?_⟩
    split at q1
    · rename_i ps
      obtain ⟨b, vs, rfl, h1, h2⟩ := RB.tuple r1
      refine ⟨b, vs, rfl, by rw [hK]; exact h1, fun p hp => k _ _ _ _ q1 (x1.trans ((Nxt.upd x1.env hp))) ?_⟩
      exact RN.back E x1.ext (Nxt.upd x1.env hp).env.st (Nxt.upd x1.env hp (o := .tup vs.reverse)).ext x1.env.st (x1.env.newT (.inl hsg) hp h2.reverse)
    · exact q1.elim
end
end Y

/-! part Y10 -/
set_option Elab.async false
set_option linter.all false
set_option maxRecDepth 100000
set_option maxHeartbeats 1000000
/-! Y10: the checker of expressions, and that it is right. -/
namespace Y
open PySem PySem.Spec
open PyProof.Rows hiding St
open L2
def noSt (es : List Expr) : Bool := es.all fun e => !isStar e
/-- a call's parts: the name, the arguments -/
def callP : Expr → Option (Str × List Expr)
  | .Call (.Name x _) es [] _ => some (x, es)
  | _ => none
theorem callP_ok {e : Expr} {x : Str} {es : List Expr} (h : callP e = some (x, es)) : ∃ p pos, e = .Call (.Name x p) es [] pos := by
  unfold callP at h
  split at h
  · cases h; exact ⟨_, _, rfl⟩
  · cases h
def nme : Expr → Option Str
  | .Name x _ => some x
  | _ => none
theorem nme_ok {e : Expr} {x : Str} (h : nme e = some x) : ∃ p, e = .Name x p := by
  unfold nme at h
  split at h
  · cases h; exact ⟨_, rfl⟩
  · cases h
theorem intsP_eq : ∀ {ps : List PyData} {is : List Int}, intsP ps = some is → ps = is.map PyData.int
  | [], is, h => by cases h; rfl
  | .int i :: r, is, h => by
    have h : (intsP r).map (i :: ·) = some is := h
    obtain ⟨js, h1, rfl⟩ := Option.map_eq_some_iff.mp h
    rw [intsP_eq h1]
    rfl
theorem rpAll_ints {sg : Bool} {K : PySem.W.Frag} {F : Addr → Prop} {H : Hp} : ∀ is : List Int, RpAll sg K F H (is.map V.int) (is.map PyData.int)
  | [] => .nil
  | i :: r => .cons (.int i) (rpAll_ints r)
def kNm (e : Expr) (f : Str → Bool) : Bool := match nme e with | some x => f x | none => false
theorem kNm_ok {e : Expr} {f : Str → Bool} (h : kNm e f = true) : ∃ x p, e = .Name x p ∧ f x = true := by
  unfold kNm at h
  split at h
  · rename_i x q
    obtain ⟨p, rfl⟩ := nme_ok q
    exact ⟨x, p, rfl, h⟩
  · cases h
def kCall (e : Expr) (f : Str → Expr → List Expr → Bool) : Bool := match callP e with | some (x, e :: es) => noSt (e :: es) && f x e es | _ => false
theorem kCall_ok {e : Expr} {f : Str → Expr → List Expr → Bool} (h : kCall e f = true) : ∃ x e1 es p pos, e = .Call (.Name x p) (e1 :: es) [] pos ∧ noSt (e1 :: es) = true ∧ f x e1 es = true := by
  unfold kCall at h
  split at h
  · rename_i x e1 es q
    obtain ⟨p, pos, rfl⟩ := callP_ok q
    rw [Bool.and_eq_true] at h
    exact ⟨x, e1, es, p, pos, rfl, h.1, h.2⟩
  · cases h
def isNil0 : C → Bool
  | .nil => true
  | _ => false
theorem isNil0_ok {a : C} (h : isNil0 a = true) : a = .nil := by cases a <;> first | rfl | cases h
def kCall0 (e : Expr) (f : Str → Bool) : Bool := match callP e with | some (x, []) => f x | _ => false
theorem kCall0_ok {e : Expr} {f : Str → Bool} (h : kCall0 e f = true) : ∃ x p pos, e = .Call (.Name x p) [] [] pos ∧ f x = true := by
  unfold kCall0 at h
  split at h
  · rename_i x q
    obtain ⟨p, pos, rfl⟩ := callP_ok q
    exact ⟨x, p, pos, rfl, h⟩
  · cases h
def kGlob (T : Tb) (z : Pz) (g : Gk) (x : Str) : Bool := kGl z x && isTab T x g && !(x == ("__debug__" : Str))
def litOk : PyData → Const → Bool
  | .int i, .int j => i == j
  | .bool i, .bool j => i == j
  | .none, .none => true
  | .str i, .str j => i == j
  | _, _ => false
def kComp (A : Pz → Expr → Bool) (I : Bool → Pz → Expr → Expr → Bool) (G : Pz → Expr → Bool) (Ff : Pz → List Expr → Bool) (own : List (Str × Nat)) (tgC : C) (st : Bool) (z : Pz) (e : Expr) : Bool :=
  match e with
  | .ListComp elt [⟨tg, iter, ifs, 0⟩] scope _ =>
    let z' := { z with sc := relS scope z.sc, own := some scope, gd := false, lm := false }
    I true z tg iter && blkC z.N z.sc scope own && G z' tg && Ff z' ifs && A z' elt && plainF iter && (gvs tgC).all (fun i => decide (i ∈ own.map (·.2))) && st
  | _ => false
def kComp2 (A : Pz → Expr → Bool) (I I1 : Bool → Pz → Expr → Expr → Bool) (G G1 : Pz → Expr → Bool) (Ff Ff1 : Pz → List Expr → Bool) (own : List (Str × Nat)) (vs1 : List Nat) (tgC tg1C : C) (st : Bool) (z : Pz) (e : Expr) : Bool :=
  match e with
  | .ListComp elt [⟨tg, iter, ifs, 0⟩, ⟨tg1, iter1, ifs1, 0⟩] scope _ =>
    let z' := { z with sc := relS scope z.sc, own := some scope, gd := false, lm := false }
    I true z tg iter && blkC z.N z.sc scope own && G z' tg && Ff z' ifs && A z' elt && plainF iter && (gvs tgC).all (fun i => decide (i ∈ own.map (·.2))) && st && (I1 false z' tg1 iter1 && G1 z' tg1 && Ff1 z' ifs1 && plainF iter1 && (gvs tg1C).all (fun i => decide (i ∈ vs1)) && vs1.all (fun i => decide (i ∈ own.map (·.2))))
  | _ => false
def kFns (T : Tb) (z : Pz) : List Nat → List Expr → Bool
  | [], [] => true
  | k :: ks, e :: es => !isStar e && kNm e (kGlob T z (.fn k)) && kFns T z ks es
  | _, _ => false
def ck (T : Tb) (dr : Nat → Nat) : C → Ck
  | .var i => { mkE false .d (fun z e => kNm e (kVis z i)) with g := fun z e => kNm e (kLoc z i) }
  | .bvar i => mkE false .b (fun z e => kNm e (kVis z i))
  | .scr i => mkE false .n (fun z e => match e with | .Subscript a (.Slice none (some (.Constant (.int 63) _ _)) none _) _ => kNm a (kVis z i) | _ => false)
  | .glob p => mkE false .n (fun z e => match p with | .int i => kNm e (kGlob T z (.int i)) | .tuple ps => (match intsP ps with | some is => !sgG T.gt && kNm e (kGlob T z (.tup is)) | none => false) | _ => false)
  | .fnv k => mkE false .d (fun z e => kNm e (kGlob T z (.fn k)))
  | .lit p =>
    let K := mkE false .n (fun _ e => match e with | .Constant c _ _ => litOk p c | _ => false)
    { K with f := fun z xs => match p, xs with | .bool true, [] => true | _, xs => K.f z xs }
  | .nil => { mkN with a := fun _ _ xs => xs.isEmpty, o := fun _ x => x.isNone, gs := fun _ xs => xs.isEmpty }
  | .cons a r =>
    let A := ck T dr a
    let B := ck T dr r
    { mkN with a := fun b z xs => (match xs with | e :: es => !isStar e && (b || notB A.r) && A.e z e && B.a b z es | _ => false),
               gs := fun z xs => (match xs with | e :: es => !isStar e && A.g z e && B.gs z es | _ => false) }
  | .star a r =>
    let A := ck T dr a
    let B := ck T dr r
    { mkN with a := fun _ z xs => match xs with | .Starred e _ :: es => A.e z e && B.a false z es | _ => false }
  | .tup as =>
    let A := ck T dr as
    { mkE false .n (fun z e => match e with | .Tuple es _ _ => A.a false z es | _ => false) with
      g := fun z e => match e with | .Tuple es _ _ => noSt es && decide (lenG as = es.length) && isGs as && A.gs z es | _ => false }
  | .lst as =>
    let A := ck T dr as
    { mkE true .n (fun z e => match e with | .List es _ => A.a false z es | _ => false) with
      i := fun _ z _ e => match e with | .List es _ => A.a false z es | _ => false }
  | .bin op a b =>
    let A := ck T dr a
    let B := ck T dr b
    mkE false .n (fun z e => match e with | .BinOp l o r _ => decide (o = opM op) && A.e z l && B.e z r | _ => false)
  | .neg a =>
    let A := ck T dr a
    mkE false .n (fun z e => match e with | .UnaryOp .USub l _ => notB A.r && A.e z l | _ => false)
  | .cmp op a b =>
    let A := ck T dr a
    let B := ck T dr b
    let F : Pz → Expr → Bool := fun z e => match e with | .Compare l [o] [r] _ => decide (o = op) && !(behindInMarks op r) && A.e z l && B.e z r | _ => false
    mkT (mkE false .n F) F
  | .chain o1 o2 a b c =>
    let A := ck T dr a
    let B := ck T dr b
    let G := ck T dr c
    let F : Pz → Expr → Bool := fun z e => match e with | .Compare l [p1, p2] [r, s] _ => decide (p1 = o1) && decide (p2 = o2) && !(lastMarks [o1, o2] [r, s]) && A.e z l && B.e z r && G.e z s | _ => false
    mkT (mkE false .n F) F
  | .and a b => mkBo .And (ck T dr a) (ck T dr b)
  | .or a b => mkBo .Or (ck T dr a) (ck T dr b)
  | .not a =>
    let A := ck T dr a
    mkT (mkE false .n (fun z e => match e with | .UnaryOp .Not l _ => notB A.r && A.e z l | _ => false)) (fun z e => match e with | .UnaryOp .Not l _ => A.t z l | _ => false)
  | .ite t a b =>
    let K := ck T dr t
    let A := ck T dr a
    let B := ck T dr b
    mkE false .d (fun z e => match e with | .IfExp et l r _ => K.t z et && notB A.r && notB B.r && A.e z l && B.e z r | _ => false)
  | .ix a i =>
    let A := ck T dr a
    let B := ck T dr i
    mkE false .d (fun z e => match e with | .Subscript l r _ => plainI r && A.e z l && B.e z r | _ => false)
  | .slc a lo hi =>
    let A := ck T dr a
    let B := ck T dr lo
    let G := ck T dr hi
    mkE false .n (fun z e => match e with | .Subscript l (.Slice x y none _) _ => A.e z l && B.o z x && G.o z y | _ => false)
  | .rvs a =>
    let A := ck T dr a
    mkE false .n (fun z e => match e with | .Subscript l (.Slice none none (some (.UnaryOp .USub (.Constant (.int 1) _ _) _)) _) _ => !sgG T.gt && A.e z l | _ => false)
  | .call f as =>
    let A := ck T dr as
    mkE false .d (fun z e => (kCall e fun x e1 es => kGlob T z (.fn f) x && decide (T.lv f ≤ z.L) && A.a false z (e1 :: es)) || (isNil0 as && kCall0 e fun x => kGlob T z (.fn f) x && decide (T.lv f ≤ z.L)))
  | .callb f as =>
    let A := ck T dr as
    mkE false .d (fun z e => kCall e fun x e1 es => kGlob T z (.fn f) x && decide (T.lv f ≤ z.L) && A.a true z (e1 :: es))
  | .calln f as =>
    let A := ck T dr as
    mkE false .n (fun z e => kCall e fun x e1 es => kGlob T z (.fn f) x && decide (T.lv f ≤ z.L) && A.a true z (e1 :: es))
  | .minK js a =>
    let A := ck T dr a
    mkE false .d (fun z e => match e with
      | .Call (.Name x _) [e1] [⟨some kw, .Lambda ⟨[], [ar], none, [], [], none, []⟩ (.Tuple es _ _) scope _, _⟩] _ => z.lm && decide (1 ≤ z.L) && decide (x = ("min" : Str)) && decide (kw = ("key" : Str)) && kGl z x && isTab T x .abs && !isStar e1 && lamDB z.sc scope ar.arg && !(ar.arg == ("__debug__" : Str)) && decide (keyJ ar.arg es = some js) && decide (js.length ≤ 100) && A.e z e1
      | _ => false)
  | .callv i fs as =>
    let A := ck T dr as
    mkE false .d (fun z e => kCall e fun x e1 es => kVis z i x && fs.all (fun k => decide (T.lv k ≤ z.L)) && A.a false z (e1 :: es))
  | .bi b as =>
    let A := ck T dr as
    mkE false .n (fun z e => kCall e fun x e1 es => decide (x = biX b) && kGl z x && isTab T x .abs && A.a true z (e1 :: es))
  | .rng as =>
    let A := ck T dr as
    { mkN with i := fun _ z _ e => kCall e fun x e1 es => decide (x = ("range" : Str)) && kGl z x && isTab T x .abs && (match es with | [] => decide (lenC as = some 1) | [_] => decide (lenC as = some 2) | [_, _] => decide (lenC as = some 3) | _ => false) && A.a false z (e1 :: es) }
  | .lrg a b =>
    let A := ck T dr a
    let B := ck T dr b
    mkE false .n (fun z e => match e with
      | .Call (.Name x _) [.Call (.Name y _) [e1, e2] [] _] [] _ => decide (x = ("list" : Str)) && decide (y = ("range" : Str)) && kGl z x && isTab T x .abs && kGl z y && isTab T y .abs && !isStar e1 && !isStar e2 && A.e z e1 && B.e z e2
      | _ => false)
  | .zip a b =>
    let A := ck T dr a
    let B := ck T dr b
    { mkN with i := fun bb z tg e => kCall e fun x e1 es => (match tg, es with
        | .Tuple _ _ _, [e2] => !sgG T.gt && decide (x = ("zip" : Str)) && kGl z x && isTab T x .abs && (bb || (notB A.r && notB B.r)) && A.e z e1 && B.e z e2
        | _, _ => false) }
  | .zip3 a b c =>
    let A := ck T dr a
    let B := ck T dr b
    let G := ck T dr c
    { mkN with i := fun _ z tg e => kCall e fun x e1 es => (match tg, es with
        | .Tuple _ _ _, [e2, e3] => !sgG T.gt && decide (x = ("zip" : Str)) && kGl z x && isTab T x .abs && A.e z e1 && B.e z e2 && G.e z e3
        | _, _ => false) }
  | .enum a =>
    let A := ck T dr a
    { mkN with i := fun bb z tg e => kCall e fun x e1 es => (match tg, es with
        | .Tuple _ _ _, [] => !sgG T.gt && decide (x = ("enumerate" : Str)) && kGl z x && isTab T x .abs && (bb || notB A.r) && A.e z e1
        | _, _ => false) }
  | .enumT a =>
    let A := ck T dr a
    { mkN with i := fun _ z tg e => kCall e fun x e1 es => (match tg, es with
        | .Tuple _ _ _, [] => decide (x = ("enumerate" : Str)) && kGl z x && isTab T x .abs && A.e z e1
        | _, _ => false) }
  | .rev a =>
    let A := ck T dr a
    { mkN with i := fun bb z _ e => kCall e fun x e1 es => (match es with
        | [] => decide (x = ("reversed" : Str)) && kGl z x && isTab T x .abs && (bb || notB A.r) && A.e z e1
        | _ => false) }
  | .fns ks => { mkN with i := fun _ z _ e => match e with | .List es _ => kFns T z ks es && decide (ks.length ≤ 100) | _ => false }
  | .meth .count o as =>
    let A := ck T dr o
    let B := ck T dr as
    mkE false .n (fun z e => match e with
      | .Call (.Attribute (.Name y p) m ap) [e1] [] cp => sgG T.gt && decide (m = ("count" : Str)) && !isStar e1 && (ap.endLine == cp.line) && A.e z (.Name y p) && B.a true z [e1]
      | _ => false)
  | .meth .index o as =>
    let A := ck T dr o
    let B := ck T dr as
    mkE false .n (fun z e => match e with
      | .Call (.Attribute (.Name y p) m ap) [e1] [] cp => decide (m = ("index" : Str)) && !isStar e1 && (ap.endLine == cp.line) && A.e z (.Name y p) && B.a true z [e1]
      | _ => false)
  | .comp own el tg src ifs =>
    let E := ck T dr el
    let G := ck T dr tg
    let I := ck T dr src
    let Fi := ck T dr ifs
    mkE false .n (fun z e => kComp (fun z x => notB E.r && E.e z x) I.i G.g Fi.f own tg (decide (drw dr ifs + drw dr el = 0) || cntC src) z e)
  | .comp2 own vs1 el tg src ifs tg1 src1 ifs1 =>
    let E := ck T dr el
    let G := ck T dr tg
    let I := ck T dr src
    let Fi := ck T dr ifs
    let G1 := ck T dr tg1
    let I1 := ck T dr src1
    let Fi1 := ck T dr ifs1
    mkE false .n (fun z e => kComp2 (fun z x => notB E.r && E.e z x) I.i I1.i G.g G1.g Fi.f Fi1.f own vs1 tg tg1 (decide (drw dr ifs + drw dr src1 + drw dr ifs1 + drw dr el = 0)) z e)
  | .told a =>
    let A := ck T dr a
    mkE false .n (fun z e => match e with
      | .Call (.Name x _) [.Lambda ⟨[], [], none, [], [], none, []⟩ body scope _] [] _ => z.gd && decide (2 ≤ z.L) && decide (x = "_law_told") && kGl z x && LamX.lamSB z.sc scope && notB A.r && A.e (lamZ z scope) body
      | _ => false)
  | .toldd i a =>
    let A := ck T dr a
    mkE false .n (fun z e => match e with
      | .Call (.Name x _) [.Lambda ⟨[], [ar], none, [], [], none, [.Constant (.int _) _ _]⟩ body scope _] [] _ => z.gd && decide (2 ≤ z.L) && decide (x = "_law_told") && kGl z x && lamDB z.sc scope ar.arg && kDi z.N ar.arg i && notB A.r && A.e (lamZ z scope) body
      | _ => false)
  | .same a b =>
    let A := ck T dr a
    let B := ck T dr b
    mkE false .n (fun z e => kCall e fun x e1 es => match es with | [e2] => z.gd && decide (1 ≤ z.L) && decide (x = "_law_same") && kGl z x && A.e z e1 && B.e z e2 | _ => false)
  | .repr a =>
    let A := ck T dr a
    mkE false .n (fun z e => kCall e fun x e1 es => match es with | [] => z.gd && decide (x = "repr") && kGl z x && A.e z e1 | _ => false)
  | _ => mkN
section
variable {S : RS} {T : Tb} {Φ : Nat → List D → (D → Prop) → (Nat → Prop) → Prop} {dr : Nat → Nat}
variable {R : RT} {z : Pz} {X : Cx} {Ed : Nat → Prop} {x l r : Expr} {xs : List Expr} {a b c : C} {pos : Pos}
theorem kVis_ok {i : Nat} {x : Str} (s : Sit S T Φ dr R z X Ed) (h : kVis z i x = true) : X.N[i]? = some x ∧ Vis X.env.scope x ∧ (x == ("__debug__" : Str)) = false ∧ (x == ("__classdict__" : Str)) = false := by
  unfold kVis at h
  simp only [Bool.and_eq_true, decide_eq_true_eq, Bool.not_eq_true'] at h
  obtain ⟨⟨⟨h1, h2⟩, h3⟩, h4⟩ := h
  refine ⟨by rw [s.A.hN]; exact h1, ?_, h3, h4⟩
  unfold Vis
  rw [s.A.hs]
  split at h2
  · rename_i e; exact .inl e
  · rename_i e; exact .inr (.inl e)
  · rename_i e; exact .inr (.inr e)
  · cases h2
theorem kLoc_ok {i : Nat} {x : Str} (s : Sit S T Φ dr R z X Ed) (h : kLoc z i x = true) : X.N[i]? = some x ∧ L2.Loc X.env.scope x ∧ (X.fn x = true ∨ X.env.scope.names.lookup x = some .local) := by
  unfold kLoc at h
  simp only [Bool.and_eq_true, decide_eq_true_eq] at h
  obtain ⟨h1, h2⟩ := h
  refine ⟨by rw [s.A.hN]; exact h1, ?_⟩
  unfold L2.Loc
  rw [s.A.hs]
  split at h2
  · rename_i e; exact ⟨.inl e, .inr e⟩
  · rename_i e; exact ⟨.inr e, .inl (s.A.hf x h2)⟩
  · cases h2
theorem kGl_ok {x : Str} (s : Sit S T Φ dr R z X Ed) (h : kGl z x = true) : Gl X x := by
  unfold kGl at h
  have h := of_decide_eq_true h
  show X.env.scope.names.lookup x = some .globalImplicit
  rw [s.A.hs]
  exact h
theorem kTab_ok {x : Str} {g : Gk} (s : Sit S T Φ dr R z X Ed) (h : isTab T x g = true) : GkOk S x g := s.bs.g x g (isTab_ok h)
theorem abs_ok {x : Str} (s : Sit S T Φ dr R z X Ed) (h : isTab T x .abs = true) : X.mg x = none := by
  rw [s.A.hm]; exact kTab_ok s h
theorem kGlob_ok {x : Str} {g : Gk} (s : Sit S T Φ dr R z X Ed) (h : kGlob T z g x = true) : Gl X x ∧ GkOk S x g ∧ (x == ("__debug__" : Str)) = false := by
  unfold kGlob at h
  simp only [Bool.and_eq_true, Bool.not_eq_true'] at h
  exact ⟨kGl_ok s h.1.1, kTab_ok s h.1.2, h.2⟩
theorem star_none {e : Expr} {es : List Expr} (h : noSt (e :: es) = true) : isStar e = false := by
  unfold noSt at h
  rw [List.all_cons, Bool.and_eq_true, Bool.not_eq_true'] at h
  exact h.1
theorem Snd.withG {k : Ck} {c : C} {g : Pz → Expr → Bool} (h : Snd S T Φ dr k c) (hg : ∀ {R z X Ed}, Sit S T Φ dr R z X Ed → ∀ {x}, g z x = true → PG X x (TGx R c)) : Snd S T Φ dr { k with g := g } c :=
  { e := h.e, t := h.t, bE := h.bE, bT := h.bT, a := h.a, o := h.o, i := h.i, g := hg, gs := h.gs, f := h.f }
theorem Snd.withI {k : Ck} {c : C} {i : Bool → Pz → Expr → Expr → Bool} (h : Snd S T Φ dr k c) (hi : ∀ {R z X Ed}, Sit S T Φ dr R z X Ed → ∀ {b tg x}, i b z tg x = true → PI X tg x (TIx Φ exName dr R b Ed c)) : Snd S T Φ dr { k with i := i } c :=
  { e := h.e, t := h.t, bE := h.bE, bT := h.bT, a := h.a, o := h.o, i := hi, g := h.g, gs := h.gs, f := h.f }
theorem Snd.withF {k : Ck} {c : C} {f : Pz → List Expr → Bool} (h : Snd S T Φ dr k c) (hf : ∀ {R z X Ed}, Sit S T Φ dr R z X Ed → ∀ {xs}, f z xs = true → PTs X xs (TTx Φ exName dr R Ed c)) : Snd S T Φ dr { k with f := f } c :=
  { e := h.e, t := h.t, bE := h.bE, bT := h.bT, a := h.a, o := h.o, i := h.i, g := h.g, gs := h.gs, f := hf }
theorem sub_blk {scope : Scope} (s : Sit S T Φ dr R z X Ed) (s1 : Shared) (H : Hp) (C : Addr) (cl : List (Str × Addr)) (fp : List Addr) :
    Sit S T Φ dr R { z with sc := relS scope z.sc, own := some scope, gd := false, lm := false } (X.blk s1 H scope (compEnvC scope cl C X.env) fp) noE where
  A := { hP := s.A.hP, hw := s.A.hw, hK := s.A.hK, hm := s.A.hm, hb := s.A.hb, hN := s.A.hN, nd := s.A.nd, hs := by rw [← s.A.hs]; rfl, hf := fun x h => h, calm := s.A.calm, hr := s.A.hr, hg := fun z => (by cases z) }
  hS := s.hS
  w := ⟨⟨fun _ _ _ _ => False, fun u s' ⟨_, _, _, _, _, _, _, _, _, _, _, _, _, _, _, _, w⟩ => w, fun k _ _ h => h.elim⟩, s.w.big, s.w.tt⟩
  bs := s.bs
  fh := s.fh
  lw := fun z => (by cases z)
  lm := fun z => (by cases z)
theorem tax_b (h : PA X xs (TAx Φ exName dr R (rlD R) Ed c)) : PA X xs (TAx Φ exName dr R (rlB R) Ed c) := PAw h fun σ H Q ⟨n, F, ρ, Qd, E, hn, hw, k⟩ =>
  ⟨n, F, ρ, Qd, E, hn, hw, fun ds vs F' H' q x r l => k ds vs F' H' q x (r.imp fun _ _ h => .inl h) l⟩

theorem kComp_ok {A : Ck} {E I G Fi : Ck} {own : List (Str × Nat)} {el tgC src ifs : C} {e : Expr} (hE : Snd S T Φ dr E el) (hI : Snd S T Φ dr I src) (hG : Snd S T Φ dr G tgC) (hF : Snd S T Φ dr Fi ifs) (s : Sit S T Φ dr R z X Ed)
    (h : kComp (fun z x => notB E.r && E.e z x) I.i G.g Fi.f own tgC (decide (drw dr ifs + drw dr el = 0) || cntC src) z e = true) :
    ∃ elt tg iter fs scope p, e = .ListComp elt [⟨tg, iter, fs, 0⟩] scope p ∧ PI X tg iter (TIx Φ exName dr R true Ed src) ∧ BlkOk X.N X.env.scope scope own ∧
      (∀ (s : Shared) (H : Hp) (C : Addr) (cl : List (Str × Addr)) (fp : List Addr), PG (X.blk s H scope (compEnvC scope cl C X.env) fp) tg (TGx R tgC)) ∧
      (∀ (s : Shared) (H : Hp) (C : Addr) (cl : List (Str × Addr)) (fp : List Addr), PTs (X.blk s H scope (compEnvC scope cl C X.env) fp) fs (TTx Φ exName dr R noE ifs)) ∧
      (∀ (s : Shared) (H : Hp) (C : Addr) (cl : List (Str × Addr)) (fp : List Addr), PE (X.blk s H scope (compEnvC scope cl C X.env) fp) elt (TEx Φ exName dr R (rlD R) noE el)) ∧
      (∀ x, foldedSetIterable iter X.env x = pure x) ∧ (∀ i ∈ gvs tgC, i ∈ own.map (·.2)) ∧ (drw dr ifs + drw dr el = 0 ∨ cntC src = true) := by
  unfold kComp at h
  split at h
  · rename_i elt tg iter fs scope p
    simp only [Bool.and_eq_true, List.all_eq_true, decide_eq_true_eq, Bool.or_eq_true] at h
    obtain ⟨⟨⟨⟨⟨⟨⟨h1, h2⟩, h3⟩, h4⟩, h5, h6⟩, h7⟩, h8⟩, h9⟩ := h
    refine ⟨elt, tg, iter, fs, scope, p, rfl, hI.i s h1, ?_, fun s1 H C cl fp => hG.g (sub_blk s s1 H C cl fp) h3, fun s1 H C cl fp => hF.f (sub_blk s s1 H C cl fp) h4,
      fun s1 H C cl fp => toD (hE.e (sub_blk s s1 H C cl fp) h6) h5, plainF_ok h7, h8, h9⟩
    rw [s.A.hN, s.A.hs]
    exact blkOk_by h2
  · cases h
theorem kComp2_ok {E I G Fi I1 G1 Fi1 : Ck} {own : List (Str × Nat)} {vs1 : List Nat} {el tgC src ifs tg1C src1 ifs1 : C} {e : Expr} (hE : Snd S T Φ dr E el) (hI : Snd S T Φ dr I src) (hG : Snd S T Φ dr G tgC) (hF : Snd S T Φ dr Fi ifs)
    (hI1 : Snd S T Φ dr I1 src1) (hG1 : Snd S T Φ dr G1 tg1C) (hF1 : Snd S T Φ dr Fi1 ifs1) (s : Sit S T Φ dr R z X Ed)
    (h : kComp2 (fun z x => notB E.r && E.e z x) I.i I1.i G.g G1.g Fi.f Fi1.f own vs1 tgC tg1C (decide (drw dr ifs + drw dr src1 + drw dr ifs1 + drw dr el = 0)) z e = true) :
    ∃ elt tg iter fs tg1 iter1 fs1 scope p, e = .ListComp elt [⟨tg, iter, fs, 0⟩, ⟨tg1, iter1, fs1, 0⟩] scope p ∧ PI X tg iter (TIx Φ exName dr R true Ed src) ∧ BlkOk X.N X.env.scope scope own ∧ (∀ i ∈ vs1, i ∈ own.map (·.2)) ∧
      (∀ (s : Shared) (H : Hp) (C : Addr) (cl : List (Str × Addr)) (fp : List Addr), PG (X.blk s H scope (compEnvC scope cl C X.env) fp) tg (TGx R tgC)) ∧
      (∀ (s : Shared) (H : Hp) (C : Addr) (cl : List (Str × Addr)) (fp : List Addr), PTs (X.blk s H scope (compEnvC scope cl C X.env) fp) fs (TTx Φ exName dr R noE ifs)) ∧
      (∀ (s : Shared) (H : Hp) (C : Addr) (cl : List (Str × Addr)) (fp : List Addr), PI (X.blk s H scope (compEnvC scope cl C X.env) fp) tg1 iter1 (TIx Φ exName dr R false noE src1)) ∧
      (∀ (s : Shared) (H : Hp) (C : Addr) (cl : List (Str × Addr)) (fp : List Addr), PG (X.blk s H scope (compEnvC scope cl C X.env) fp) tg1 (TGx R tg1C)) ∧
      (∀ (s : Shared) (H : Hp) (C : Addr) (cl : List (Str × Addr)) (fp : List Addr), PTs (X.blk s H scope (compEnvC scope cl C X.env) fp) fs1 (TTx Φ exName dr R noE ifs1)) ∧
      (∀ (s : Shared) (H : Hp) (C : Addr) (cl : List (Str × Addr)) (fp : List Addr), PE (X.blk s H scope (compEnvC scope cl C X.env) fp) elt (TEx Φ exName dr R (rlD R) noE el)) ∧
      (∀ x, foldedSetIterable iter X.env x = pure x) ∧ (∀ env x, foldedSetIterable iter1 env x = pure x) ∧ (∀ i ∈ gvs tgC, i ∈ own.map (·.2)) ∧ (∀ i ∈ gvs tg1C, i ∈ vs1) ∧ drw dr ifs + drw dr src1 + drw dr ifs1 + drw dr el = 0 := by
  unfold kComp2 at h
  split at h
  · rename_i elt tg iter fs tg1 iter1 fs1 scope p
    simp only [Bool.and_eq_true, List.all_eq_true, decide_eq_true_eq] at h
    obtain ⟨⟨⟨⟨⟨⟨⟨⟨h1, h2⟩, h3⟩, h4⟩, h5, h6⟩, h7⟩, h8⟩, h9⟩, ⟨⟨⟨⟨⟨g1, g2⟩, g3⟩, g4⟩, g5⟩, g6⟩⟩ := h
    refine ⟨elt, tg, iter, fs, tg1, iter1, fs1, scope, p, rfl, hI.i s h1, ?_, g6, fun s1 H C cl fp => hG.g (sub_blk s s1 H C cl fp) h3, fun s1 H C cl fp => hF.f (sub_blk s s1 H C cl fp) h4,
      fun s1 H C cl fp => hI1.i (sub_blk s s1 H C cl fp) g1, fun s1 H C cl fp => hG1.g (sub_blk s s1 H C cl fp) g2, fun s1 H C cl fp => hF1.f (sub_blk s s1 H C cl fp) g3,
      fun s1 H C cl fp => toD (hE.e (sub_blk s s1 H C cl fp) h6) h5, plainF_ok h7, fun env x => plainF_ok g4 x, h8, g5, h9⟩
    rw [s.A.hN, s.A.hs]
    exact blkOk_by h2
  · cases h
theorem kFns_ok (s : Sit S T Φ dr R z X Ed) : ∀ {ks : List Nat} {es : List Expr}, kFns T z ks es = true → PA X es (TAx Φ exName dr R (rlD R) Ed (fnsC ks))
  | [], [], _ => nd_anil
  | k :: ks, e :: es, h => by
    have h : (!isStar e && kNm e (kGlob T z (.fn k)) && kFns T z ks es) = true := h
    simp only [Bool.and_eq_true, Bool.not_eq_true'] at h
    obtain ⟨y, p, rfl, q⟩ := kNm_ok h.1.2
    obtain ⟨h1, h2, h4⟩ := kGlob_ok s q
    refine nd_acons (rl := rlD R) rlD_ok h.1.1 (nd_fnv h1 ?_ h4) (kFns_ok s h.2)
    rw [s.A.hm]
    have h2 : S.mg y = some (.ref (S.fa k)) := h2
    rw [h2, ← s.hS]
  | [], _ :: _, h => by cases h
  | _ :: _, [], h => by cases h
theorem snd (c : C) : Snd S T Φ dr (ck T dr c) c := by
  induction c with
  | var i =>
    refine Snd.withG (mkE_snd (.inr rfl) fun s x q => ?_) fun s x q => ?_
    · obtain ⟨y, p, rfl, q⟩ := kNm_ok q
      obtain ⟨h1, h2, h3, h4⟩ := kVis_ok s q
      exact nd_var h1 h2 h3 h4
    · obtain ⟨y, p, rfl, q⟩ := kNm_ok q
      obtain ⟨h1, h2, h3⟩ := kLoc_ok s q
      exact nd_gname s.A.nd h1 h2 h3
  | bvar i =>
    refine mkE_snd (.inr rfl) fun s x q => ?_
    obtain ⟨y, p, rfl, q⟩ := kNm_ok q
    obtain ⟨h1, h2, h3, h4⟩ := kVis_ok s q
    exact nd_bvar h1 h2 h3 h4
  | scr i =>
    refine mkE_snd (.inr rfl) fun s x q => ?_
    split at q
    · obtain ⟨y, p, rfl, q⟩ := kNm_ok q
      obtain ⟨h1, h2, h3, h4⟩ := kVis_ok s q
      exact nd_scr s.hK h1 h2 h3 h4
    · cases q
  | glob p =>
    refine mkE_snd (.inr rfl) fun s x q => ?_
    split at q
    · rename_i i
      obtain ⟨y, p, rfl, q⟩ := kNm_ok q
      obtain ⟨h1, ⟨u, h2, h3⟩, h4⟩ := kGlob_ok s q
      exact nd_const (pe_glob (v := .int i) h1 (by rw [s.A.hm]; exact h2) h3 h4) (fun _ _ => .int _) rfl (fun _ _ _ => rfl) (fun _ z => by cases z)
    · split at q
      · rename_i ps is hi
        rw [Bool.and_eq_true, Bool.not_eq_true'] at q
        have hsg := s.sg q.1
        obtain ⟨y, p, rfl, q9⟩ := kNm_ok q.2
        obtain ⟨h1, ⟨a, h2, h3⟩, h4⟩ := kGlob_ok s q9
        obtain rfl := intsP_eq hi
        exact nd_const (pe_glob (v := .ref a) h1 (by rw [s.A.hm]; exact h2) rfl h4) (fun F H => .tup (by rw [← s.hK, s.A.hK]; exact h3 H) (fun z _ => by rw [hsg] at z; cases z) (rpAll_ints is)) rfl (fun _ _ _ => rfl) (fun _ z => by cases z)
      · cases q
    · cases q
  | fnv k =>
    refine mkE_snd (.inr rfl) fun s x q => ?_
    obtain ⟨y, p, rfl, q⟩ := kNm_ok q
    obtain ⟨h1, h2, h4⟩ := kGlob_ok s q
    refine nd_fnv h1 ?_ h4
    rw [s.A.hm]
    have h2 : S.mg y = some (.ref (S.fa k)) := h2
    rw [h2, ← s.hS]
  | lit p =>
    have H : Snd S T Φ dr (mkE false .n (fun _ e => match e with | .Constant c _ _ => litOk p c | _ => false)) (.lit p) := by
      refine mkE_snd (.inr rfl) fun s x q => ?_
      split at q
      · rename_i c j pos
        unfold litOk at q
        split at q
        · cases eq_of_beq q
          exact nd_const pe_int (fun _ _ => .int _) rfl (fun _ _ _ => rfl) (fun _ z => by cases z)
        · cases eq_of_beq q
          exact nd_const pe_bl (fun _ _ => .bl _) rfl (fun _ _ _ => rfl) (fun _ z => by cases z)
        · exact nd_const pe_non (fun _ _ => .non) rfl (fun _ _ _ => rfl) (fun _ z => by cases z)
        · cases eq_of_beq q
          exact nd_const pe_str (fun _ _ => .str _) rfl (fun _ _ _ => rfl) (fun _ z => by cases z)
        · cases q
      · cases q
    refine Snd.withF H fun {R z X Ed} s xs q => ?_
    split at q
    · exact PTsw pts_nil fun σ H Q ⟨n, F, ρ, Qd, E, hn, hw, k⟩ => by
        obtain ⟨b, e, q⟩ := k _ F H hw (.refl (by simpa [drw] using E))
        cases e
        exact q
    · exact H.f s q
  | nil =>
    refine { (mkN_snd : Snd S T Φ dr mkN C.nil) with a := fun s b xs q => ?_, o := fun s x q => ?_, gs := fun s xs q => ?_ }
    · cases xs with
      | nil => exact nd_anil
      | cons _ _ => cases q
    · cases x with
      | none => exact nd_part0
      | some _ => cases q
    · cases xs with
      | nil => exact nd_gsnil
      | cons _ _ => cases q
  | cons a r ha hr =>
    refine { (mkN_snd : Snd S T Φ dr mkN (C.cons a r)) with a := ?_, gs := ?_ }
    · intro R z X Ed s b xs q
      match xs, q with
      | [], q => cases q
      | e :: es, q =>
        have q : (!isStar e && (b || notB (ck T dr a).r) && (ck T dr a).e z e && (ck T dr r).a b z es) = true := q
        simp only [Bool.and_eq_true, Bool.not_eq_true', Bool.or_eq_true] at q
        obtain ⟨⟨⟨q1, q2⟩, q3⟩, q4⟩ := q
        cases b with
        | true => exact nd_acons (rl := rlB R) rlB_ok q1 (toB (ha.e s q3)) (hr.a s q4)
        | false =>
          rcases q2 with q2 | q2
          · cases q2
          · exact nd_acons (rl := rlD R) rlD_ok q1 (toD (ha.e s q3) q2) (hr.a s q4)
    · intro R z X Ed s xs q
      match xs, q with
      | [], q => cases q
      | e :: es, q =>
        have q : (!isStar e && (ck T dr a).g z e && (ck T dr r).gs z es) = true := q
        simp only [Bool.and_eq_true, Bool.not_eq_true'] at q
        exact nd_gscons q.1.1 (ha.g s q.1.2) (hr.gs s q.2)
  | star a r ha hr =>
    refine { (mkN_snd : Snd S T Φ dr mkN (C.star a r)) with a := ?_ }
    intro R z X Ed s b xs q
    simp only [ck] at q
    split at q
    · rw [Bool.and_eq_true] at q
      cases b with
      | true => exact tax_b (nd_astar s.hK (toB (ha.e s q.1)) (hr.a s q.2))
      | false => exact nd_astar s.hK (toB (ha.e s q.1)) (hr.a s q.2)
    · cases q
  | tup as ha =>
    refine Snd.withG (mkE_snd (.inr rfl) fun s x q => ?_) fun s x q => ?_
    · split at q
      · exact nd_tup (ha.a s q)
      · cases q
    · split at q
      · simp only [Bool.and_eq_true, decide_eq_true_eq] at q
        exact nd_gtup s.hK s.A.calm q.1.1.1 q.1.1.2 q.1.2 (ha.gs s q.2)
      · cases q
  | lst as ha =>
    refine Snd.withI (mkE_snd (.inl rfl) fun s x q => ?_) fun s b tg x q => ?_
    · split at q
      · exact nd_lst (ha.a s q)
      · cases q
    · split at q
      · exact nd_ilst s.hK (ha.a s q)
      · cases q
  | bin op a b ha hb =>
    refine mkE_snd (.inr rfl) fun s x q => ?_
    split at q
    · simp only [Bool.and_eq_true, decide_eq_true_eq] at q
      rw [q.1.1]
      exact nd_bin s.hK (toB (ha.e s q.1.2)) (toB (hb.e s q.2))
    · cases q
  | neg a ha =>
    refine mkE_snd (.inr rfl) fun s x q => ?_
    split at q
    · simp only [Bool.and_eq_true] at q
      exact nd_neg (toD (ha.e s q.2) q.1)
    · cases q
  | cmp op a b ha hb =>
    have F : ∀ {R z X Ed}, Sit S T Φ dr R z X Ed → ∀ {x : Expr}, (match x with | .Compare l [o] [r] _ => decide (o = op) && !(behindInMarks op r) && (ck T dr a).e z l && (ck T dr b).e z r | _ => false) = true →
        PE X x (TEx Φ exName dr R (rlN R) Ed (.cmp op a b)) ∧ PT X x (TTx Φ exName dr R Ed (.cmp op a b)) := by
      intro R z X Ed s x q
      split at q
      · simp only [Bool.and_eq_true, decide_eq_true_eq, Bool.not_eq_true'] at q
        obtain ⟨⟨⟨q1, q2⟩, q3⟩, q4⟩ := q
        subst q1
        exact ⟨nd_cmp s.hK s.A.hr (toB (ha.e s q3)) (toB (hb.e s q4)) q2, nd_cmpT s.hK s.A.hr (toB (ha.e s q3)) (toB (hb.e s q4)) q2⟩
      · cases q
    exact mkT_snd (mkE_snd (.inr rfl) fun s x q => (F s q).1) fun s x q => (F s q).2
  | chain o1 o2 a b c ha hb hc =>
    have F : ∀ {R z X Ed}, Sit S T Φ dr R z X Ed → ∀ {x : Expr}, (match x with | .Compare l [p1, p2] [r, s] _ => decide (p1 = o1) && decide (p2 = o2) && !(lastMarks [o1, o2] [r, s]) && (ck T dr a).e z l && (ck T dr b).e z r && (ck T dr c).e z s | _ => false) = true →
        PE X x (TEx Φ exName dr R (rlN R) Ed (.chain o1 o2 a b c)) ∧ PT X x (TTx Φ exName dr R Ed (.chain o1 o2 a b c)) := by
      intro R z X Ed s x q
      split at q
      · simp only [Bool.and_eq_true, decide_eq_true_eq, Bool.not_eq_true'] at q
        obtain ⟨⟨⟨⟨⟨q1, q2⟩, q3⟩, q4⟩, q5⟩, q6⟩ := q
        subst q1 q2
        exact ⟨nd_chain s.hK s.A.hr (toB (ha.e s q4)) (toB (hb.e s q5)) (toB (hc.e s q6)) q3, nd_chainT s.hK s.A.hr (toB (ha.e s q4)) (toB (hb.e s q5)) (toB (hc.e s q6)) q3⟩
      · cases q
    exact mkT_snd (mkE_snd (.inr rfl) fun s x q => (F s q).1) fun s x q => (F s q).2
  | and a b ha hb => exact mkBo_snd (fun {R z X Ed} s {l r rest pos} q1 q2 q3 => nd_and (toD (ha.e s q2) q1) (hb.bE s q3)) (fun {R z X Ed} s {l r rest pos} q1 q2 => nd_andT (ha.t s q1) (hb.bT s q2))
  | or a b ha hb => exact mkBo_snd (fun {R z X Ed} s {l r rest pos} q1 q2 q3 => nd_or (toD (ha.e s q2) q1) (hb.bE s q3)) (fun {R z X Ed} s {l r rest pos} q1 q2 => nd_orT (ha.t s q1) (hb.bT s q2))
  | not a ha =>
    refine mkT_snd (mkE_snd (.inr rfl) fun s x q => ?_) fun s x q => ?_
    · split at q
      · rw [Bool.and_eq_true] at q
        exact nd_not (toD (ha.e s q.2) q.1)
      · cases q
    · split at q
      · exact nd_notT (ha.t s q)
      · cases q
  | ite t a b ht ha hb =>
    refine mkE_snd (.inr rfl) fun s x q => ?_
    split at q
    · simp only [Bool.and_eq_true] at q
      obtain ⟨⟨⟨⟨q1, q2⟩, q3⟩, q4⟩, q5⟩ := q
      exact nd_ite (ht.t s q1) (toD (ha.e s q4) q2) (toD (hb.e s q5) q3)
    · cases q
  | ix a i ha hi =>
    refine mkE_snd (.inr rfl) fun s x q => ?_
    split at q
    · simp only [Bool.and_eq_true] at q
      exact nd_ix s.hK (toB (ha.e s q.1.2)) (toB (hi.e s q.2)) (plainI_ok q.1.1)
    · cases q
  | slc a lo hi ha hl hh =>
    refine mkE_snd (.inr rfl) fun s x q => ?_
    split at q
    · simp only [Bool.and_eq_true] at q
      exact nd_slc s.hK (toB (ha.e s q.1.1)) (hl.o s q.1.2) (hh.o s q.2)
    · cases q
  | rvs a ha =>
    refine mkE_snd (.inr rfl) fun s x q => ?_
    split at q
    · rw [Bool.and_eq_true, Bool.not_eq_true'] at q
      exact nd_rvs (s.sg q.1) s.hK (toB (ha.e s q.2))
    · cases q
  | call f as ha =>
    refine mkE_snd (.inr rfl) fun s x q => ?_
    replace q := Bool.or_eq_true_iff.mp q
    rcases q with q | q
    · obtain ⟨y, e1, es, p, pos, rfl, hs, q⟩ := kCall_ok q
      simp only [Bool.and_eq_true, decide_eq_true_eq] at q
      obtain ⟨h1, h2, h3⟩ := kGlob_ok s q.1.1
      exact nd_call s.A s.hS s.w (s.fh f q.1.2) q.1.2 h1 h2 h3 hs (ha.a s q.2)
    · rw [Bool.and_eq_true] at q
      have e1 := isNil0_ok q.1
      subst e1
      obtain ⟨y, p, pos, rfl, k⟩ := kCall0_ok q.2
      have k1 := Bool.and_eq_true_iff.mp k
      have k2 := of_decide_eq_true k1.2
      obtain ⟨h1, h2, h3⟩ := kGlob_ok s k1.1
      exact nd_call0 s.A s.hS s.w (s.fh f k2) k2 h1 h2 h3
  | calln f as ha =>
    refine mkE_snd (.inr rfl) fun s x q => ?_
    obtain ⟨y, e1, es, p, pos, rfl, hs, q⟩ := kCall_ok q
    simp only [Bool.and_eq_true, decide_eq_true_eq] at q
    obtain ⟨h1, h2, h3⟩ := kGlob_ok s q.1.1
    exact nd_calln s.A s.hS s.w (s.fh f q.1.2) q.1.2 h1 h2 h3 hs (ha.a s q.2)
  | minK js a ha =>
    refine mkE_snd (.inr rfl) fun s x q => ?_
    split at q
    · simp only [Bool.and_eq_true, decide_eq_true_eq, Bool.not_eq_true'] at q
      obtain ⟨⟨⟨⟨⟨⟨⟨⟨⟨⟨⟨q1, q2⟩, q3⟩, q4⟩, q5⟩, q6⟩, q7⟩, q8⟩, q9⟩, q10⟩, q11⟩, q12⟩ := q
      subst q3 q4
      exact nd_minK s q1 q2 (kGl_ok s q5) (abs_ok s q6) q7 (by rw [← s.A.hs] at q8; exact lamD_by q8) q9 q10 q11 (toB (ha.e s q12))
    · cases q
  | callb f as ha =>
    refine mkE_snd (.inr rfl) fun s x q => ?_
    obtain ⟨y, e1, es, p, pos, rfl, hs, q⟩ := kCall_ok q
    simp only [Bool.and_eq_true, decide_eq_true_eq] at q
    obtain ⟨h1, h2, h3⟩ := kGlob_ok s q.1.1
    exact nd_callb s.A s.hS s.w (s.fh f q.1.2) q.1.2 h1 h2 h3 hs (ha.a s q.2)
  | callv i fs as ha =>
    refine mkE_snd (.inr rfl) fun s x q => ?_
    obtain ⟨y, e1, es, p, pos, rfl, hs, q⟩ := kCall_ok q
    simp only [Bool.and_eq_true, decide_eq_true_eq, List.all_eq_true] at q
    obtain ⟨h1, h2, h3, h4⟩ := kVis_ok s q.1.1
    exact nd_callv s.A s.hS s.w (fun k hk => ⟨s.fh k (q.1.2 k hk), q.1.2 k hk⟩) h1 h2 h3 h4 hs (ha.a s q.2)
  | bi b as ha =>
    refine mkE_snd (.inr rfl) fun s x q => ?_
    obtain ⟨y, e1, es, p, pos, rfl, hs, q⟩ := kCall_ok q
    simp only [Bool.and_eq_true, decide_eq_true_eq] at q
    obtain ⟨⟨⟨q1, q2⟩, q3⟩, q6⟩ := q
    exact nd_bi s.A.calm s.hK q1 (kGl_ok s q2) (abs_ok s q3) hs (ha.a s q6)
  | lrg a b ha hb =>
    refine mkE_snd (.inr rfl) fun s x q => ?_
    split at q
    · simp only [Bool.and_eq_true, decide_eq_true_eq, Bool.not_eq_true'] at q
      obtain ⟨⟨⟨⟨⟨⟨⟨⟨⟨q1, q2⟩, q3⟩, q4⟩, q5⟩, q6⟩, q7⟩, q8⟩, q9⟩, q10⟩ := q
      subst q1 q2
      exact nd_lrg s.hK s.A.calm (kGl_ok s q3) (abs_ok s q4) (kGl_ok s q5) (abs_ok s q6) q7 q8 (toB (ha.e s q9)) (toB (hb.e s q10))
    · cases q
  | rng as ha =>
    refine { (mkN_snd : Snd S T Φ dr mkN (C.rng as)) with i := ?_ }
    intro R z X Ed s b tg x q
    obtain ⟨y, e1, es, p, pos, rfl, hs, q⟩ := kCall_ok q
    simp only [Bool.and_eq_true, decide_eq_true_eq] at q
    obtain ⟨⟨⟨⟨q1, q2⟩, q3⟩, q4⟩, q5⟩ := q
    subst q1
    have hs1 := star_none hs
    match es, hs, q4, q5 with
    | [], hs, q4, q5 => exact nd_irng1 (kGl_ok s q2) (abs_ok s q3) hs1 (ha.a s q5) (of_decide_eq_true q4)
    | [e2], hs, q4, q5 =>
      have hs2 : isStar e2 = false := by
        unfold noSt at hs
        simp only [List.all_cons, Bool.and_eq_true, Bool.not_eq_true'] at hs
        exact hs.2.1
      exact nd_irng2 (kGl_ok s q2) (abs_ok s q3) hs1 hs2 (ha.a s q5) (of_decide_eq_true q4)
    | [e2, e3], hs, q4, q5 =>
      have hs23 : isStar e2 = false ∧ isStar e3 = false := by
        unfold noSt at hs
        simp only [List.all_cons, Bool.and_eq_true, Bool.not_eq_true'] at hs
        exact ⟨hs.2.1, hs.2.2.1⟩
      exact nd_irng3 (kGl_ok s q2) (abs_ok s q3) hs1 hs23.1 hs23.2 (ha.a s q5) (of_decide_eq_true q4)
    | _ :: _ :: _ :: _, _, q4, _ => cases q4
  | zip a b ha hb =>
    refine { (mkN_snd : Snd S T Φ dr mkN (C.zip a b)) with i := ?_ }
    intro R z X Ed s bb tg x q
    obtain ⟨y, e1, es, p, pos, rfl, hs, q⟩ := kCall_ok q
    split at q
    · rename_i e2 _
      simp only [Bool.and_eq_true, decide_eq_true_eq, Bool.or_eq_true, Bool.not_eq_true'] at q
      obtain ⟨⟨⟨⟨⟨⟨q0, q1⟩, q2⟩, q3⟩, q4⟩, q5⟩, q6⟩ := q
      subst q1
      have hs1 := star_none hs
      have hs2 : isStar e2 = false := by
        unfold noSt at hs
        simp only [List.all_cons, Bool.and_eq_true, Bool.not_eq_true'] at hs
        exact hs.2.1
      cases bb with
      | true => exact nd_izip (s.sg q0) s.hK (kGl_ok s q2) (abs_ok s q3) hs1 hs2 (rl := rlB R) rlB_ok (.inr ⟨rfl, rfl⟩) (toB (ha.e s q5)) (toB (hb.e s q6))
      | false =>
        rcases q4 with q4 | q4
        · cases q4
        · exact nd_izip (s.sg q0) s.hK (kGl_ok s q2) (abs_ok s q3) hs1 hs2 (rl := rlD R) rlD_ok (.inl ⟨rfl, rfl⟩) (toD (ha.e s q5) q4.1) (toD (hb.e s q6) q4.2)
    · cases q
  | zip3 a b c ha hb hc =>
    refine { (mkN_snd : Snd S T Φ dr mkN (C.zip3 a b c)) with i := ?_ }
    intro R z X Ed s bb tg x q
    obtain ⟨y, e1, es, p, pos, rfl, hs, q⟩ := kCall_ok q
    split at q
    · rename_i e2 e3 _
      simp only [Bool.and_eq_true, decide_eq_true_eq, Bool.not_eq_true'] at q
      obtain ⟨⟨⟨⟨⟨⟨q0, q1⟩, q2⟩, q3⟩, q4⟩, q5⟩, q6⟩ := q
      subst q1
      have hs1 := star_none hs
      have hs23 : isStar e2 = false ∧ isStar e3 = false := by
        unfold noSt at hs
        simp only [List.all_cons, Bool.and_eq_true, Bool.not_eq_true'] at hs
        exact ⟨hs.2.1, hs.2.2.1⟩
      exact nd_izip3 (s.sg q0) s.hK (kGl_ok s q2) (abs_ok s q3) hs1 hs23.1 hs23.2 (toB (ha.e s q4)) (toB (hb.e s q5)) (toB (hc.e s q6))
    · cases q
  | enum a ha =>
    refine { (mkN_snd : Snd S T Φ dr mkN (C.enum a)) with i := ?_ }
    intro R z X Ed s bb tg x q
    obtain ⟨y, e1, es, p, pos, rfl, hs, q⟩ := kCall_ok q
    split at q
    · simp only [Bool.and_eq_true, decide_eq_true_eq, Bool.or_eq_true, Bool.not_eq_true'] at q
      obtain ⟨⟨⟨⟨⟨q0, q1⟩, q2⟩, q3⟩, q4⟩, q5⟩ := q
      subst q1
      have hs1 := star_none hs
      cases bb with
      | true => exact nd_ienum (s.sg q0) s.hK (kGl_ok s q2) (abs_ok s q3) hs1 (rl := rlB R) (.inr ⟨rfl, rfl⟩) (toB (ha.e s q5))
      | false =>
        rcases q4 with q4 | q4
        · cases q4
        · exact nd_ienum (s.sg q0) s.hK (kGl_ok s q2) (abs_ok s q3) hs1 (rl := rlD R) (.inl ⟨rfl, rfl⟩) (toD (ha.e s q5) q4)
    · cases q
  | enumT a ha =>
    refine { (mkN_snd : Snd S T Φ dr mkN (C.enumT a)) with i := ?_ }
    intro R z X Ed s bb tg x q
    obtain ⟨y, e1, es, p, pos, rfl, hs, q⟩ := kCall_ok q
    split at q
    · simp only [Bool.and_eq_true, decide_eq_true_eq] at q
      obtain ⟨⟨⟨q1, q2⟩, q3⟩, q5⟩ := q
      subst q1
      exact nd_ienumT s.hK (kGl_ok s q2) (abs_ok s q3) (star_none hs) (toB (ha.e s q5))
    · cases q
  | rev a ha =>
    refine { (mkN_snd : Snd S T Φ dr mkN (C.rev a)) with i := ?_ }
    intro R z X Ed s bb tg x q
    obtain ⟨y, e1, es, p, pos, rfl, hs, q⟩ := kCall_ok q
    split at q
    · simp only [Bool.and_eq_true, decide_eq_true_eq, Bool.or_eq_true] at q
      obtain ⟨⟨⟨⟨q1, q2⟩, q3⟩, q4⟩, q5⟩ := q
      subst q1
      have hs1 := star_none hs
      cases bb with
      | true => exact nd_irev s.hK (kGl_ok s q2) (abs_ok s q3) hs1 (rl := rlB R) (.inr ⟨rfl, rfl⟩) (toB (ha.e s q5))
      | false =>
        rcases q4 with q4 | q4
        · cases q4
        · exact nd_irev s.hK (kGl_ok s q2) (abs_ok s q3) hs1 (rl := rlD R) (.inl ⟨rfl, rfl⟩) (toD (ha.e s q5) q4)
    · cases q
  | fns ks =>
    refine { (mkN_snd : Snd S T Φ dr mkN (C.fns ks)) with i := ?_ }
    intro R z X Ed s bb tg x q
    simp only [ck] at q
    split at q
    · rw [Bool.and_eq_true, decide_eq_true_eq] at q
      exact nd_ifns s.hK (kFns_ok s q.1) q.2
    · cases q
  | meth m o as ho ha =>
    cases m with
    | count =>
      refine mkE_snd (.inr rfl) fun s x q => ?_
      split at q
      · simp only [Bool.and_eq_true, Bool.not_eq_true', decide_eq_true_eq] at q
        obtain ⟨⟨⟨⟨⟨q0, q1⟩, q2⟩, q3⟩, q4⟩, q5⟩ := q
        have hsg := s.bs.sg
        rw [q0, ← s.hS] at hsg
        exact nd_count hsg q1 s.hK q2 q3 rfl (toB (ho.e s q4)) (ha.a s q5)
      · cases q
    | index =>
      refine mkE_snd (.inr rfl) fun s x q => ?_
      split at q
      · simp only [Bool.and_eq_true, Bool.not_eq_true', decide_eq_true_eq] at q
        obtain ⟨⟨⟨⟨q1, q2⟩, q3⟩, q4⟩, q5⟩ := q
        exact nd_index q1 s.hK q2 q3 rfl (toB (ho.e s q4)) (ha.a s q5)
      · cases q
  | comp own el tg src ifs he hg hs hf =>
    refine mkE_snd (.inr rfl) fun s x q => ?_
    obtain ⟨elt, tge, iter, fs, scope, p, rfl, h1, h2, h3, h4, h5, h6, h7, h8⟩ := kComp_ok (A := ck T dr el) he hs hg hf s q
    exact PEw (pe_lc s.A.calm s.A.nd h1 h2 h3 h4 h5 h6) fun σ H Q h => comp_read h7 h8 h
  | comp2 own vs1 el tg src ifs tg1 src1 ifs1 he hg hs hf hg1 hs1 hf1 =>
    refine mkE_snd (.inr rfl) fun s x q => ?_
    obtain ⟨elt, tge, iter, fs, tge1, iter1, fs1, scope, p, rfl, h1, h2, h3, h4, h5, h6, h7, h8, h9, h10, h11, h12, h13, h14⟩ := kComp2_ok he hs hg hf hs1 hg1 hf1 s q
    exact PEw (pe_lc2 s.A.calm s.A.nd h1 h2 h3 h4 h5 h6 h7 h8 h9 h10 h11) fun σ H Q h => comp2_read h12 h13 h14 h
  | told a ha =>
    refine mkE_snd (.inr rfl) fun s x q => ?_
    split at q
    · simp only [Bool.and_eq_true, decide_eq_true_eq] at q
      obtain ⟨⟨⟨⟨⟨⟨q1, q2⟩, q3⟩, q4⟩, q5⟩, q6⟩, q7⟩ := q
      subst q3
      refine nd_told s (s.lw q1) q2 (kGl_ok s q4) (by rw [s.A.hs]; exact LamX.lamS_by q5) fun s' => toD (ha.e s' q7) q6
    · cases q
  | toldd i a ha =>
    refine mkE_snd (.inr rfl) fun s x q => ?_
    split at q
    · simp only [Bool.and_eq_true, decide_eq_true_eq] at q
      obtain ⟨⟨⟨⟨⟨⟨⟨q1, q2⟩, q3⟩, q4⟩, q5⟩, q8⟩, q6⟩, q7⟩ := q
      subst q3
      refine nd_toldd s (s.lw q1) q2 (kGl_ok s q4) (by rw [s.A.hs]; exact lamD_by q5) (by rw [s.A.hN]; exact kDi_ok q8) fun s' => toD (ha.e s' q7) q6
    · cases q
  | same a b ha hb =>
    refine mkE_snd (.inr rfl) fun s x q => ?_
    obtain ⟨y, e1, es, p, pos, rfl, hs, q⟩ := kCall_ok q
    split at q
    · simp only [Bool.and_eq_true, decide_eq_true_eq] at q
      obtain ⟨⟨⟨⟨⟨q1, q2⟩, q3⟩, q4⟩, q5⟩, q6⟩ := q
      subst q3
      have hs2 := hs
      unfold noSt at hs2
      simp only [List.all_cons, Bool.and_eq_true, Bool.not_eq_true'] at hs2
      exact nd_same s (s.lw q1) q2 (kGl_ok s q4) hs2.1 hs2.2.1 (toB (ha.e s q5)) (toB (hb.e s q6))
    · cases q
  | repr a ha =>
    refine mkE_snd (.inr rfl) fun s x q => ?_
    obtain ⟨y, e1, es, p, pos, rfl, hs, q⟩ := kCall_ok q
    split at q
    · simp only [Bool.and_eq_true, decide_eq_true_eq] at q
      obtain ⟨⟨⟨q1, q2⟩, q3⟩, q4⟩ := q
      subst q2
      exact nd_repr s (s.lw q1) (kGl_ok s q3) (star_none hs) (toB (ha.e s q4))
    · cases q
  | _ => exact mkN_snd
end
end Y

/-! part Y11 -/
set_option Elab.async false
set_option linter.all false
set_option maxRecDepth 100000
set_option maxHeartbeats 1000000
/-! Y11: statements, what they do to slots. -/
namespace Y
open PySem PySem.Spec
open PyProof.Rows hiding St
open L2
def drwS (dr : Nat → Nat) : S → Nat
  | .seq s r => drwS dr s + drwS dr r
  | .asg _ c => drw dr c
  | .asgL _ c => drw dr c
  | .unp _ c => drw dr c
  | .par _ _ a b => drw dr a + drw dr b
  | .par3 _ _ _ a b c => drw dr a + (drw dr b + drw dr c)
  | .aug _ _ c => drw dr c
  | .app _ c => drw dr c
  | .ext _ c => drw dr c
  | .seti _ ci c => drw dr c + drw dr ci
  | .rem _ c => drw dr c
  | .expr c => drw dr c
  | .ite t a b => drw dr t + (drwS dr a + drwS dr b)
  | .for_ _ src body => drw dr src + manyD * drwS dr body
  | .while_ t body => drw dr t + drwS dr body
  | .ret c => drw dr c
  | .raise _ as => drw dr as
  | _ => 0
section
variable {R : RT} {F F' F1 F2 : Addr → Prop} {H H' H1 H2 : Hp} {σ σ' σ1 σ2 : St} {ρ ρ' ρ1 ρ2 : Ev} {n m : Nat}
/-- behind a statement -/
structure NxS (R : RT) (m : Nat) (F : Addr → Prop) (H : Hp) (σ' : St) (ρ' : Ev) (F' : Addr → Prop) (H' : Hp) : Prop where
  env : EnvOk R m F' σ' H' ρ'
  keep : Keep F H H'
  sub : ∀ a, F a → F' a
theorem Keep.refl : Keep F H H := fun _ _ e _ => e
theorem Keep.trans (a : Keep F H H1) (s : ∀ a, F a → F1 a) (b : Keep F1 H1 H2) : Keep F H H2 := fun c o e h => b c o (a c o e h) (h.imp (s c) id)
theorem NxS.refl (E : EnvOk R n F σ H ρ) : NxS R n F H σ ρ F H := ⟨E, .refl, fun _ h => h⟩
theorem NxS.mono (x : NxS R n F H σ' ρ' F' H') (l : n ≤ m) : NxS R m F H σ' ρ' F' H' := ⟨x.env.mono l, x.keep, x.sub⟩
theorem NxS.trans (x : NxS R n F H σ1 ρ1 F1 H1) (y : NxS R m F1 H1 σ2 ρ2 F2 H2) : NxS R m F H σ2 ρ2 F2 H2 := ⟨y.env, x.keep.trans x.sub y.keep, fun a h => y.sub a (x.sub a h)⟩
theorem Nxt.nxs (E : EnvOk R n F σ H ρ) (x : Nxt R m σ ρ F H F' H') : NxS R m F H σ ρ F' H' := ⟨x.env, E.keep x.ext, x.sub⟩
theorem set_get {α : Type} {l : List (Option α)} {i j : Nat} {v : Option α} {s : α} (h : (l.set i v)[j]? = some (some s)) : (j = i ∧ v = some s) ∨ (j ≠ i ∧ l[j]? = some (some s)) := by
  by_cases e : j = i
  · subst e
    by_cases hl : j < l.length
    · rw [List.getElem?_set_self hl] at h
      exact .inl ⟨rfl, Option.some.inj h⟩
    · rw [List.getElem?_eq_none (by rw [List.length_set]; omega)] at h
      cases h
  · rw [List.getElem?_set_ne (Ne.symm e)] at h
    exact .inr ⟨e, h⟩
/-- a list of its own in a slot -/
theorem EnvOk.setOw (E : EnvOk R n F σ H ρ) {a : Addr} {vs : List V} {ps : List PyData} (h1 : H a = some (.lst vs)) (h2 : RpAll R.sg R.K F H vs ps) (h3 : ¬ F a) (h4 : R.H0 a = none) (ho : ∀ (j : Nat) (qs : List PyData), ρ[j]? = some (some (Sl.ow qs)) → σ[j]? ≠ some (some (V.ref a))) (i : Nat) :
    EnvOk R n F (σ.set i (some (.ref a))) H (ρ.set i (some (.ow ps))) := by
  refine ⟨E.ext, E.st, E.s0, E.fs, E.fr, E.new, by rw [List.length_set, List.length_set]; exact E.len, fun j s h => ?_, fun j k b qs rs g1 g2 g3 g4 => ?_⟩
  · rcases set_get h with ⟨e1, e2⟩ | ⟨e1, e2⟩
    · subst e1
      cases e2
      refine ⟨a, vs, ?_, h1, h2, h3, h4⟩
      have hl : j < σ.length := by
        rw [← E.len]
        have := (List.getElem?_eq_some_iff.mp h).1
        rw [List.length_set] at this
        exact this
      rw [List.getElem?_set_self hl]
    · have q := E.slot j s e2
      cases s with
      | sh d =>
        obtain ⟨v, q1, q2⟩ := q
        exact ⟨v, by rw [List.getElem?_set_ne (Ne.symm e1)]; exact q1, q2⟩
      | ow qs =>
        obtain ⟨b, ws, q1, q2⟩ := q
        exact ⟨b, ws, by rw [List.getElem?_set_ne (Ne.symm e1)]; exact q1, q2⟩
  · rcases set_get g1 with ⟨e1, e2⟩ | ⟨e1, e2⟩
    · rcases set_get g2 with ⟨f1, f2⟩ | ⟨f1, f2⟩
      · rw [e1, f1]
      · subst e1
        have hj : (σ.set j (some (.ref a)))[j]? = some (some (.ref b)) := g3
        have hl : j < σ.length := by
          have := (List.getElem?_eq_some_iff.mp hj).1
          rw [List.length_set] at this
          exact this
        rw [List.getElem?_set_self hl] at g3
        cases g3
        rw [List.getElem?_set_ne (Ne.symm f1)] at g4
        exact absurd g4 (ho k rs f2)
    · rcases set_get g2 with ⟨f1, f2⟩ | ⟨f1, f2⟩
      · subst f1
        have hj : (σ.set k (some (.ref a)))[k]? = some (some (.ref b)) := g4
        have hl : k < σ.length := by
          have := (List.getElem?_eq_some_iff.mp hj).1
          rw [List.length_set] at this
          exact this
        rw [List.getElem?_set_self hl] at g4
        cases g4
        rw [List.getElem?_set_ne (Ne.symm e1)] at g3
        exact absurd g3 (ho j qs e2)
      · rw [List.getElem?_set_ne (Ne.symm e1)] at g3
        rw [List.getElem?_set_ne (Ne.symm f1)] at g4
        exact E.apart j k b qs rs e2 f2 g3 g4
/-- a slot's own list is written -/
theorem EnvOk.write (E : EnvOk R n F σ H ρ) {i : Nat} {a : Addr} {vs ws : List V} {ps qs : List PyData} (hi : ρ[i]? = some (some (.ow ps))) (hs : σ[i]? = some (some (.ref a))) (h1 : H a = some (.lst vs)) (h2 : RpAll R.sg R.K F H ws qs) :
    NxS R n F H σ (ρ.set i (some (.ow qs))) F (L2.upd H a (.lst ws)) := by
  obtain ⟨a', vs', q1, q2, q3, q4, q5⟩ := E.slot i _ hi
  rw [hs] at q1
  cases q1
  have np : ∀ b o, H b = some o → (F b ∨ solid o) → b ≠ a := fun b o q h z => by
    subst z
    rcases h with h | h
    · exact q4 h
    · rw [h1] at q
      cases q
      exact h
  have k : Keep F H (L2.upd H a (.lst ws)) := fun b o q h => by
    rw [upd_ne (np b o q h)]
    exact q
  have n0 : ∀ b, R.H0 b ≠ none → b ≠ a := fun b h z => h (z ▸ q5)
  refine ⟨⟨fun b o q hn => ?_, E.st.put (fun s b es => ⟨n0 s (E.s0.1 s b es).1, n0 b (E.s0.1 s b es).2⟩) (fun o' q => by rw [h1] at q; cases q; exact ⟨_, rfl⟩), E.s0, E.fs, fun b hb => ?_, E.new, by rw [List.length_set]; exact E.len, fun j s h => ?_, fun j l b rs ts g1 g2 g3 g4 => ?_⟩, k, fun _ h => h⟩
  · rw [upd_ne (n0 b (by rw [q]; exact fun z => nomatch z))]
    exact E.ext b o q hn
  · rw [upd_ne (fun z => q4 (by rw [← z]; exact hb))]
    exact E.fr b hb
  · rcases set_get h with ⟨e1, e2⟩ | ⟨e1, e2⟩
    · subst e1
      cases e2
      exact ⟨a, ws, hs, upd_same, h2.mono k fun _ h => h, q4, q5⟩
    · have q := E.slot j s e2
      cases s with
      | sh d =>
        obtain ⟨v, q1, q2⟩ := q
        exact ⟨v, q1, q2.mono k fun _ h => h⟩
      | ow rs =>
        obtain ⟨b, us, q1, q2, q3, q4, q5⟩ := q
        refine ⟨b, us, q1, ?_, q3.mono k fun _ h => h, q4, q5⟩
        have : b ≠ a := fun z => e1 (E.apart j i a rs ps e2 hi (by rw [← z]; exact q1) hs)
        rw [upd_ne this]
        exact q2
  · have o1 : ∃ rs', ρ[j]? = some (some (.ow rs')) := by
      rcases set_get g1 with ⟨e1, e2⟩ | ⟨e1, e2⟩
      · subst e1; exact ⟨_, hi⟩
      · exact ⟨_, e2⟩
    have o2 : ∃ rs', ρ[l]? = some (some (.ow rs')) := by
      rcases set_get g2 with ⟨e1, e2⟩ | ⟨e1, e2⟩
      · subst e1; exact ⟨_, hi⟩
      · exact ⟨_, e2⟩
    obtain ⟨r1, o1⟩ := o1
    obtain ⟨r2, o2⟩ := o2
    exact E.apart j l b r1 r2 o1 o2 g3 g4
/-- a slot's own list is frozen -/
theorem EnvOk.frz (E : EnvOk R n F σ H ρ) {i : Nat} {ps : List PyData} (hi : ρ[i]? = some (some (.ow ps))) : ∃ F', NxS R n F H σ (ρ.set i (some (.sh (.L ps)))) F' H := by
  obtain ⟨a, vs, q1, q2, q3, q4, q5⟩ := E.slot i _ hi
  have hn : NotS R.sa a := E.s0.notS q5
  refine ⟨fun b => F b ∨ b = a, ⟨E.ext, E.st, E.s0, fun b hb => ?_, fun b hb => ?_, fun b hb => ?_, by rw [List.length_set]; exact E.len, fun j s h => ?_, fun j l b rs ts g1 g2 g3 g4 => ?_⟩, .refl, fun _ h => .inl h⟩
  · rcases hb with z | z
    · exact E.fs b z
    · rw [z]; exact hn
  · rcases hb with z | z
    · exact E.fr b z
    · rw [z, q2]; exact fun z => nomatch z
  · rcases hb with z | z
    · exact E.new b z
    · rw [z]; exact .inr q5
  · rcases set_get h with ⟨e1, e2⟩ | ⟨e1, e2⟩
    · subst e1
      cases e2
      exact ⟨_, q1, .lst q2 (.inr rfl) (q3.mono .refl fun _ h => .inl h)⟩
    · have q := E.slot j s e2
      cases s with
      | sh d =>
        obtain ⟨v, q1, q2⟩ := q
        exact ⟨v, q1, q2.mono .refl fun _ h => .inl h⟩
      | ow rs =>
        obtain ⟨b, us, r1, r2, r3, r4, r5⟩ := q
        refine ⟨b, us, r1, r2, r3.mono .refl fun _ h => .inl h, ?_, r5⟩
        rintro (z | z)
        · exact r4 z
        · exact e1 (E.apart j i a rs ps e2 hi (by rw [← z]; exact r1) q1)
  · rcases set_get g1 with ⟨e1, e2⟩ | ⟨e1, e2⟩
    · cases e2
    · rcases set_get g2 with ⟨f1, f2⟩ | ⟨f1, f2⟩
      · cases f2
      · exact E.apart j l b rs ts e2 f2 g3 g4
end
section
variable (Φ : Nat → List D → (D → Prop) → (Nat → Prop) → Prop) (dr : Nat → Nat)
/-- a statement's reading -/
def TSx (R : RT) (Ed : Nat → Prop) (s : S) : TS := fun D σ H => ∃ (n : Nat) (F : Addr → Prop) (ρ : Ev) (En : En), EnvOk R n F σ H ρ ∧ n + drwS dr s ≤ R.nb ∧ wpS Φ exName s ρ En ∧ En.ex = Ed ∧
  (∀ ρ' σ' F' H', En.nx ρ' → NxS R (n + drwS dr s) F H σ' ρ' F' H' → D.nx σ' H') ∧
  (∀ ρ' σ' F' H', En.bk ρ' → NxS R (n + drwS dr s) F H σ' ρ' F' H' → D.bk σ' H') ∧
  (∀ ρ' σ' F' H', En.ct ρ' → NxS R (n + drwS dr s) F H σ' ρ' F' H' → D.ct σ' H') ∧
  (∀ d v ρ' σ' F' H', En.rt d → NxS R (n + drwS dr s) F H σ' ρ' F' H' → RD R F' H' v d → D.rt v H')
end
section
variable {Φ : Nat → List D → (D → Prop) → (Nat → Prop) → Prop} {dr : Nat → Nat}
variable {X : Cx} {R : RT} {z : Pz} {Ed : Nat → Prop} {e l r : Expr} {es : List Expr} {a b c : C} {s t : S} {pos p : Pos} {st : Stmt} {sts : List Stmt}
theorem ns_nil : PSs X [] (TSx Φ dr R Ed .nil) := PSsw pss_nil fun D σ H ⟨n, F, ρ, En, E, hn, hw, he, k1, k2, k3, k4⟩ => k1 ρ σ F H hw (NxS.refl (by simpa [drwS] using E))
theorem ns_seq (h1 : PS X st (TSx Φ dr R Ed s)) (h2 : PSs X sts (TSx Φ dr R Ed t)) : PSs X (st :: sts) (TSx Φ dr R Ed (.seq s t)) :=
  PSsw (pss_cons h1 h2) fun D σ H ⟨n, F, ρ, En, E, hn, hw, he, k1, k2, k3, k4⟩ => by
    simp only [wpS] at hw
    simp only [drwS] at hn k1 k2 k3 k4
    refine ⟨n, F, ρ, _, E, by omega, hw, he, fun ρ1 σ1 F1 H1 q1 x1 => ?_, fun ρ1 σ1 F1 H1 q1 x1 => k2 _ _ _ _ q1 (x1.mono (by omega)), fun ρ1 σ1 F1 H1 q1 x1 => k3 _ _ _ _ q1 (x1.mono (by omega)), fun d v ρ1 σ1 F1 H1 q1 x1 r1 => k4 _ _ _ _ _ _ q1 (x1.mono (by omega)) r1⟩
    refine ⟨_, F1, ρ1, _, x1.env, by omega, q1, he, fun ρ2 σ2 F2 H2 q2 x2 => k1 _ _ _ _ q2 ((x1.trans x2).mono (by omega)), fun ρ2 σ2 F2 H2 q2 x2 => k2 _ _ _ _ q2 ((x1.trans x2).mono (by omega)), fun ρ2 σ2 F2 H2 q2 x2 => k3 _ _ _ _ q2 ((x1.trans x2).mono (by omega)), fun d v ρ2 σ2 F2 H2 q2 x2 r2 => k4 _ _ _ _ _ _ q2 ((x1.trans x2).mono (by omega)) r2⟩
theorem ns_frz {i : Nat} (h2 : PSs X sts (TSx Φ dr R Ed t)) : PSs X sts (TSx Φ dr R Ed (.seq (.frz i) t)) :=
  PSsw h2 fun D σ H ⟨n, F, ρ, En, E, hn, hw, he, k1, k2, k3, k4⟩ => by
    simp only [wpS] at hw
    simp only [drwS, Nat.zero_add] at hn k1 k2 k3 k4
    split at hw
    · rename_i ps hi
      obtain ⟨F1, x1⟩ := E.frz hi
      exact ⟨n, F1, _, En, x1.env, hn, hw, he, fun ρ2 σ2 F2 H2 q2 x2 => k1 _ _ _ _ q2 (x1.trans x2), fun ρ2 σ2 F2 H2 q2 x2 => k2 _ _ _ _ q2 (x1.trans x2), fun ρ2 σ2 F2 H2 q2 x2 => k3 _ _ _ _ q2 (x1.trans x2), fun d v ρ2 σ2 F2 H2 q2 x2 r2 => k4 _ _ _ _ _ _ q2 (x1.trans x2) r2⟩
    · exact ⟨n, F, ρ, En, E, hn, hw, he, k1, k2, k3, k4⟩
theorem ns_pass (h : PS X st tNext) : PS X st (TSx Φ dr R Ed .pass) := PSw h fun D σ H ⟨n, F, ρ, En, E, hn, hw, he, k1, k2, k3, k4⟩ => k1 ρ σ F H hw (NxS.refl (by simpa [drwS] using E))
theorem ns_brk : PS X (.Break pos) (TSx Φ dr R Ed .brk) := PSw ps_break fun D σ H ⟨n, F, ρ, En, E, hn, hw, he, k1, k2, k3, k4⟩ => k2 ρ σ F H hw (NxS.refl (by simpa [drwS] using E))
theorem ns_cont : PS X (.Continue pos) (TSx Φ dr R Ed .cont) := PSw ps_continue fun D σ H ⟨n, F, ρ, En, E, hn, hw, he, k1, k2, k3, k4⟩ => k3 ρ σ F H hw (NxS.refl (by simpa [drwS] using E))
theorem ns_ret (ha : PE X e (TEx Φ exName dr R (rlD R) Ed c)) : PS X (.Return (some e) pos) (TSx Φ dr R Ed (.ret c)) :=
  PSw (ps_ret ha) fun D σ H ⟨n, F, ρ, En, E, hn, hw, he, k1, k2, k3, k4⟩ => by
    subst he
    exact ⟨n, F, ρ, _, E, hn, hw, fun d v F' H' q x r => k4 d v ρ σ F' H' q (x.nxs E) r⟩
theorem ns_retN : PS X (.Return none pos) (TSx Φ dr R Ed (.ret (.lit .none))) :=
  PSw ps_retN fun D σ H ⟨n, F, ρ, En, E, hn, hw, he, k1, k2, k3, k4⟩ => k4 .N .non ρ σ F H hw (NxS.refl (by simpa [drwS, drw] using E)) .non
theorem ns_expr {rl : Rl} (ha : PE X e (TEx Φ exName dr R rl Ed c)) (hs : swapsWith e none pos.line X.env = pure false) : PS X (.Expr e pos) (TSx Φ dr R Ed (.expr c)) :=
  PSw (ps_expr ha hs) fun D σ H ⟨n, F, ρ, En, E, hn, hw, he, k1, k2, k3, k4⟩ => by
    subst he
    exact ⟨n, F, ρ, _, E, hn, hw, fun d v F' H' q x r => k1 ρ σ F' H' q (x.nxs E)⟩
theorem ns_if {et : Expr} {as bs : List Stmt} (ht : PT X et (TTx Φ exName dr R Ed c)) (ha : PSs X as (TSx Φ dr R Ed s)) (hb : PSs X bs (TSx Φ dr R Ed t)) : PS X (.If et as bs pos) (TSx Φ dr R Ed (.ite c s t)) :=
  PSw (ps_if ht ha hb) fun D σ H ⟨n, F, ρ, En, E, hn, hw, he, k1, k2, k3, k4⟩ => by
    subst he
    simp only [wpS] at hw
    simp only [drwS] at hn k1 k2 k3 k4
    refine ⟨n, F, ρ, _, E, by omega, hw, fun d F1 H1 q1 x1 => ?_⟩
    split at q1
    · rename_i kb
      refine ⟨kb, rfl, ?_⟩
      have y1 := x1.nxs E
      cases kb with
      | true =>
        simp only [if_true] at q1 ⊢
        exact ⟨_, F1, ρ, _, x1.env, by omega, q1, rfl, fun ρ2 σ2 F2 H2 q2 x2 => k1 _ _ _ _ q2 ((y1.trans x2).mono (by omega)), fun ρ2 σ2 F2 H2 q2 x2 => k2 _ _ _ _ q2 ((y1.trans x2).mono (by omega)), fun ρ2 σ2 F2 H2 q2 x2 => k3 _ _ _ _ q2 ((y1.trans x2).mono (by omega)), fun d v ρ2 σ2 F2 H2 q2 x2 r2 => k4 _ _ _ _ _ _ q2 ((y1.trans x2).mono (by omega)) r2⟩
      | false =>
        simp only [Bool.false_eq_true, if_false] at q1 ⊢
        exact ⟨_, F1, ρ, _, x1.env, by omega, q1, rfl, fun ρ2 σ2 F2 H2 q2 x2 => k1 _ _ _ _ q2 ((y1.trans x2).mono (by omega)), fun ρ2 σ2 F2 H2 q2 x2 => k2 _ _ _ _ q2 ((y1.trans x2).mono (by omega)), fun ρ2 σ2 F2 H2 q2 x2 => k3 _ _ _ _ q2 ((y1.trans x2).mono (by omega)), fun d v ρ2 σ2 F2 H2 q2 x2 r2 => k4 _ _ _ _ _ _ q2 ((y1.trans x2).mono (by omega)) r2⟩
    · exact q1.elim
/-! ### stores -/
theorem asg_ok {i : Nat} {D : Ends} {σ : St} {H : Hp} (h : TSx Φ dr R Ed (.asg i c) D σ H) : tAsg (TEx Φ exName dr R (rlD R) Ed c) (gName i) D σ H := by
  obtain ⟨n, F, ρ, En, E, hn, hw, he, k1, k2, k3, k4⟩ := h
  subst he
  refine ⟨n, F, ρ, _, E, hn, hw, fun d v F' H' q x r => ?_⟩
  have y := x.nxs E
  exact k1 _ _ F' H' q ⟨x.env.set r i, y.keep, y.sub⟩
theorem asgL_ok {i : Nat} {D : Ends} {σ : St} {H : Hp} (h : TSx Φ dr R Ed (.asgL i c) D σ H) : tAsg (TEx Φ exName dr R (rlN R) Ed c) (gName i) D σ H := by
  obtain ⟨n, F, ρ, En, E, hn, hw, he, k1, k2, k3, k4⟩ := h
  subst he
  refine ⟨n, F, ρ, _, E, hn, hw, fun d v F' H' q x r => ?_⟩
  have y := x.nxs E
  split at q
  · rename_i ps
    rcases r with ⟨_, r⟩ | ⟨a, vs, qs, e1, e2, h3, h4, h5, h6⟩
    · exact absurd rfl (r ps)
    · cases e1
      subst e2
      refine k1 _ _ F' H' q ⟨x.env.setOw h4 h6 h5 (E.h0 h3) ?_ i, y.keep, y.sub⟩
      exact E.ownH h3
  · exact q.elim
theorem ns_unp {tg : Expr} {tgC : C} (he : PE X e (TEx Φ exName dr R (rlD R) Ed c)) (hg : PG X tg (TGx R tgC)) (hs : swapsWithSole [tg] e pos.line X.env = pure false) (hw : swappedStores [tg] e X.env = pure none) (h1 : (assignEach [tg] X.env).map (·.2) = [assign tg X.env]) :
    PS X (.Assign [tg] e pos) (TSx Φ dr R Ed (.unp tgC c)) :=
  PSw (ps_asg he hg hs hw h1) fun D σ H ⟨n, F, ρ, En, E, hn, hw, he, k1, k2, k3, k4⟩ => by
    subst he
    refine ⟨n, F, ρ, _, E, hn, hw, fun d v F' H' q x r => ?_⟩
    have y := x.nxs E
    exact ⟨_, F', ρ, d, _, x.env, r, q, fun σ' ρ' q' E' u ul => k1 ρ' σ' F' H' q' ⟨E', y.keep, y.sub⟩⟩
theorem par_ok {i j : Nat} {D : Ends} {σ : St} {H : Hp} (h : TSx Φ dr R Ed (.par i j a b) D σ H) : tPar i j (TAx Φ exName dr R (rlD R) Ed (.cons a (.cons b .nil))) D σ H := by
  obtain ⟨n, F, ρ, En, E, hn, hw, he, k1, k2, k3, k4⟩ := h
  subst he
  simp only [wpS] at hw
  simp only [drwS] at hn k1
  refine ⟨n, F, ρ, fun d => match d with | .args [x, y] => En.nx ((ρ.set i (some (.sh x))).set j (some (.sh y))) | _ => False, E, by simp only [drw]; omega, hw, fun ds vs F' H' q x r hl => ?_⟩
  match ds, q with
  | [d1, d2], q =>
    obtain ⟨v, w, rfl, r1, r2⟩ := ra2 r
    exact ⟨v, w, rfl, k1 _ _ F' H' q ⟨(((x.env.set r1 i).set r2 j)).mono (by simp only [drw]; omega), (x.nxs E).keep, x.sub⟩⟩
theorem par3_ok {i j l : Nat} {a b c : C} {D : Ends} {σ : St} {H : Hp} (h : TSx Φ dr R Ed (.par3 i j l a b c) D σ H) : L2.tPar3 i j l (TAx Φ exName dr R (rlD R) Ed (.cons a (.cons b (.cons c .nil)))) D σ H := by
  obtain ⟨n, F, ρ, En, E, hn, hw, he, k1, k2, k3, k4⟩ := h
  subst he
  simp only [wpS] at hw
  simp only [drwS] at hn k1
  refine ⟨n, F, ρ, fun d => match d with | .args [x, y, z] => En.nx (((ρ.set i (some (.sh x))).set j (some (.sh y))).set l (some (.sh z))) | _ => False, E, by simp only [drw]; omega, hw, fun ds vs F' H' q x r hl => ?_⟩
  match ds, q with
  | [d1, d2, d3], q =>
    obtain ⟨u, v, w, rfl, r1, r2, r3⟩ := ra3 r
    exact ⟨u, v, w, rfl, k1 _ _ F' H' q ⟨((((x.env.set r1 i).set r2 j)).set r3 l).mono (by simp only [drw]; omega), (x.nxs E).keep, x.sub⟩⟩
end
end Y

/-! part Y12 -/
set_option Elab.async false
set_option linter.all false
set_option maxRecDepth 100000
set_option maxHeartbeats 1000000
/-! Y12: in-place operations, lists written, loops, raise. -/
namespace Y
open PySem PySem.Spec
open PyProof.Rows hiding St
open L2
def rAug : BO → TIp
  | .add => fun x y H Q => ∃ i j, x = .int i ∧ y = .int j ∧ Q (.int (i + j)) H
  | .sub => fun x y H Q => ∃ i j, x = .int i ∧ y = .int j ∧ Q (.int (i - j)) H
  | .mul => fun x y H Q => ∃ i j, x = .int i ∧ y = .int j ∧ CMulX i j ∧ Q (.int (i * j)) H
  | .fdiv => fun x y H Q => ∃ i j, x = .int i ∧ y = .int j ∧ CDivG i j ∧ Q (.int (i.fdiv j)) H
  | _ => fun _ _ _ _ => False
theorem ip_aug {X : Cx} (op : BO) : PIp X (opM op) (rAug op) := by
  cases op with
  | add => exact ip_add
  | sub => exact ip_sub
  | mul =>
    intro pins s σ H x y v u Q I r1 r2 h
    obtain ⟨i, j, rfl, rfl, hc, q⟩ := h
    obtain ⟨t, rfl⟩ := r1
    obtain ⟨t', rfl⟩ := r2
    exact AutoIntOps.imul_0 (s := s) ⟨.int (i * j), H, I.tok _, ⟨_, rfl⟩, q⟩ hc.ok
  | fdiv =>
    intro pins s σ H x y v u Q I r1 r2 h
    obtain ⟨i, j, rfl, rfl, hc, q⟩ := h
    obtain ⟨t, rfl⟩ := r1
    obtain ⟨t', rfl⟩ := r2
    refine AutoIntOps.ifloordiv_1 (s := s) (fun z => hc.1 (eq_of_beq z)) ?_ ⟨.int (i.fdiv j), H, I.tok _, ⟨_, rfl⟩, q⟩
    intro z
    have := PyProof.noPylong_of_log2 (x := i) hc.2
    rw [this] at z
    cases z
  | mod => intro pins s σ H x y v u Q I r1 r2 h; exact h.elim
  | pow => intro pins s σ H x y v u Q I r1 r2 h; exact h.elim
section
variable {Φ : Nat → List D → (D → Prop) → (Nat → Prop) → Prop} {dr : Nat → Nat}
variable {X : Cx} {R : RT} {z : Pz} {Ed : Nat → Prop} {e l r : Expr} {es : List Expr} {a b c : C} {s t : S} {pos p : Pos} {st : Stmt} {sts : List Stmt}
theorem ns_aug {i : Nat} {x : Str} {op : BO} (hN : X.N.Nodup) (hi : X.N[i]? = some x) (hx : L2.Loc X.env.scope x) (hf : X.fn x = true ∨ X.env.scope.names.lookup x = some .local) (ha : PE X e (TEx Φ exName dr R (rlD R) Ed c)) : PS X (.AugAssign (.Name x p) (opM op) e pos) (TSx Φ dr R Ed (.aug i op c)) :=
  PSw (ps_aug hN hi hx ha (ip_aug op) hf) fun D σ H ⟨n, F, ρ, En, E, hn, hw, he, k1, k2, k3, k4⟩ => by
    subst he
    simp only [wpS, getV] at hw
    simp only [drwS] at hn k1
    split at hw
    · rename_i d hd
      obtain ⟨v, h1, h2⟩ := E.slot i _ hd
      refine ⟨v, h1, n, F, ρ, _, E, hn, hw, fun d2 y F1 H1 q x r => ?_⟩
      have y1 := x.nxs E
      have r0 : RD R F1 H1 v d := h2.mono (E.keep x.ext) x.sub
      have fin : ∀ k : Int, En.nx (ρ.set i (some (.sh (.I k)))) → D.nx (σ.set i (some (.int k))) H1 := fun k q => k1 _ _ F1 H1 q ⟨x.env.set (d := .I k) (Rp.int k) i, y1.keep, y1.sub⟩
      unfold augD at q
      split at q
      · cases (RB.int (.inl r0)); cases (RB.int (.inl r)); exact ⟨_, _, rfl, rfl, fin _ q⟩
      · cases (RB.int (.inl r0)); cases (RB.int (.inl r)); exact ⟨_, _, rfl, rfl, fin _ q⟩
      · cases (RB.int (.inl r0)); cases (RB.int (.inl r)); exact ⟨_, _, rfl, rfl, q.1, fin _ q.2⟩
      · cases (RB.int (.inl r0)); cases (RB.int (.inl r)); exact ⟨_, _, rfl, rfl, q.1, fin _ q.2⟩
      · exact q.elim
    · exact hw.elim
/-! ### lists written -/
/-- the bare slot -/
theorem own_var {i : Nat} {x : Str} (hN : X.N[i]? = some x) (hv : Vis X.env.scope x) (hd : (x == ("__debug__" : Str)) = false) (hcd : (x == ("__classdict__" : Str)) = false) : PE X (.Name x p) (tVar i) := pe_var hN hv hd hcd
/-- a method's call that no star, no super is in -/
theorem kw_nil {cpos : Pos} {es : List Expr} {env : Env} (h : es.all (fun e => !isStar e) = true) (hl : es.length < 29) :
    ((backTo cpos (starEach es env)).all (fun x => !x.1) && (backToKw cpos (keywordEach [] env)).all (fun x => x.1.isSome) && decide (es.length + ([] : List Keyword).length + (if ([] : List Keyword).isEmpty then 0 else 1) < 30)) = true := by
  have h1 : (backTo cpos (starEach es env)).all (fun x => !x.1) = true := by
    induction es with
    | nil => rfl
    | cons e es ih =>
      rw [List.all_cons, Bool.and_eq_true, Bool.not_eq_true'] at h
      rw [each_plain h.1]
      show (!false && (backTo cpos (starEach es env)).all (fun x => !x.1)) = true
      rw [ih h.2 (by rw [List.length_cons] at hl; omega)]
      rfl
  rw [h1]
  have : es.length + ([] : List Keyword).length + (if ([] : List Keyword).isEmpty then 0 else 1) < 30 := by
    show es.length + 0 + 0 < 30
    omega
  rw [decide_eq_true this]
  rfl
theorem ns_app {i : Nat} {x m : Str} {ap cp : Pos} (hm : m = "append") (hN : X.N[i]? = some x) (hv : Vis X.env.scope x) (hd : (x == ("__debug__" : Str)) = false) (hcd : (x == ("__classdict__" : Str)) = false) (hs : isStar e = false) (hline : (ap.endLine == cp.line) = true)
    (ha : PE X e (TEx Φ exName dr R (rlD R) Ed c)) : PS X (.Expr (.Call (.Attribute (.Name x p) m ap) [e] [] cp) pos) (TSx Φ dr R Ed (.app i c)) := by
  subst hm
  have hall : [e].all (fun e => !isStar e) = true := by rw [List.all_cons, hs]; rfl
  refine PSw (ps_expr (pe_bm PySem.F.plainAttrs_list PySem.F.slot_list_append PySem.F.type_list_append mt_append (own_var hN hv hd hcd) (pa_cons ha pa_nil (each_plain hs)) rfl (kw_nil hall (by show 1 < 29; decide)) hline (each_plain hs) rfl) rfl) fun D σ H ⟨n, F, ρ, En, E, hn, hw, he, k1, k2, k3, k4⟩ => ?_
  subst he
  simp only [wpS] at hw
  simp only [drwS] at hn k1
  split at hw
  · rename_i ps hi
    obtain ⟨a0, vs, q1, q2, q3, q4, q5⟩ := E.slot i _ hi
    refine ⟨_, q1, .inl ⟨rfl, vs, SqL.of q2⟩, n, F, ρ, _, E, hn, hw, fun d v F1 H1 q x r => ?_⟩
    have y := x.nxs E
    split at q
    · rename_i pp
      obtain ⟨a1, vs1, g1, g2, g3, g4, g5⟩ := x.env.slot i _ hi
      rw [q1] at g1
      cases g1
      refine ⟨a0, vs1, v, rfl, rfl, g2, by rw [g3.length]; exact q.1, ?_⟩
      exact k1 _ _ F1 _ q.2 (y.trans (x.env.write hi q1 g2 (g3.append (.cons r .nil))))
    · exact q.elim
  · exact hw.elim
theorem ns_rem {i : Nat} {x m : Str} {ap cp : Pos} (hu : X.A.units + 100 < cLine) (hK : X.K = R.K) (hm : m = "remove") (hN : X.N[i]? = some x) (hv : Vis X.env.scope x) (hd : (x == ("__debug__" : Str)) = false) (hcd : (x == ("__classdict__" : Str)) = false) (hs : isStar e = false) (hline : (ap.endLine == cp.line) = true)
    (ha : PE X e (TEx Φ exName dr R (rlB R) Ed c)) : PS X (.Expr (.Call (.Attribute (.Name x p) m ap) [e] [] cp) pos) (TSx Φ dr R Ed (.rem i c)) := by
  subst hm
  have hall : [e].all (fun e => !isStar e) = true := by rw [List.all_cons, hs]; rfl
  refine PSw (ps_expr (pe_bm PySem.F.plainAttrs_list PySem.F.slot_list_remove PySem.F.type_list_remove (mt_remove hu) (own_var hN hv hd hcd) (pa_cons ha pa_nil (each_plain hs)) rfl (kw_nil hall (by show 1 < 29; decide)) hline (each_plain hs) rfl) rfl) fun D σ H ⟨n, F, ρ, En, E, hn, hw, he, k1, k2, k3, k4⟩ => ?_
  subst he
  simp only [wpS] at hw
  simp only [drwS] at hn k1
  split at hw
  · rename_i ps hi
    obtain ⟨a0, vs, q1, q2, q3, q4, q5⟩ := E.slot i _ hi
    refine ⟨_, q1, .inl ⟨rfl, vs, SqL.of q2⟩, n, F, ρ, _, E, hn, hw, fun d v F1 H1 q x r => ?_⟩
    have y := x.nxs E
    split at q
    · rename_i pp
      obtain ⟨⟨s1, s2, s3, s4⟩, j, hj, q⟩ := q
      obtain ⟨a1, vs1, g1, g2, g3, g4, g5⟩ := x.env.slot i _ hi
      rw [q1] at g1
      cases g1
      refine ⟨a0, vs1, v, ps, pp, j, rfl, rfl, g2, by rw [hK]; exact g3.dp, by rw [hK]; exact RB.dp r, s3, s4, s1, hj, ?_⟩
      exact k1 _ _ F1 _ q (y.trans (x.env.write hi q1 g2 (g3.erase j)))
    · exact q.elim
  · exact hw.elim
theorem ns_ext {i : Nat} {x m : Str} {ap cp : Pos} (hm : m = "extend") (hN : X.N[i]? = some x) (hv : Vis X.env.scope x) (hd : (x == ("__debug__" : Str)) = false) (hcd : (x == ("__classdict__" : Str)) = false) (hs : isStar e = false) (hline : (ap.endLine == cp.line) = true)
    (ha : PE X e (TEx Φ exName dr R (rlB R) Ed c)) : PS X (.Expr (.Call (.Attribute (.Name x p) m ap) [e] [] cp) pos) (TSx Φ dr R Ed (.ext i c)) := by
  subst hm
  have hall : [e].all (fun e => !isStar e) = true := by rw [List.all_cons, hs]; rfl
  refine PSw (ps_expr (pe_bm PySem.F.plainAttrs_list PySem.F.slot_list_extend PySem.F.type_list_extend mt_extend (own_var hN hv hd hcd) (pa_cons ha pa_nil (each_plain hs)) rfl (kw_nil hall (by show 1 < 29; decide)) hline (each_plain hs) rfl) rfl) fun D σ H ⟨n, F, ρ, En, E, hn, hw, he, k1, k2, k3, k4⟩ => ?_
  subst he
  simp only [wpS] at hw
  simp only [drwS] at hn k1
  split at hw
  · rename_i ps hi
    obtain ⟨a0, vs, q1, q2, q3, q4, q5⟩ := E.slot i _ hi
    refine ⟨_, q1, .inl ⟨rfl, vs, SqL.of q2⟩, n, F, ρ, _, E, hn, hw, fun d v F1 H1 q x r => ?_⟩
    have y := x.nxs E
    split at q
    · rename_i qs
      obtain ⟨a1, vs1, g1, g2, g3, g4, g5⟩ := x.env.slot i _ hi
      rw [q1] at g1
      cases g1
      obtain ⟨b, ws, rfl, f1, f2, f3⟩ := RB.list x.env r
      refine ⟨a0, b, vs1, ws, rfl, rfl, g2, f1, by rw [g3.length, f3.length]; exact q.1, ?_⟩
      exact k1 _ _ F1 _ q.2 (y.trans (x.env.write hi q1 g2 (g3.append f3)))
    · exact q.elim
  · exact hw.elim
theorem ns_seti {i : Nat} {x : Str} {ei : Expr} {tp : Pos} (hN : X.N[i]? = some x) (hv : Vis X.env.scope x) (hd : (x == ("__debug__" : Str)) = false) (hcd : (x == ("__classdict__" : Str)) = false) (hpi : ∀ v, assign (.Subscript (.Name x p) ei tp) X.env v = (do
      let ov ← holding [v] (eval (.Name x p) X.env)
      let iv ← holding [v, ov] (eval ei X.env)
      standAt tp
      holding [v, ov, iv] (setItem ov iv v)
      release [v, ov, iv] []))
    (hsw : swapsWithSole [.Subscript (.Name x p) ei tp] e pos.line X.env = pure false)
    (ha : PE X e (TEx Φ exName dr R (rlD R) Ed c)) (hi : PE X ei (TEx Φ exName dr R (rlD R) Ed a)) : PS X (.Assign [.Subscript (.Name x p) ei tp] e pos) (TSx Φ dr R Ed (.seti i a c)) := by
  refine PSw (ps_asg ha (pg_sub (own_var hN hv hd hcd) hi set_list hpi) hsw rfl rfl) fun D σ H ⟨n, F, ρ, En, E, hn, hw, he, k1, k2, k3, k4⟩ => ?_
  subst he
  simp only [wpS] at hw
  simp only [drwS] at hn k1
  split at hw
  · rename_i ps hi
    obtain ⟨a0, vs, q1, q2, q3, q4, q5⟩ := E.slot i _ hi
    refine ⟨n, F, ρ, _, E, by omega, hw, fun d v F1 H1 q x r => ?_⟩
    refine ⟨_, q1, _, F1, ρ, _, x.env, by omega, q, fun d2 v2 F2 H2 q x2 r2 => ?_⟩
    have y := x.nxs E
    have y2 := x2.nxs x.env
    split at q
    · rename_i k pp q
      cases (RB.int (.inl r2))
      obtain ⟨a1, vs1, g1, g2, g3, g4, g5⟩ := x2.env.slot i _ hi
      rw [q1] at g1
      cases g1
      obtain ⟨j, hj, q⟩ := q
      refine ⟨a0, vs1, k, j, rfl, rfl, g2, by rw [g3.length]; exact hj, ?_⟩
      have r' : RD R F2 H2 v (.py pp) := RD.mono (x.env.keep x2.ext) x2.sub r
      exact k1 _ _ F2 _ q (((y.trans y2).trans (x2.env.write hi q1 g2 (g3.set j r'))).mono (by omega))
    · exact q.elim
  · exact hw.elim
/-! ### loops -/
theorem ns_for {tg iter : Expr} {tgC src : C} {body : List Stmt} (hp : PassesOwn (model X.prog X.w) X.A X.env X.xe) (hc : X.calm = true) (hi : PI X tg iter (TIx Φ exName dr R false Ed src)) (hg : PG X tg (TGx R tgC)) (hb : PSs X body (TSx Φ dr R Ed s)) (hs : ∀ x, foldedSetIterable iter X.env x = pure x)
    (hcn : drwS dr s = 0 ∨ cntC src = true) : PS X (.For tg iter body [] pos) (TSx Φ dr R Ed (.for_ tgC src s)) :=
  PSw (ps_for hp hc hi hg hb hs) fun D σ H ⟨n, F, ρ, En, E, hn, hw, he, k1, k2, k3, k4⟩ => by
    subst he
    simp only [wpS] at hw
    simp only [drwS] at hn k1 k2 k3 k4
    refine ⟨n, F, ρ, _, E, by omega, hw, fun d q => ?_, fun d ds J F1 H1 q1 hi x1 yl cnt => ?_⟩
    · cases e : itemsD d with
      | none => rw [e] at q; exact q.elim
      | some ds => exact ⟨ds, rfl⟩
    rw [hi] at q1
    have q1 : forW (fun d ρ1 K => bindG tgC d ρ1 fun ρ2 => wpS Φ exName s ρ2 { En with nx := K, ct := K, bk := En.nx }) En.nx ds ρ := q1
    generalize hstep : (fun d ρ1 K => bindG tgC d ρ1 fun ρ2 => wpS Φ exName s ρ2 { En with nx := K, ct := K, bk := En.nx }) = step at q1
    have hcn' : drwS dr s = 0 ∨ ds.length ≤ manyD := hcn.imp id cnt
    generalize hn1 : n + drw dr src = n1 at x1
    generalize hdb : drwS dr s = db at hcn' hn k1 k2 k3 k4
    have y1 := x1.nxs E
    have hn2 : n1 + manyD * db ≤ R.nb := by omega
    refine ⟨fun i m σ2 H2 => ∃ F' ρ2 n', i ≤ ds.length ∧ m = ds.length - i ∧ n' ≤ n1 + i * db ∧ NxS R n' F1 H1 σ2 ρ2 F' H2 ∧ forW step En.nx (ds.drop i) ρ2,
      ⟨ds.length, F1, ρ, n1, Nat.zero_le _, rfl, by simp, NxS.refl x1.env, q1⟩, ?_⟩
    rintro i m σ2 H2 ⟨F', ρ2, n', hil, rfl, hn', nx, hq⟩
    have hst : Stay R false F1 H1 H2 := ⟨nx.keep, fun z => by cases z⟩
    by_cases hlt : i < ds.length
    · obtain ⟨hgo, hyl⟩ := (yl i F' H2 hst nx.sub).1 ds[i] (List.getElem?_eq_getElem hlt)
      have hms := mul_step hn2 (Nat.succ_le_of_lt hlt) hcn'
      have hdiv : (i + 1) * db = i * db + db := by rw [Nat.add_mul, Nat.one_mul]
      have hle2 : (i + 1) * db ≤ manyD * db := by
        rcases hcn' with h | h
        · rw [h]; simp
        · exact Nat.mul_le_mul_right _ (by omega)
      refine .inr ⟨hgo, fun σ' H' => ∃ F2 ρ3 n'', n'' ≤ n1 + (i + 1) * db ∧ NxS R n'' F1 H1 σ' ρ3 F2 H' ∧ forW step En.nx (ds.drop (i + 1)) ρ3, fun σ' H' ⟨F2, ρ3, n'', h1, h2, h3⟩ => ⟨ds.length - (i + 1), by omega, F2, ρ3, n'', hlt, rfl, h1, h2, h3⟩, fun x H3 hy => ?_⟩
      obtain ⟨hcase, rd⟩ := hyl x H3 hy
      have x3 : Nxt R n' σ2 ρ2 F' H2 F' H3 := by
        rcases hcase with e | ⟨p, vs, hp, e⟩
        · subst e; exact .refl nx.env
        · subst e; exact Nxt.upd nx.env hp
      have y3 := x3.nxs nx.env
      rw [List.drop_eq_getElem_cons hlt] at hq
      have hq : step ds[i] ρ2 (forW step En.nx (ds.drop (i + 1))) := hq
      have hq : bindG tgC ds[i] ρ2 fun ρ3 => wpS Φ exName s ρ3 { En with nx := forW step En.nx (ds.drop (i + 1)), ct := forW step En.nx (ds.drop (i + 1)), bk := En.nx } := by rw [← hstep] at hq ⊢; exact hq
      refine ⟨n', F', ρ2, ds[i], _, x3.env, rd, hq, fun σ' ρ' q' E' u ul => ?_⟩
      have up : ∀ {m : Nat} {σ6 : St} {ρ6 : Ev} {F6 : Addr → Prop} {H6 : Hp}, NxS R m F' H3 σ6 ρ6 F6 H6 → NxS R m F1 H1 σ6 ρ6 F6 H6 := fun x6 => (nx.trans y3).trans x6
      refine ⟨n', F', ρ', _, E', by rw [hdb]; omega, q', rfl, fun ρ3 σ3 F3 H4 q3 x4 => ?_, fun ρ3 σ3 F3 H4 q3 x4 => ?_, fun ρ3 σ3 F3 H4 q3 x4 => ?_, fun d v ρ3 σ3 F3 H4 q3 x4 r3 => ?_⟩
      · exact ⟨F3, ρ3, n' + drwS dr s, by rw [hdb]; omega, up x4, q3⟩
      · exact k1 _ _ _ _ q3 ((y1.trans (up x4)).mono (by rw [hdb]; omega))
      · exact ⟨F3, ρ3, n' + drwS dr s, by rw [hdb]; omega, up x4, q3⟩
      · exact k4 _ _ _ _ _ _ q3 ((y1.trans (up x4)).mono (by rw [hdb]; omega)) r3
    · have e : i = ds.length := by omega
      subst e
      refine .inl ⟨(yl _ F' H2 hst nx.sub).2 (Nat.le_refl _), ?_⟩
      rw [List.drop_length] at hq
      have hle : ds.length * db ≤ manyD * db := by
        rcases hcn' with h | h
        · rw [h]; simp
        · exact Nat.mul_le_mul_right _ h
      have hq : En.nx ρ2 := hq
      exact k1 _ _ _ _ hq ((y1.trans nx).mono (by omega))
theorem ns_while {et : Expr} {body : List Stmt} (hp : PassesOwn (model X.prog X.w) X.A X.env X.xe) (ht : PT X et (TTx Φ exName dr R Ed c)) (hb : PSs X body (TSx Φ dr R Ed s)) (h0 : drw dr c + drwS dr s = 0) : PS X (.While et body [] pos) (TSx Φ dr R Ed (.while_ c s)) :=
  PSw (ps_while hp ht hb) fun D σ H ⟨n, F, ρ, En, E, hn, hw, he, k1, k2, k3, k4⟩ => by
    subst he
    simp only [wpS] at hw
    simp only [drwS, h0, Nat.add_zero] at hn k1 k2 k3 k4
    obtain ⟨N, hw⟩ := hw
    generalize hstep : (fun (ρ1 : Ev) (K : Ev → Prop) => wp Φ exName c ρ1 (fun x => match x with
      | .py (.bool k) => if k = true then wpS Φ exName s ρ1 { En with nx := K, ct := K, bk := En.nx } else En.nx ρ1
      | _ => False) En.ex) = step at hw
    refine ⟨fun m σ2 H2 => ∃ F' ρ2, NxS R n F H σ2 ρ2 F' H2 ∧ whileW step m ρ2, ⟨N, F, ρ, NxS.refl E, hw⟩, ?_⟩
    rintro m σ2 H2 ⟨F', ρ2, nx, hq⟩
    cases m with
    | zero => exact hq.elim
    | succ m =>
      have hq : step ρ2 (whileW step m) := hq
      have hq : wp Φ exName c ρ2 (fun x => match x with
        | .py (.bool k) => if k = true then wpS Φ exName s ρ2 { En with nx := whileW step m, ct := whileW step m, bk := En.nx } else En.nx ρ2
        | _ => False) En.ex := by rw [← hstep] at hq ⊢; exact hq
      refine ⟨n, F', ρ2, _, nx.env, by omega, hq, fun d F3 H3 q3 x3 => ?_⟩
      have y3 := x3.nxs nx.env
      have hc0 : drw dr c = 0 := by omega
      have hs0 : drwS dr s = 0 := by omega
      rw [hc0, Nat.add_zero] at y3
      split at q3
      · rename_i kb
        refine ⟨kb, rfl, ?_⟩
        cases kb with
        | false =>
          simp only [Bool.false_eq_true, if_false] at q3 ⊢
          exact k1 _ _ _ _ q3 (nx.trans y3)
        | true =>
          simp only [if_true] at q3 ⊢
          refine ⟨fun σ' H' => ∃ F' ρ2, NxS R n F H σ' ρ2 F' H' ∧ whileW step m ρ2, fun σ' H' ⟨F4, ρ4, g1, g2⟩ => ⟨m, Nat.lt_succ_self m, F4, ρ4, g1, g2⟩, ?_⟩
          refine ⟨n, F3, ρ2, _, y3.env, by omega, q3, rfl, fun ρ5 σ5 F5 H5 q5 x5 => ?_, fun ρ5 σ5 F5 H5 q5 x5 => ?_, fun ρ5 σ5 F5 H5 q5 x5 => ?_, fun d v ρ5 σ5 F5 H5 q5 x5 r5 => ?_⟩
          · rw [hs0, Nat.add_zero] at x5; exact ⟨F5, ρ5, (nx.trans y3).trans x5, q5⟩
          · rw [hs0, Nat.add_zero] at x5; exact k1 _ _ _ _ q5 ((nx.trans y3).trans x5)
          · rw [hs0, Nat.add_zero] at x5; exact ⟨F5, ρ5, (nx.trans y3).trans x5, q5⟩
          · rw [hs0, Nat.add_zero] at x5; exact k4 _ _ _ _ _ _ q5 ((nx.trans y3).trans x5) r5
      · exact q3.elim
theorem ns_raise {k : Nat} (hc : X.calm = true) (w : Wsh R Ed X) (he : L2N.PMk X e (fun _ H Q => Q (.ref (R.ex k)) none H)) : PS X (.Raise (some e) none pos) (TSx Φ dr R Ed (.raise k .nil)) := by
  obtain ⟨W, tk, hw⟩ := w.ex
  refine PSw (L2N.ps_raise hc tk he) fun D σ H ⟨n, F, ρ, En, E, hn, hw2, he2, k1, k2, k3, k4⟩ => ?_
  subst he2
  simp only [wpS, wp] at hw2
  exact hw k σ H hw2 E.ext (E.st.mono (by simp only [drwS, drw, Nat.add_zero] at hn; exact hn))
end
end Y

/-! part Y13 -/
set_option Elab.async false
set_option linter.all false
set_option maxRecDepth 100000
set_option maxHeartbeats 1000000
/-! Y13: the checker of statements. -/
namespace Y
open PySem PySem.Spec
open PyProof.Rows hiding St
open L2
def isLC : Expr → Bool
  | .ListComp _ _ _ _ => true
  | .SetComp _ _ _ _ => true
  | .DictComp _ _ _ _ _ => true
  | _ => false
theorem sw_plain {e : Expr} {t : Option Expr} {l : Nat} {env : Env} (h : isLC e = false) : swapsWith e t l env = pure false := by
  cases e <;> first | rfl | cases h
theorem sw_soleS {e : Expr} {o i : Expr} {tp : Pos} {l : Nat} {env : Env} : swapsWithSole [.Subscript o i tp] e l env = pure false := by
  cases e <;> rfl
theorem sw_soleT {e : Expr} {es : List Expr} {k : Nat} {tp : Pos} {l : Nat} {env : Env} : swapsWithSole [.Tuple es k tp] e l env = pure false := by
  cases e <;> rfl
/-- is a comprehension stored as it is made -/
def swB (z : Pz) (x : Str) (p : Pos) : Expr → Bool
  | .ListComp _ _ scope pos => (z.sc.names.lookup x == some .local) && p.line == pos.line && !(scope.names.any fun (n, k) => n == x && (k == .local || k == .cell))
  | _ => false
theorem sw_no {elt : Expr} {gs : List Comprehension} {scope : Scope} {pos p : Pos} {x : Str} {l : Nat} {env : Env} {z : Pz} (hs : env.scope = z.sc) (hk : z.sc.kind = .function) (h : swB z x p (.ListComp elt gs scope pos) = false) :
    swapsWith (.ListComp elt gs scope pos) (some (.Name x p)) l env = pure false := by
  have hb : env.blockKind = .function := by unfold Env.blockKind; rw [hs, hk]; rfl
  have ky : env.kindOf x = z.sc.names.lookup x := by rw [← hs]; rfl
  unfold swB at h
  unfold swapsWith
  simp only [hb, ky, Expr.pos]
  have e0 : ((.function : ScopeKind) == .function) = true := rfl
  simp only [e0, Bool.true_and]
  simp only at h
  rw [h]
theorem ss_plain {es : List Expr} {k : Nat} {p : Pos} {e : Expr} {env : Env} (h : ∀ vs j q, e ≠ .Tuple vs j q) : swappedStores [.Tuple es k p] e env = pure none := by
  cases e <;> first | rfl | exact absurd rfl (h _ _ _)
theorem ss_long {es vs : List Expr} {k j : Nat} {p q : Pos} {env : Env} (h : (es.length == 2 || es.length == 3) = false) : swappedStores [.Tuple es k p] (.Tuple vs j q) env = pure none := by
  unfold swappedStores
  simp only [h]
  rfl
theorem ss_fold {es vs : List Expr} {k j : Nat} {p q : Pos} {env : Env} (h : vs.all (foldedForSure 8) = true) : swappedStores [.Tuple es k p] (.Tuple vs j q) env = pure none := by
  unfold swappedStores
  simp only [h, if_true]
  repeat' split
  all_goals rfl
theorem ss_two {x y : Str} {px py pt p2 : Pos} {kt k2 : Nat} {a b : Expr} {env : Env} {z : Pz} (hs : env.scope = z.sc) (hk : z.sc.kind = .function) (hx : z.sc.names.lookup x = some .local) (hy : z.sc.names.lookup y = some .local) (hl : (py.line == px.line) = true) (hxy : (x == y) = false)
    (h1 : isStar a = false) (h2 : isStar b = false) (h3 : [a, b].all (foldedForSure 8) = false) (h4 : [a, b].all (constantsAlone 8) = false) :
    swappedStores [.Tuple [.Name x px, .Name y py] kt pt] (.Tuple [a, b] k2 p2) env = pure (some [x, y]) := by
  have hb : env.blockKind = .function := by unfold Env.blockKind; rw [hs, hk]; rfl
  have kx : env.kindOf x = some .local := by rw [← hx, ← hs]; rfl
  have ky : env.kindOf y = some .local := by rw [← hy, ← hs]; rfl
  have hst : ([a, b].any fun | .Starred .. => true | _ => false) = false := by
    have : ∀ e, isStar e = false → (match e with | .Starred .. => true | _ => false) = false := fun e h => by cases e <;> first | rfl | cases h
    simp only [List.any_cons, List.any_nil, Bool.or_false]
    rw [this a h1, this b h2]
    rfl
  have hpx : (px.line == (Option.map (fun x => x.pos.line) [Expr.Name x px, Expr.Name y py].head?).getD 0) = true := by
    show (px.line == px.line) = true
    simp
  have hpy : (py.line == (Option.map (fun x => x.pos.line) [Expr.Name x px, Expr.Name y py].head?).getD 0) = true := hl
  have el : (some NameKind.local == some NameKind.local) = true := rfl
  have hed : [x, y].eraseDups = [x, y] := by
    rw [List.eraseDups_cons, List.filter_cons]
    have : (!(y == x)) = true := by
      rw [Bool.not_eq_true']
      cases q : y == x with
      | false => rfl
      | true => rw [eq_of_beq q] at hxy; simp at hxy
    rw [this]
    rfl
  unfold swappedStores
  simp only [hb, hst, h3, h4, List.filterMap_cons, List.filterMap_nil, kx, ky, hpx, hpy, el, Bool.and_true, if_true, hed]
  refine (if_neg (by show ¬ (false = true); decide)).trans ?_
  refine (if_neg (fun z => absurd (hst.symm.trans z) (by decide))).trans ?_
  rfl

theorem ss_three {x y w : Str} {px py pw pt p2 : Pos} {kt k2 : Nat} {a b c : Expr} {env : Env} {z : Pz} (hs : env.scope = z.sc) (hk : z.sc.kind = .function) (hx : z.sc.names.lookup x = some .local) (hy : z.sc.names.lookup y = some .local) (hz : z.sc.names.lookup w = some .local) (hl : (py.line == px.line) = true) (hl2 : (pw.line == px.line) = true) (hxy : (x == y) = false) (hxz : (x == w) = false) (hyz : (y == w) = false)
    (h1 : isStar a = false) (h2 : isStar b = false) (h2' : isStar c = false) (h3 : [a, b, c].all (foldedForSure 8) = false) (h4 : [a, b, c].all (constantsAlone 8) = false) :
    swappedStores [.Tuple [.Name x px, .Name y py, .Name w pw] kt pt] (.Tuple [a, b, c] k2 p2) env = pure (some [x, y, w]) := by
  have hb : env.blockKind = .function := by unfold Env.blockKind; rw [hs, hk]; rfl
  have kx : env.kindOf x = some .local := by rw [← hx, ← hs]; rfl
  have ky : env.kindOf y = some .local := by rw [← hy, ← hs]; rfl
  have kw : env.kindOf w = some .local := by rw [← hz, ← hs]; rfl
  have hst : ([a, b, c].any fun | .Starred .. => true | _ => false) = false := by
    have : ∀ e, isStar e = false → (match e with | .Starred .. => true | _ => false) = false := fun e h => by cases e <;> first | rfl | cases h
    simp only [List.any_cons, List.any_nil, Bool.or_false]
    rw [this a h1, this b h2, this c h2']
    rfl
  have hpx : (px.line == (Option.map (fun x => x.pos.line) [Expr.Name x px, Expr.Name y py, Expr.Name w pw].head?).getD 0) = true := by
    show (px.line == px.line) = true
    simp
  have hpy : (py.line == (Option.map (fun x => x.pos.line) [Expr.Name x px, Expr.Name y py, Expr.Name w pw].head?).getD 0) = true := hl
  have hpw : (pw.line == (Option.map (fun x => x.pos.line) [Expr.Name x px, Expr.Name y py, Expr.Name w pw].head?).getD 0) = true := hl2
  have el : (some NameKind.local == some NameKind.local) = true := rfl
  have sym : ∀ {p q : Str}, (p == q) = false → (!(q == p)) = true := fun {p q} h => by
    rw [Bool.not_eq_true']
    cases r : q == p with
    | false => rfl
    | true => rw [eq_of_beq r] at h; simp at h
  have hed : [x, y, w].eraseDups = [x, y, w] := by
    rw [List.eraseDups_cons, List.filter_cons, sym hxy, if_pos rfl, List.filter_cons, sym hxz, if_pos rfl, List.filter_nil, List.eraseDups_cons, List.filter_cons, sym hyz, if_pos rfl]
    rfl
  unfold swappedStores
  simp only [hb, hst, h3, h4, List.filterMap_cons, List.filterMap_nil, kx, ky, kw, hpx, hpy, hpw, el, Bool.and_true, if_true, hed]
  refine (if_neg (by show ¬ (false = true); decide)).trans ?_
  refine (if_neg (fun z => absurd (hst.symm.trans z) (by decide))).trans ?_
  rfl

structure CkS where
  one : Pz → Stmt → Bool
  many : Pz → List Stmt → Bool
def isFrz : S → Bool
  | .frz _ => true
  | _ => false
def isComp : C → Bool
  | .comp _ _ _ _ _ => true
  | .comp2 _ _ _ _ _ _ _ _ _ => true
  | _ => false
/-- name = e -/
def kAsg (cm : Bool) (K : Ck) (i : Nat) (z : Pz) : Stmt → Bool
  | .Assign [.Name x p] e _ => kLoc z i x && K.e z e && (!isLC e || (cm && decide (z.sc.kind = .function)))
  | _ => false
def isTup : Expr → Option (List Expr)
  | .Tuple es _ _ => some es
  | _ => none
/-- targets = e -/
def kUnp (G A : Ck) (z : Pz) : Stmt → Bool
  | .Assign [.Tuple es k p] e _ => G.g z (.Tuple es k p) && notB A.r && A.e z e && (match e with | .Tuple vs _ _ => !(es.length == 2 || es.length == 3) || vs.all (foldedForSure 8) | _ => true)
  | _ => false
def kPar (A B : Ck) (i j : Nat) (z : Pz) : Stmt → Bool
  | .Assign [.Tuple [.Name x px, .Name y py] _ _] (.Tuple [a, b] _ _) _ => decide (z.N[i]? = some x) && decide (z.N[j]? = some y) && decide (i ≠ j) && decide (z.sc.kind = .function) && decide (z.sc.names.lookup x = some .local) && decide (z.sc.names.lookup y = some .local) &&
      (py.line == px.line) && !(x == y) && !isStar a && !isStar b && !([a, b].all (foldedForSure 8)) && !([a, b].all (constantsAlone 8)) && notB A.r && notB B.r && A.e z a && B.e z b
  | _ => false
def kPar3 (A B G : Ck) (i j l : Nat) (z : Pz) : Stmt → Bool
  | .Assign [.Tuple [.Name x px, .Name y py, .Name w pw] _ _] (.Tuple [a, b, c] _ _) _ => decide (z.N[i]? = some x) && decide (z.N[j]? = some y) && decide (z.N[l]? = some w) && decide (i ≠ j) && decide (i ≠ l) && decide (j ≠ l) && decide (z.sc.kind = .function) && decide (z.sc.names.lookup x = some .local) && decide (z.sc.names.lookup y = some .local) && decide (z.sc.names.lookup w = some .local) &&
      (py.line == px.line) && (pw.line == px.line) && !(x == y) && !(x == w) && !(y == w) && !isStar a && !isStar b && !isStar c && !([a, b, c].all (foldedForSure 8)) && !([a, b, c].all (constantsAlone 8)) && notB A.r && notB B.r && notB G.r && A.e z a && B.e z b && G.e z c
  | _ => false
def kAug (A : Ck) (i : Nat) (op : BO) (z : Pz) : Stmt → Bool
  | .AugAssign (.Name x _) o e _ => decide (o = opM op) && kLoc z i x && notB A.r && A.e z e
  | _ => false
def kMet (m : Str) (b : Bool) (A : Ck) (i : Nat) (z : Pz) : Stmt → Bool
  | .Expr (.Call (.Attribute (.Name x _) n ap) [e] [] cp) _ => decide (n = m) && kVis z i x && !isStar e && (ap.endLine == cp.line) && (b || notB A.r) && A.e z e
  | _ => false
def kSeti (I A : Ck) (i : Nat) (z : Pz) : Stmt → Bool
  | .Assign [.Subscript (.Name x _) ei _] e _ => kVis z i x && plainI ei && notB I.r && notB A.r && I.e z ei && A.e z e
  | _ => false
def kExpr (A : Ck) (z : Pz) : Stmt → Bool
  | .Expr e _ => A.e z e && !isLC e
  | _ => false
def kRaise (T : Tb) (k : Nat) (z : Pz) : Stmt → Bool
  | .Raise (some (.Call (.Name x _) [.Constant (.str _) _ _] [] _)) none _ => kGl z x && isTab T x (.ex k)
  | _ => false
def isNilC : C → Bool
  | .nil => true
  | _ => false
def isNone0 : C → Bool
  | .lit .none => true
  | _ => false
def ckS (T : Tb) (dr : Nat → Nat) : S → CkS
  | .nil => ⟨fun _ _ => false, fun _ sts => sts.isEmpty⟩
  | .seq s r =>
    let A := ckS T dr s
    let B := ckS T dr r
    ⟨fun _ _ => false, fun z sts => if isFrz s then B.many z sts else match sts with | st :: rest => A.one z st && B.many z rest | [] => false⟩
  | .asg i c => ⟨fun z st => notB (ck T dr c).r && kAsg (isComp c) (ck T dr c) i z st, fun _ _ => false⟩
  | .asgL i c => ⟨fun z st => (match (ck T dr c).r with | .n => true | _ => false) && kAsg (isComp c) (ck T dr c) i z st, fun _ _ => false⟩
  | .unp tg c => ⟨kUnp (ck T dr tg) (ck T dr c), fun _ _ => false⟩
  | .par i j a b => ⟨kPar (ck T dr a) (ck T dr b) i j, fun _ _ => false⟩
  | .par3 i j l a b c => ⟨kPar3 (ck T dr a) (ck T dr b) (ck T dr c) i j l, fun _ _ => false⟩
  | .aug i op c => ⟨kAug (ck T dr c) i op, fun _ _ => false⟩
  | .app i c => ⟨kMet "append" false (ck T dr c) i, fun _ _ => false⟩
  | .rem i c => ⟨kMet "remove" true (ck T dr c) i, fun _ _ => false⟩
  | .ext i c => ⟨kMet "extend" true (ck T dr c) i, fun _ _ => false⟩
  | .seti i ci c => ⟨kSeti (ck T dr ci) (ck T dr c) i, fun _ _ => false⟩
  | .expr c => ⟨kExpr (ck T dr c), fun _ _ => false⟩
  | .ite t a b =>
    let A := ckS T dr a
    let B := ckS T dr b
    ⟨fun z st => match st with | .If e p q _ => (ck T dr t).t z e && A.many z p && B.many z q | _ => false, fun _ _ => false⟩
  | .for_ tg src body =>
    let B := ckS T dr body
    ⟨fun z st => match st with | .For g it p [] _ => (ck T dr tg).g z g && (ck T dr src).i false z g it && B.many z p && plainF it && (decide (drwS dr body = 0) || cntC src) | _ => false, fun _ _ => false⟩
  | .while_ t body =>
    let B := ckS T dr body
    ⟨fun z st => match st with | .While e p [] _ => (ck T dr t).t z e && B.many z p && decide (drw dr t + drwS dr body = 0) | _ => false, fun _ _ => false⟩
  | .ret c => ⟨fun z st => match st with | .Return (some e) _ => notB (ck T dr c).r && (ck T dr c).e z e | .Return none _ => isNone0 c | _ => false, fun _ _ => false⟩
  | .raise k as => ⟨fun z st => isNilC as && kRaise T k z st, fun _ _ => false⟩
  | .brk => ⟨fun _ st => match st with | .Break _ => true | _ => false, fun _ _ => false⟩
  | .cont => ⟨fun _ st => match st with | .Continue _ => true | _ => false, fun _ _ => false⟩
  | .pass => ⟨fun _ st => match st with | .Pass _ => true | .Expr (.Constant (.str _) _ _) _ => true | _ => false, fun _ _ => false⟩
  | .frz _ => ⟨fun _ _ => false, fun _ _ => false⟩
section
variable (S : RS) (T : Tb) (Φ : Nat → List D → (D → Prop) → (Nat → Prop) → Prop) (dr : Nat → Nat)
structure SndS (k : CkS) (s : Y.S) : Prop where
  one : ∀ {R z X Ed}, Sit S T Φ dr R z X Ed → PassesOwn (model X.prog X.w) X.A X.env X.xe → ∀ {st}, k.one z st = true → PS X st (TSx Φ dr R Ed s)
  many : ∀ {R z X Ed}, Sit S T Φ dr R z X Ed → PassesOwn (model X.prog X.w) X.A X.env X.xe → ∀ {sts}, k.many z sts = true → PSs X sts (TSx Φ dr R Ed s)
end
section
variable {S : RS} {T : Tb} {Φ : Nat → List D → (D → Prop) → (Nat → Prop) → Prop} {dr : Nat → Nat}
variable {R : RT} {z : Pz} {X : Cx} {Ed : Nat → Prop} {x l r : Expr} {xs : List Expr} {a b c : C} {pos : Pos} {st : Stmt}
theorem n2d_read {σ : St} {H : Hp} {Q : VK} (h : TEx Φ exName dr R (rlD R) Ed c σ H Q) : TEx Φ exName dr R (rlN R) Ed c σ H Q := by
  obtain ⟨n, F, ρ, Qd, E, hn, hw, k⟩ := h
  exact ⟨n, F, ρ, Qd, E, hn, hw, fun d v F' H' q x r => let ⟨F2, x2, r2⟩ := RN.freeze E x r; k d v F2 H' q x2 r2⟩
theorem onlyOne {f : Pz → Stmt → Bool} {s : Y.S} (h : ∀ {R z X Ed}, Sit S T Φ dr R z X Ed → PassesOwn (model X.prog X.w) X.A X.env X.xe → ∀ {st}, f z st = true → PS X st (TSx Φ dr R Ed s)) : SndS S T Φ dr ⟨f, fun _ _ => false⟩ s :=
  ⟨h, fun _ _ _ q => (by cases q)⟩
/-- name = e, in whatever way it is stored -/
theorem asg_all {i : Nat} (s : Sit S T Φ dr R z X Ed) (hk : kAsg (isComp c) (ck T dr c) i z st = true) :
    (notB (ck T dr c).r = true → PS X st (tAsg (TEx Φ exName dr R (rlD R) Ed c) (gName i))) ∧ ((ck T dr c).r = .n → PS X st (tAsg (TEx Φ exName dr R (rlN R) Ed c) (gName i))) := by
  unfold kAsg at hk
  split at hk
  · rename_i y p e pos
    simp only [Bool.and_eq_true, Bool.or_eq_true, Bool.not_eq_true', decide_eq_true_eq] at hk
    obtain ⟨⟨h1, h2⟩, h3⟩ := hk
    obtain ⟨g1, g2, g3⟩ := kLoc_ok s h1
    have pe := (snd (S := S) (Φ := Φ) c).e s h2
    have plain : swapsWith e (some (.Name y p)) pos.line X.env = pure false → _ := fun hs => (⟨fun n => ps_set s.A.nd g1 g2 (toD pe n) hs g3, fun n => ps_set s.A.nd g1 g2 (by rw [n] at pe; exact pe) hs g3⟩ :
      (notB (ck T dr c).r = true → PS X (.Assign [.Name y p] e pos) (tAsg (TEx Φ exName dr R (rlD R) Ed c) (gName i))) ∧ ((ck T dr c).r = .n → PS X (.Assign [.Name y p] e pos) (tAsg (TEx Φ exName dr R (rlN R) Ed c) (gName i))))
    rcases h3 with h3 | ⟨h3, hkd⟩
    · exact plain (sw_plain h3)
    · cases c with
      | comp own el tg src ifs =>
        obtain ⟨elt, tge, iter, fs, scope, lp, rfl, f1, f2, f3, f4, f5, f6, f7, f8⟩ := kComp_ok (A := ck T dr el) (snd (S := S) (Φ := Φ) el) (snd src) (snd tg) (snd ifs) s h2
        cases hb : swB z y p (.ListComp elt [⟨tge, iter, fs, 0⟩] scope lp) with
        | false => exact plain (sw_no s.A.hs hkd hb)
        | true =>
          unfold swB at hb
          simp only [Bool.and_eq_true, Bool.not_eq_true'] at hb
          obtain ⟨⟨b1, b2⟩, b3⟩ := hb
          have hl : X.env.scope.names.lookup y = some .local := by rw [s.A.hs]; exact eq_of_beq b1
          have go := ps_setLc (spos := pos) s.A.calm s.A.nd g1 hl (sw_true (by rw [s.A.hs]; exact hkd) hl b2 b3) f1 f2 f3 f4 f5 f6
          exact ⟨fun _ => PSw go fun D σ H h => comp_read f7 f8 (n2d_read h), fun _ => PSw go fun D σ H h => comp_read f7 f8 h⟩
      | comp2 own vs1 el tg src ifs tg1 src1 ifs1 =>
        obtain ⟨elt, tge, iter, fs, tge1, iter1, fs1, scope, lp, rfl, f1, f2, f3, f4, f5, f6, f7, f8, f9, f10, f11, f12, f13, f14⟩ := kComp2_ok (snd (S := S) (Φ := Φ) el) (snd src) (snd tg) (snd ifs) (snd src1) (snd tg1) (snd ifs1) s h2
        cases hb : swB z y p (.ListComp elt [⟨tge, iter, fs, 0⟩, ⟨tge1, iter1, fs1, 0⟩] scope lp) with
        | false => exact plain (sw_no s.A.hs hkd hb)
        | true =>
          unfold swB at hb
          simp only [Bool.and_eq_true, Bool.not_eq_true'] at hb
          obtain ⟨⟨b1, b2⟩, b3⟩ := hb
          have hl : X.env.scope.names.lookup y = some .local := by rw [s.A.hs]; exact eq_of_beq b1
          have go := ps_setLc2 (spos := pos) s.A.calm s.A.nd g1 hl (sw_true (by rw [s.A.hs]; exact hkd) hl b2 b3) f1 f2 f3 f4 f5 f6 f7 f8 f9 f10 f11
          exact ⟨fun _ => PSw go fun D σ H h => comp2_read f12 f13 f14 (n2d_read h), fun _ => PSw go fun D σ H h => comp2_read f12 f13 f14 h⟩
      | _ => cases h3
  · cases hk
theorem sndS (s : Y.S) : SndS S T Φ dr (ckS T dr s) s := by
  induction s with
  | nil =>
    refine ⟨?_, ?_⟩
    · intro R z X Ed si po st q
      cases q
    · intro R z X Ed si po sts q
      cases sts with
      | nil => exact ns_nil
      | cons _ _ => cases q
  | seq s r hs hr =>
    refine ⟨?_, ?_⟩
    · intro R z X Ed si po st q
      cases q
    intro R z X Ed si po sts q
    simp only [ckS] at q
    split at q
    · cases s with
      | frz i => exact ns_frz (hr.many si po q)
      | _ => rename_i h; cases h
    · split at q
      · rw [Bool.and_eq_true] at q
        exact ns_seq (hs.one si po q.1) (hr.many si po q.2)
      · cases q
  | frz i => exact onlyOne fun _ _ _ q => (by cases q)
  | asg i c =>
    refine onlyOne fun si po st q => ?_
    rw [Bool.and_eq_true] at q
    exact PSw ((asg_all si q.2).1 q.1) fun D σ H h => asg_ok h
  | asgL i c =>
    refine onlyOne fun si po st q => ?_
    rw [Bool.and_eq_true] at q
    have hn : (ck T dr c).r = .n := by
      have := q.1
      split at this
      · assumption
      · cases this
    exact PSw ((asg_all si q.2).2 hn) fun D σ H h => asgL_ok h
  | unp tg c =>
    refine onlyOne fun si po st q => ?_
    unfold kUnp at q
    split at q
    · rename_i es k p e pos
      simp only [Bool.and_eq_true] at q
      obtain ⟨⟨⟨q1, q2⟩, q3⟩, q4⟩ := q
      refine ns_unp (toD ((snd c).e si q3) q2) ((snd (S := S) (Φ := Φ) tg).g si q1) sw_soleT ?_ rfl
      split at q4
      · rw [Bool.or_eq_true] at q4
        rcases q4 with q4 | q4
        · exact ss_long (by rw [Bool.not_eq_true'] at q4; exact q4)
        · exact ss_fold q4
      · rename_i hne
        exact ss_plain fun vs j q e => hne _ _ _ e
    · cases q
  | par i j a b =>
    refine onlyOne fun si po st q => ?_
    unfold kPar at q
    split at q
    · simp only [Bool.and_eq_true, Bool.not_eq_true', decide_eq_true_eq] at q
      obtain ⟨⟨⟨⟨⟨⟨⟨⟨⟨⟨⟨⟨⟨⟨⟨q1, q2⟩, q3⟩, q4⟩, q5⟩, q6⟩, q7⟩, q8⟩, q9⟩, q10⟩, q11⟩, q12⟩, q13⟩, q14⟩, q15⟩, q16⟩ := q
      refine PSw (ps_par si.A.calm si.A.nd (by rw [si.A.hN]; exact q1) (by rw [si.A.hN]; exact q2) q3 (by rw [si.A.hs]; exact q5) (by rw [si.A.hs]; exact q6)
        (nd_acons (rl := rlD _) rlD_ok q9 (toD ((snd a).e si q15) q13) (nd_acons (rl := rlD _) rlD_ok q10 (toD ((snd b).e si q16) q14) nd_anil)) (ss_two si.A.hs q4 q5 q6 q7 q8 q9 q10 q11 q12) sw_soleT) fun D σ H h => par_ok h
    · cases q
  | par3 i j l a b c =>
    refine onlyOne fun si po st q => ?_
    unfold kPar3 at q
    split at q
    · simp only [Bool.and_eq_true, Bool.not_eq_true', decide_eq_true_eq] at q
      obtain ⟨⟨⟨⟨⟨⟨⟨⟨⟨⟨⟨⟨⟨⟨⟨⟨⟨⟨⟨⟨⟨⟨⟨⟨⟨q1, q2⟩, q3⟩, q4⟩, q5⟩, q6⟩, q7⟩, q8⟩, q9⟩, q10⟩, q11⟩, q12⟩, q13⟩, q14⟩, q15⟩, q16⟩, q17⟩, q18⟩, q19⟩, q20⟩, q21⟩, q22⟩, q23⟩, q24⟩, q25⟩, q26⟩ := q
      refine PSw (L2.ps_par3 si.A.calm si.A.nd (by rw [si.A.hN]; exact q1) (by rw [si.A.hN]; exact q2) (by rw [si.A.hN]; exact q3) q4 q5 q6 (by rw [si.A.hs]; exact q8) (by rw [si.A.hs]; exact q9) (by rw [si.A.hs]; exact q10)
        (nd_acons (rl := rlD _) rlD_ok q16 (toD ((snd a).e si q24) q21) (nd_acons (rl := rlD _) rlD_ok q17 (toD ((snd b).e si q25) q22) (nd_acons (rl := rlD _) rlD_ok q18 (toD ((snd c).e si q26) q23) nd_anil))) (ss_three si.A.hs q7 q8 q9 q10 q11 q12 q13 q14 q15 q16 q17 q18 q19 q20) sw_soleT) fun D σ H h => par3_ok h
    · cases q
  | aug i op c =>
    refine onlyOne fun si po st q => ?_
    unfold kAug at q
    split at q
    · simp only [Bool.and_eq_true, decide_eq_true_eq] at q
      obtain ⟨⟨⟨q1, q2⟩, q3⟩, q4⟩ := q
      obtain ⟨g1, g2, g3⟩ := kLoc_ok si q2
      rw [q1]
      exact ns_aug si.A.nd g1 g2 g3 (toD ((snd c).e si q4) q3)
    · cases q
  | app i c =>
    refine onlyOne fun si po st q => ?_
    unfold kMet at q
    split at q
    · simp only [Bool.and_eq_true, Bool.not_eq_true', decide_eq_true_eq, Bool.false_or] at q
      obtain ⟨⟨⟨⟨⟨q1, q2⟩, q3⟩, q4⟩, q5⟩, q6⟩ := q
      obtain ⟨g1, g2, g3, g4⟩ := kVis_ok si q2
      exact ns_app q1 g1 g2 g3 g4 q3 q4 (toD ((snd c).e si q6) q5)
    · cases q
  | rem i c =>
    refine onlyOne fun si po st q => ?_
    unfold kMet at q
    split at q
    · simp only [Bool.and_eq_true, Bool.not_eq_true', decide_eq_true_eq] at q
      obtain ⟨⟨⟨⟨⟨q1, q2⟩, q3⟩, q4⟩, q5⟩, q6⟩ := q
      obtain ⟨g1, g2, g3, g4⟩ := kVis_ok si q2
      exact ns_rem (by have := si.A.hr.un; omega) si.hK q1 g1 g2 g3 g4 q3 q4 (toB ((snd c).e si q6))
    · cases q
  | ext i c =>
    refine onlyOne fun si po st q => ?_
    unfold kMet at q
    split at q
    · simp only [Bool.and_eq_true, Bool.not_eq_true', decide_eq_true_eq] at q
      obtain ⟨⟨⟨⟨⟨q1, q2⟩, q3⟩, q4⟩, q5⟩, q6⟩ := q
      obtain ⟨g1, g2, g3, g4⟩ := kVis_ok si q2
      exact ns_ext q1 g1 g2 g3 g4 q3 q4 (toB ((snd c).e si q6))
    · cases q
  | seti i ci c =>
    refine onlyOne fun si po st q => ?_
    unfold kSeti at q
    split at q
    · rename_i y p ei tp e pos
      simp only [Bool.and_eq_true] at q
      obtain ⟨⟨⟨⟨⟨q1, q2⟩, q3⟩, q4⟩, q5⟩, q6⟩ := q
      obtain ⟨g1, g2, g3, g4⟩ := kVis_ok si q1
      refine ns_seti g1 g2 g3 g4 (fun v => ?_) sw_soleS (toD ((snd c).e si q6) q4) (toD ((snd ci).e si q5) q3)
      cases ei <;> first | rfl | (simp only [plainI] at q2; cases q2)
    · cases q
  | expr c =>
    refine onlyOne fun si po st q => ?_
    unfold kExpr at q
    split at q
    · simp only [Bool.and_eq_true, Bool.not_eq_true'] at q
      exact ns_expr ((snd c).e si q.1) (sw_plain q.2)
    · cases q
  | ite t a b ha hb =>
    refine onlyOne fun si po st q => ?_
    split at q
    · simp only [Bool.and_eq_true] at q
      exact ns_if ((snd t).t si q.1.1) (ha.many si po q.1.2) (hb.many si po q.2)
    · cases q
  | for_ tg src body hb =>
    refine onlyOne fun si po st q => ?_
    split at q
    · simp only [Bool.and_eq_true, Bool.or_eq_true, decide_eq_true_eq] at q
      obtain ⟨⟨⟨⟨q1, q2⟩, q3⟩, q4⟩, q5⟩ := q
      exact ns_for po si.A.calm ((snd src).i si q2) ((snd (S := S) (Φ := Φ) tg).g si q1) (hb.many si po q3) (plainF_ok q4) q5
    · cases q
  | while_ t body hb =>
    refine onlyOne fun si po st q => ?_
    split at q
    · simp only [Bool.and_eq_true, decide_eq_true_eq] at q
      exact ns_while po ((snd t).t si q.1.1) (hb.many si po q.1.2) q.2
    · cases q
  | ret c =>
    refine onlyOne fun si po st q => ?_
    split at q
    · simp only [Bool.and_eq_true] at q
      exact ns_ret (toD ((snd c).e si q.2) q.1)
    · unfold isNone0 at q
      split at q
      · exact ns_retN
      · cases q
    · cases q
  | raise k as =>
    refine onlyOne fun si po st q => ?_
    rw [Bool.and_eq_true] at q
    obtain ⟨q1, q2⟩ := q
    cases as with
    | nil =>
      unfold kRaise at q2
      split at q2
      · rw [Bool.and_eq_true] at q2
        have h := kTab_ok si q2.2
        have := h _ si.A.hP si.A.hw si.A.hK si.A.hm si.A.hb (kGl_ok si q2.1)
        refine ns_raise si.A.calm si.w ?_
        have e : ∀ R : RT, R.S = S → R.ex k = S.ex k := fun R h => by rw [← h]
        rw [e _ si.hS]
        exact this _ _ _ _ _
      · cases q2
    | _ => cases q1
  | brk =>
    refine onlyOne fun si po st q => ?_
    split at q
    · exact ns_brk
    · cases q
  | cont =>
    refine onlyOne fun si po st q => ?_
    split at q
    · exact ns_cont
    · cases q
  | pass =>
    refine onlyOne fun si po st q => ?_
    split at q
    · exact ns_pass ps_pass
    · exact ns_pass ps_doc
    · cases q
end
end Y

/-! part Y14 -/
set_option Elab.async false
set_option linter.all false
set_option maxRecDepth 100000
set_option maxHeartbeats 1000000
/-! Y14: a def keeps its promise. -/
namespace Y
open PySem PySem.Spec
open PyProof.Rows hiding St
open L2
open C8 (scC fnScope_by)
/-- a def's slots at its entry -/
def initE (N : List Str) (ds : List D) : Ev := ds.map (fun d => some (.sh d)) ++ List.replicate (N.length - ds.length) none
/-- the ends of a def's body -/
def endF (Q : D → Prop) (E : Nat → Prop) : En := ⟨fun _ => Q .N, Q, fun _ => False, fun _ => False, E⟩
theorem initE_get {N : List Str} {ds : List D} {i : Nat} {s : Sl} (h : (initE N ds)[i]? = some (some s)) : ∃ d, ds[i]? = some d ∧ s = .sh d := by
  unfold initE at h
  rw [List.getElem?_append] at h
  split at h
  · rw [List.getElem?_map] at h
    cases q : ds[i]? with
    | none => rw [q] at h; cases h
    | some d =>
      rw [q] at h
      exact ⟨d, rfl, by cases h; rfl⟩
  · rw [List.getElem?_replicate] at h
    split at h <;> cases h
theorem RA.get {R : RT} {F : Addr → Prop} {H : Hp} : ∀ {vs : List V} {ds : List D} {i : Nat} {d : D}, RA R F H vs ds → ds[i]? = some d → ∃ v, vs[i]? = some v ∧ RD R F H v d
  | [], [], _, _, _, e => by simp at e
  | v :: vs, d :: ds, 0, _, ⟨a, b⟩, e => by simp at e; subst e; exact ⟨v, rfl, a⟩
  | v :: vs, d :: ds, i + 1, _, ⟨a, b⟩, e => by
    obtain ⟨w, h1, h2⟩ := RA.get b (by simpa using e)
    exact ⟨w, by simpa using h1, h2⟩
  | [], _ :: _, _, _, h, _ => h.elim
  | _ :: _, [], _, _, h, _ => h.elim
theorem start_get {N : List Str} {vs : List V} {i : Nat} {v : V} (h : vs[i]? = some v) : (L2.start N vs)[i]? = some (some v) := by
  have hl := (List.getElem?_eq_some_iff.mp h).1
  unfold L2.start
  rw [List.getElem?_append_left (by simpa using hl), List.getElem?_map, h]
  rfl
theorem init_ok {S : RS} {sa : SA} {n m : Nat} {F : Addr → Prop} {H : Hp} {vs : List V} {ds : List D} {N : List Str} (B : Bef ⟨S, sa, m, H, F⟩ n F H) (r : RA ⟨S, sa, m, H, F⟩ F H vs ds) (hl : vs.length ≤ N.length) :
    EnvOk ⟨S, sa, m, H, F⟩ n F (L2.start N vs) H (initE N ds) := by
  refine ⟨.refl, B.st, B.s0, B.fs, B.fr, fun a h => .inl h, ?_, fun i s h => ?_, fun i j a ps qs h1 h2 h3 h4 => ?_⟩
  · unfold initE L2.start
    simp only [List.length_append, List.length_map, List.length_replicate, r.length]
  · obtain ⟨d, h1, rfl⟩ := initE_get h
    obtain ⟨v, g1, g2⟩ := r.get h1
    exact ⟨v, start_get g1, g2⟩
  · obtain ⟨d, _, e⟩ := initE_get h1
    cases e
/-- what the checker asks of a def (lm: it makes lambdas) -/
structure FnC (T : Tb) (dr : Nat → Nat) (k : Nat) (N ps : List Str) (sc : Scope) (body : List Stmt) (b : S) (L : Nat) (lm : Bool := false) : Prop where
  hsc : scC N ps sc = true
  ok : (ckS T dr b).many ⟨N, sc, none, L, false, lm⟩ body = true
  dw : drwS dr b ≤ dr k
  lv : T.lv k = L + 1
def fnCk (T : Tb) (dr : Nat → Nat) (k : Nat) (N ps : List Str) (sc : Scope) (body : List Stmt) (b : S) (L : Nat) (lm : Bool := false) : Bool :=
  scC N ps sc && (ckS T dr b).many ⟨N, sc, none, L, false, lm⟩ body && decide (drwS dr b ≤ dr k) && decide (T.lv k = L + 1)
theorem fnCk_ok {T : Tb} {dr : Nat → Nat} {k : Nat} {N ps : List Str} {sc : Scope} {body : List Stmt} {b : S} {L : Nat} {lm : Bool} (h : fnCk T dr k N ps sc body b L lm = true) : FnC T dr k N ps sc body b L lm := by
  unfold fnCk at h
  simp only [Bool.and_eq_true, decide_eq_true_eq] at h
  exact ⟨h.1.1.1, h.1.1.2, h.1.2, h.2⟩
/-- the def x makes lambdas -/
def LamOk (S : RS) (x : Str) (fd : FuncData) : Prop := ∃ c P, LamX.TabB S.base S.mg c P ∧ fd.code = .ref c ∧ (P, x ++ ".<locals>." ++ "<lambda>") ∈ S.T0 ∧ ∀ p ∈ S.T0, p.1 = P → p.2 = x ++ ".<locals>." ++ "<lambda>"
section
variable {S : RS} {T : Tb} {Φ : Nat → List D → (D → Prop) → (Nat → Prop) → Prop} {dr : Nat → Nat}
/-- THE RULE: a def of the text, by its core -/
theorem fheldG {lm : Bool} {k : Nat} {x : Str} {N ps : List Str} {params : Arguments} {body : List Stmt} {sc : Scope} {fd : FuncData} {b : Y.S} {L : Nat} (bs : Bas S T) (C : FnC T dr k N ps sc body b L lm) (hlm : lm = true → LamOk S x fd) (F : FunD S.K x x params body sc [] [] (S.fa k) fd) (bi : Binds S.K fd ps [])
    (fh : ∀ j, T.lv j ≤ L → FHeld S Φ dr T.lv j) (hΦ : ∀ ds Q E, Φ k ds Q E → ds.length = ps.length ∧ wpS Φ exName b (initE N ds) (endF Q E)) : FHeld S Φ dr T.lv k := by
  have FS := fnScope_by C.hsc
  refine ⟨⟨_, ps, ?_, bi⟩, F.kp⟩
  rw [C.lv]
  obtain ⟨oc, od, dV, kV, doc, pm, an, cdv, ct, osl, rfl, lk, hcd, _, _⟩ := F.ex
  refine fn_of lk hcd FS (fun vs H Q E ⟨sa, n, F, ds, Qd, Ed, B, hn, ra, hp, _⟩ => ra.length.trans (hΦ _ _ _ hp).1) fun A outer s H vs Q E hr ⟨sa, n, F, ds, Qd, Ed, B, hn, ra, hp, kq, ke⟩ => ?_
  obtain ⟨hlen, hw⟩ := hΦ _ _ _ hp
  have hNp : ps.length ≤ N.length := by
    have := congrArg List.length FS.pre
    rw [List.length_take] at this
    omega
  let R : RT := ⟨S, sa, n + dr k, H, F⟩
  let X := cxOf (L2N.CX S.P S.w) S.P S.w S.K S.mg S.base N x sc (S.fa k) cdv A outer s H E
  have E0 : EnvOk R n F (L2.start N vs) H (initE N ds) := init_ok B ra (by rw [ra.length, hlen]; exact hNp)
  have si : Sit S T Φ dr R ⟨N, sc, none, L, false, lm⟩ X Ed := {
    A := { hP := rfl, hw := rfl, hK := rfl, hm := rfl, hb := rfl, hN := rfl, nd := FS.nd, hs := rfl, hf := fun _ _ => rfl, calm := rfl, hr := hr, hg := fun z => (by cases z) }
    hS := rfl
    w := ⟨⟨_, L2N.takes_of rfl rfl rfl rfl, fun j σ H' q x st => ke j H' q x st⟩, hn, B.tt⟩
    bs := bs
    fh := fh
    lw := fun z => (by cases z)
    lm := fun z => (by
      obtain ⟨c, P, h1, h2, h3, h4⟩ := hlm z
      have tt : sa.T = S.T0 := B.tt
      exact ⟨c, P, h1, h2, by show _ ∈ sa.T; rw [tt]; exact h3, fun p hp => h4 p (by rw [← tt]; exact hp)⟩) }
  refine ⟨_, (sndS b).many si (passes_of rfl) C.ok, n, F, initE N ds, _, E0, Nat.le_trans (Nat.add_le_add_left C.dw n) (Nat.le_refl _), hw, rfl, fun ρ' σ' F' H' q x => ?_, fun _ _ _ _ q _ => q.elim, fun _ _ _ _ q _ => q.elim, fun d v ρ' σ' F' H' q x r => ?_⟩
  · have x2 : NxS R (n + dr k) F H σ' ρ' F' H' := x.mono (Nat.add_le_add_left C.dw n)
    exact kq .N .non F' H' q ⟨x2.env.ext, x2.env.st, x2.sub, x2.env.fr, x2.env.new, x2.env.fs⟩ .non
  · have x2 : NxS R (n + dr k) F H σ' ρ' F' H' := x.mono (Nat.add_le_add_left C.dw n)
    exact kq d v F' H' q ⟨x2.env.ext, x2.env.st, x2.sub, x2.env.fr, x2.env.new, x2.env.fs⟩ r
theorem fheld {k : Nat} {x : Str} {N ps : List Str} {params : Arguments} {body : List Stmt} {sc : Scope} {fd : FuncData} {b : Y.S} {L : Nat} (bs : Bas S T) (C : FnC T dr k N ps sc body b L) (F : FunD S.K x x params body sc [] [] (S.fa k) fd) (bi : Binds S.K fd ps [])
    (fh : ∀ j, T.lv j ≤ L → FHeld S Φ dr T.lv j) (hΦ : ∀ ds Q E, Φ k ds Q E → ds.length = ps.length ∧ wpS Φ exName b (initE N ds) (endF Q E)) : FHeld S Φ dr T.lv k := fheldG bs C (fun z => nomatch z) F bi fh hΦ
/-- a promise of nothing -/
theorem fheld0 {lv : Nat → Nat} {k : Nat} {x : Str} {ps : List Str} {params : Arguments} {body : List Stmt} {sc : Scope} {fd : FuncData} (F : FunD S.K x x params body sc [] [] (S.fa k) fd) (bi : Binds S.K fd ps [])
    (h0 : ∀ ds Q E, ¬ Φ k ds Q E) : FHeld S Φ dr lv k :=
  ⟨⟨_, ps, ⟨fun vs H Q E ⟨sa, n, F, ds, Qd, Ed, B, hn, ra, hp, _⟩ => absurd hp (h0 _ _ _), fun A outer s H args us vs Q E hr he hb hv ⟨sa, n, F, ds, Qd, Ed, B, hn, ra, hp, _⟩ => absurd hp (h0 _ _ _)⟩, bi⟩, F.kp⟩
/-- a def's name for another of its promises -/
theorem bas_cons {gt : List (Str × Gk)} {lv : Nat → Nat} {x : Str} {k : Nat} (b : Bas S ⟨gt, lv⟩) (h : GkOk S x (.fn k)) : Bas S ⟨(x, .fn k) :: gt, lv⟩ := by
  refine ⟨fun y g e => ?_, b.sg⟩
  have e : (match y == x with | true => some (Gk.fn k) | false => gt.lookup y) = some g := e
  split at e
  · rename_i q
    cases e
    rw [eq_of_beq q]
    exact h
  · exact b.g y g e
end
end Y

/-! part Y22 -/
set_option Elab.async false
set_option linter.all false
set_option maxRecDepth 100000
set_option maxHeartbeats 2000000
/-! Y22: the law is called from the place where it is called, one table of code objects. -/
namespace Y
open PySem PySem.Spec
open PyProof.Rows hiding St
open L2 LamX
/-- what is tracked at the law's call: the tables at ts, the script at a (if K does not know it) -/
def lawH (K : PySem.W.Frag) (ts : List Addr) (a : Addr) (o : Obj) (xs : List V) : Hp := fun b => if b ∈ ts then some (.tbl #[]) else if b = a ∧ K.lookup a = none then some (.frz o (.lst xs)) else none
section
variable {P : Program} {w : World} {K : PySem.W.Frag} {mg mb : Str → Option Value} {cx : CXT} {fa a : Addr} {ts : List Addr} {cs : List (Addr × Addr)} {s₁ : Shared} {vs : List Value} {ns : List Int}
theorem lawH_t {o : Obj} {xs : List V} {b : Addr} (h : b ∈ ts) : lawH K ts a o xs b = some (.tbl #[]) := if_pos h
theorem lawH_some {o : Obj} {xs : List V} {b : Addr} {u : HO} (h : lawH K ts a o xs b = some u) : (b ∈ ts ∧ u = .tbl #[]) ∨ (b ∉ ts ∧ b = a ∧ K.lookup a = none ∧ u = .frz o (.lst xs)) := by
  unfold lawH at h
  split at h
  · exact .inl ⟨by assumption, (Option.some.inj h).symm⟩
  · split at h
    · rename_i z
      exact .inr ⟨by assumption, z.1, z.2, (Option.some.inj h).symm⟩
    · cases h
theorem law_callG (KX : K.In s₁.heap) (hns : s₁.heap.Ns mainGlobals mg) (hb : s₁.heap.Ns builtinsNs mb) (hbb : ∀ x : Str, x ≠ "__name__" → mb x = bootBuiltins x) (hlim : s₁.heap.NoLimit) (hg : s₁.gens = #[])
    (hT : ∀ p ∈ cs, s₁.heap.get? p.2 = some { cls := .none, data := .fields #[] }) (nT : ∀ p ∈ cs, K.lookup p.2 = none) (C : ∀ p ∈ cs, PySem.W.CodeHd s₁.heap p.1 p.2)
    (hbm : ∃ (bm : Addr) (ob : Obj), mg "__builtins__" = some (.ref bm) ∧ bm ≠ builtinsNs ∧ s₁.heap.get? bm = some ob ∧ ob.cls = .type "module" ∧ ob.dict = some builtinsNs ∧ ob.data = .plain)
    (ha : s₁.heap.get? a = some { cls := .type "list", data := .seq vs.toArray }) (hi : IntsAre vs ns) (hl : ns.length ≤ sizeLine)
    (F : ∀ (base : Heap) (H : Hp), K.In base → base.Ns mainGlobals mg → (∀ p ∈ cs, TabB base mg p.1 p.2) → Env0 P w K mg base callerA [] s₁ H → (∀ p ∈ cs, H p.2 = some (.tbl #[])) → FzL K H a (ns.map V.int) →
      codeAny (model P w) callerA (.call (.ref fa) ⟨[.ref a], []⟩) (CR cx [] P w H s₁ (fun v _ => v = .bl true) fun _ _ _ => False) s₁)
    (hCX : ∀ H e s', cx [] H s₁ (fun _ _ _ => False) e s' → False) :
    codeAny (model P w) callerA (.call (.ref fa) ⟨[.ref a], []⟩) (fun r s' => r = .ok (.ret (.bool true)) ∧ OldK s₁.heap s'.heap ∧ s'.os = s₁.os ∧ AllBare s'.gens) s₁ := by
  have rv := vals_ints hi
  have isT : ∀ b : Addr, b ∈ cs.map (·.2) → s₁.heap.get? b = some { cls := .none, data := .fields #[] } := fun b hb => by
    obtain ⟨p, hp, e⟩ := List.mem_map.mp hb
    rw [← e]
    exact hT p hp
  have nTT : ∀ b : Addr, b ∈ cs.map (·.2) → K.lookup b = none := fun b hb => by
    obtain ⟨p, hp, e⟩ := List.mem_map.mp hb
    rw [← e]
    exact nT p hp
  have memT : ∀ p ∈ cs, p.2 ∈ cs.map (·.2) := fun p hp => List.mem_map.mpr ⟨p, hp, rfl⟩
  have hat : a ∉ cs.map (·.2) := fun z => by
    rw [isT a z] at ha
    cases Option.some.inj ha
  obtain ⟨oa, hoa⟩ : ∃ oa : Obj, oa = { cls := .type "list", data := .seq vs.toArray } := ⟨_, rfl⟩
  obtain ⟨H, hH⟩ : ∃ H : Hp, H = lawH K (cs.map (·.2)) a oa (ns.map V.int) := ⟨_, rfl⟩
  have hHt : ∀ p ∈ cs, H p.2 = some (.tbl #[]) := fun p hp => by rw [hH]; exact lawH_t (memT p hp)
  have some_of : ∀ {b : Addr} {u : HO}, H b = some u → (b ∈ cs.map (·.2) ∧ u = .tbl #[]) ∨ (b ∉ cs.map (·.2) ∧ b = a ∧ K.lookup a = none ∧ u = .frz oa (.lst (ns.map V.int))) := fun {b u} h => lawH_some (by rw [← hH]; exact h)
  -- an object that is neither is not tracked
  have free : ∀ {b : Addr} {o : Obj}, s₁.heap.get? b = some o → (∀ x n, o.data ≠ .seq x n) → o.data ≠ .fields #[] → H b = none := fun {b o} e d1 d2 => by
    cases q : H b with
    | none => rfl
    | some u =>
      rcases some_of q with ⟨z, _⟩ | ⟨_, z, _⟩
      · rw [isT b z] at e; cases e; exact absurd rfl d2
      · rw [z, ha] at e; cases e; exact absurd rfl (d1 _ _)
  have inB : ∀ {b : Addr} {o : Obj}, s₁.heap.get? b = some o → H b = none → (hidT s₁.heap H).get? b = some o := fun e n => hidT_get e n
  have nsB : ∀ {b : Addr} {m : Str → Option Value}, s₁.heap.Ns b m → (hidT s₁.heap H).Ns b m := fun {b m} ⟨o, es, ep, e, d, r⟩ =>
    ⟨o, es, ep, inB e (free e (fun x n z => by rw [d] at z; cases z) fun z => by rw [d] at z; cases z), d, r⟩
  have hKb : K.In (hidT s₁.heap H) := fun b o e => inB (KX b o e) (by
    cases q : H b with
    | none => rfl
    | some u =>
      rcases some_of q with ⟨z, _⟩ | ⟨_, z, n, _⟩
      · rw [nTT b z] at e; cases e
      · rw [z, n] at e; cases e)
  have hM : L2.Mod K mg (hidT s₁.heap H) := ⟨hKb, nsB hns, ⟨mb, nsB hb, hbb⟩, let ⟨mc, h1, h2⟩ := hlim; ⟨mc, nsB h1, h2⟩⟩
  have TB : ∀ p ∈ cs, TabB (hidT s₁.heap H) mg p.1 p.2 := fun p hp => by
    have hTp := hT p hp
    refine ⟨?_, ?_, fun z => ?_⟩
    · obtain ⟨o, us, file, tf, flags, tg, inF, text, tt, e1, r1, r2, r3, r4, r5, r6, r7, r8, hne⟩ := C p hp
      refine ⟨o, us, file, tf, flags, tg, inF, text, tt, inB e1 (free e1 (fun x n z => ?_) fun z => ?_), r1, r2, r3, r4, r5, r6, r7, r8, hne⟩
      · rw [r2] at z; cases z
      · rw [r2] at z; cases z; simp at r3
    · obtain ⟨bm, ob, b1, b2, b3, b4, b5, b6⟩ := hbm
      refine ⟨bm, ob, b1, b2, fun q => ?_, fun q => ?_, inB b3 (free b3 (fun x n z => ?_) fun z => ?_), b4, b5, b6⟩
      · obtain ⟨o, es, ep, e, hd, _⟩ := hns
        rw [q, e] at b3
        cases b3
        rw [hd] at b6
        cases b6
      · rw [q, hTp] at b3
        cases b3
        cases b6
      · rw [b6] at z; cases z
      · rw [b6] at z; cases z
    · obtain ⟨o, es, ep, e, hd, _⟩ := hns
      rw [z, hTp] at e
      cases e
      cases hd
  have hok : HOk P w H s₁.heap := fun b u q => by
    rcases some_of q with ⟨z, e⟩ | ⟨_, z, _, e⟩
    · subst e; exact isT b z
    · subst z e
      exact ⟨by rw [hoa]; exact ha, by rw [List.length_map]; exact hl, vs, _, rv, ha⟩
  have hS : FzL K H a (ns.map V.int) := by
    cases q : K.lookup a with
    | some o =>
      have e := KX a o q
      rw [ha] at e
      cases e
      have go : ∀ H : Hp, SqL K H a (ns.map V.int) := fun H => .inr ⟨_, vs.toArray, _, q, rfl, rfl, rfl, by rw [List.size_toArray, hi.length]; exact hl, by simpa using rv⟩
      exact ⟨go H, fun H' _ => go H'⟩
    | none =>
      have e : H a = some (.frz oa (.lst (ns.map V.int))) := by
        rw [hH]
        unfold lawH
        rw [if_neg hat, if_pos ⟨rfl, q⟩]
      exact ⟨.inl (.inr ⟨oa, e⟩), fun H' k => .inl (.inr ⟨oa, k _ _ e trivial⟩)⟩
  have e0 : Env0 P w K mg (hidT s₁.heap H) callerA [] s₁ H := ⟨rfl, hM, fun b o e => of_hidT e, Nat.le_of_eq (hidT_size _ _), trivial, fun b hb => absurd (show b ∈ ([] : List Addr) from hb) (by simp), hok, .of_eq hg⟩
  refine codeAny_mono (F _ H hKb (nsB hns) TB e0 hHt hS) fun r s' h => ?_
  cases r with
  | error e => exact (hCX H e s' h).elim
  | ok fl =>
    cases fl with
    | next => exact False.elim h
    | brk => exact False.elim h
    | cont => exact False.elim h
    | ret u =>
      obtain ⟨v, H', os, bare, un, hok', r', q⟩ := h
      have q' : v = .bl true := q
      subst q'
      obtain rfl : u = Value.bool true := r'
      have grown : ∀ p ∈ cs, ∃ more : Array Value, s'.heap.get? p.2 = some { cls := .none, data := .fields more } := fun p hp => by
        obtain ⟨more, z⟩ := un.tbls p.2 #[] (hHt p hp)
        exact ⟨_, hok' p.2 _ z⟩
      have key : ∀ b o, b ∉ cs.map (·.2) → s₁.heap.get? b = some o → s'.heap.get? b = some o := fun b o nb e => by
        cases q : H b with
        | none => exact un.keep b o e q (by intro z; exact absurd (show b ∈ ([] : List Addr) from z) (by simp)) (by simp)
        | some u =>
          rcases some_of q with ⟨z, _⟩ | ⟨_, z, _, eu⟩
          · exact absurd z nb
          · rw [eu] at q
            obtain ⟨e2, _⟩ := hok' b _ (un.frzs b _ _ q)
            obtain ⟨e1, _⟩ := hok b _ q
            rw [e] at e1
            cases e1
            exact e2
      refine ⟨rfl, ⟨fun b o e => ?_, fun b o e => ?_⟩, os, bare⟩
      · by_cases hb : b ∈ cs.map (·.2)
        · obtain ⟨p, hp, ep⟩ := List.mem_map.mp hb
          obtain ⟨more, hm⟩ := grown p hp
          rw [← ep] at e ⊢
          rw [hT p hp] at e
          cases e
          exact .inr (.inl ⟨((C p hp).tab (hT p hp)).isCodeTable, rfl, #[], more, rfl, by rw [Array.empty_append]; exact hm⟩)
        · exact .inl (key b o hb e)
      · by_cases hb : b ∈ cs.map (·.2)
        · obtain ⟨p, hp, ep⟩ := List.mem_map.mp hb
          obtain ⟨more, hm⟩ := grown p hp
          rw [← ep]; exact ⟨_, hm⟩
        · exact ⟨o, key b o hb e⟩
end
end Y

/-! part Y23 -/
set_option Elab.async false
set_option linter.all false
set_option maxRecDepth 100000
set_option maxHeartbeats 2000000
/-! Y23: the law's own numbers: the next one. -/
namespace Y
open PySem PySem.Spec
open PyProof.Rows hiding St
open L2
def isV (x : Str) : Expr → Bool
  | .Name y _ => decide (y = x)
  | _ => false
def isI (i : Int) : Expr → Bool
  | .Constant (.int j) _ _ => decide (j = i)
  | _ => false
/-- state[i] -/
def isS (i : Int) : Expr → Bool
  | .Subscript a b _ => isV "state" a && isI i b
  | _ => false
/-- len(state[0]) -/
def isLS : Expr → Bool
  | .Call (.Name l _) [e] [] _ => decide (l = "len") && isS 0 e
  | _ => false
def isBin (f g : Expr → Bool) (o : Operator) : Expr → Bool
  | .BinOp a o' b _ => decide (o' = o) && f a && g b
  | _ => false
def isNx : List Stmt → Bool
  | [.Assign [.Subscript s1 i1 _] e1 _, .Assign [.Name t _] e2 _, .Return (some (.BinOp (.Call (.Name f _) [e3] [] _) .Mod m _)) _] =>
    isV "state" s1 && isI 1 i1 && isBin (isS 1) (isI 1) .Add e1 && decide (t = "turn") && isBin (isS 1) isLS .FloorDiv e2 && decide (f = "int") && isV "many" m &&
      isBin (isBin (fun e => match e with | .Subscript a b _ => isS 0 a && isBin (isS 1) isLS .Mod b | _ => false) (isBin (isV "turn") (isI 389) .Mult) .Add) (isBin (isBin (isS 1) (isV "turn") .Mult) (isI 17) .Mult) .Add e3
  | _ => false
def nextN : List Str := ["state", "many", "turn"]
def nextSc (sc : Scope) : Bool := C8.scC nextN ["state", "many"] sc && kE sc "state" .local && kE sc "many" .local && kE sc "turn" .local && kE sc "len" .globalImplicit && kE sc "int" .globalImplicit
section
variable {X : Cx}
theorem isBin_ok {f g : Expr → Bool} {o : BO} {e : Expr} {ta tb : TE} (h : isBin f g (opM o) e = true) (hf : ∀ {e}, f e = true → PE X e ta) (hg : ∀ {e}, g e = true → PE X e tb) : PE X e (tOp (rB X.K o) ta tb) := by
  unfold isBin at h
  split at h
  · simp only [Bool.and_eq_true, decide_eq_true_eq] at h
    rw [h.1.1]
    exact pe_op (op_bin o) (hf h.1.2) (hg h.2)
  · cases h
theorem isI_ok {i : Int} {e : Expr} (h : isI i e = true) : PE X e (tC (.int i)) := by
  unfold isI at h
  split at h
  · rw [← of_decide_eq_true h]; exact pe_int
  · cases h
theorem isV_ok {x : Str} {i : Nat} {e : Expr} (hN : X.N[i]? = some x) (hv : Vis X.env.scope x) (hd : (x == ("__debug__" : Str)) = false) (hc : (x == ("__classdict__" : Str)) = false) (h : isV x e = true) : PE X e (tVar i) := by
  unfold isV at h
  split at h
  · rw [of_decide_eq_true h]; exact pe_var hN hv hd hc
  · cases h
theorem isI_plain {i : Int} {e : Expr} (h : isI i e = true) : PlainIx e := by
  unfold isI at h
  split at h
  · exact fun _ _ => rfl
  · cases h
theorem isI_star {i : Int} {e : Expr} (h : isI i e = true) : isStar e = false := by
  unfold isI at h
  split at h
  · rfl
  · cases h
structure NxF (X : Cx) : Prop where
  hN : X.N = nextN
  sc : nextSc X.env.scope = true
  mL : X.mg "len" = none
  mI : X.mg "int" = none
theorem NxF.sc_ (F : NxF X) : C8.scC nextN ["state", "many"] X.env.scope = true ∧ X.env.scope.names.lookup ("state" : Str) = some .local ∧ X.env.scope.names.lookup ("many" : Str) = some .local ∧ X.env.scope.names.lookup ("turn" : Str) = some .local ∧ Gl X "len" ∧ Gl X "int" := by
  have h := F.sc
  unfold nextSc at h
  simp only [Bool.and_eq_true] at h
  exact ⟨h.1.1.1.1.1, kE_ok h.1.1.1.1.2, kE_ok h.1.1.1.2, kE_ok h.1.1.2, kE_ok h.1.2, kE_ok h.2⟩
theorem v0 (F : NxF X) {e : Expr} (h : isV "state" e = true) : PE X e (tVar 0) := isV_ok (by rw [F.hN]; rfl) (.inl F.sc_.2.1) (by decide +kernel) (by decide +kernel) h
theorem v1 (F : NxF X) {e : Expr} (h : isV "many" e = true) : PE X e (tVar 1) := isV_ok (by rw [F.hN]; rfl) (.inl F.sc_.2.2.1) (by decide +kernel) (by decide +kernel) h
theorem v2 (F : NxF X) {e : Expr} (h : isV "turn" e = true) : PE X e (tVar 2) := isV_ok (by rw [F.hN]; rfl) (.inl F.sc_.2.2.2.1) (by decide +kernel) (by decide +kernel) h
theorem isS_ok (F : NxF X) {i : Int} {e : Expr} (h : isS i e = true) : PE X e (tOp (rIx X.K) (tVar 0) (tC (.int i))) := by
  unfold isS at h
  split at h
  · rw [Bool.and_eq_true] at h
    exact pe_ix ix_seq (v0 F h.1) (isI_ok h.2) (isI_plain h.2)
  · cases h
theorem isS_star {i : Int} {e : Expr} (h : isS i e = true) : isStar e = false := by
  unfold isS at h
  split at h
  · rfl
  · cases h
theorem isLS_ok (F : NxF X) {e : Expr} (h : isLS e = true) : PE X e (tCB (fun xs H Q => ∃ p ys, xs = [.ref p] ∧ (SqL X.K H p ys ∨ SqT X.K H p ys) ∧ Q (.int ys.length) H) (tCons (tOp (rIx X.K) (tVar 0) (tC (.int 0))) tNil)) := by
  unfold isLS at h
  split at h
  · rw [Bool.and_eq_true, decide_eq_true_eq] at h
    obtain ⟨rfl, h⟩ := h
    exact pe_callB call_len_seq F.sc_.2.2.2.2.1 F.mL (by decide +kernel) (pa_cons (isS_ok F h) pa_nil (each_plain (isS_star h))) (by decide +kernel) (by decide +kernel) (each_plain (isS_star h)) rfl
  · cases h
/-- what the next number's def comes to -/
def tNx (s b : Addr) (c m : Int) (ns : List Int) (Q : VK) (H : Hp) : Prop := H s = some (.lst [V.ref b, V.int c]) ∧ H b = some (.lst (ns.map V.int)) ∧ s ≠ b ∧ 0 < ns.length ∧ ns.length ≤ 4000 ∧ 0 ≤ c ∧ c + 1 ≤ 2 ^ 4001 ∧ 0 < m ∧ ∀ x, 0 ≤ x → x < m → Q (.int x) (upd H s (.lst [V.ref b, V.int (c + 1)]))
theorem small_mul {i j : Int} {p : Nat} (hi : i.natAbs < 2 ^ p) (hj : j.natAbs < 2 ^ p) (hp : p ≤ 20000) : CMulX i j := mulx_ok hi hj (by omega)
theorem pss_next {bg : List Stmt} (F : NxF X) (h : isNx bg = true) : PSs X bg (fun D σ H => ∃ s b c m ns, σ = [some (.ref s), some (.int m), none] ∧ tNx s b c m ns D.rt H) := by
  unfold isNx at h
  split at h
  · rename_i s1 i1 p1 e1 p2 t p3 e2 p4 f p5 e3 p6 m p7 p8
    simp only [Bool.and_eq_true, decide_eq_true_eq] at h
    obtain ⟨⟨⟨⟨⟨⟨⟨h1, h2⟩, h3⟩, rfl⟩, h5⟩, rfl⟩, h7⟩, h8⟩ := h
    have hN : X.N.Nodup := (C8.fnScope_by F.sc_.1).nd |> fun z => by rw [F.hN]; exact z
    have he3 : starEach [e3] X.env = (false, eval e3 X.env) :: starEach [] X.env := by
      unfold isBin at h8
      split at h8
      · rfl
      · cases h8
    have hi1 : ∀ v, assign (.Subscript s1 i1 p1) X.env v = (do
      let ov ← holding [v] (eval s1 X.env)
      let iv ← holding [v, ov] (eval i1 X.env)
      standAt p1
      holding [v, ov, iv] (setItem ov iv v)
      release [v, ov, iv] []) := by
      unfold isI at h2
      split at h2
      · intro v; rfl
      · cases h2
    have he2 : swapsWith e2 (some (.Name "turn" p3)) p4.line X.env = pure false := by
      unfold isBin at h5
      split at h5
      · rfl
      · cases h5
    refine PSsw (pss_cons (ps_asg (isBin_ok (o := .add) h3 (isS_ok F) isI_ok) (pg_sub (v0 F h1) (isI_ok h2) set_list hi1) sw_soleS rfl rfl)
      (pss_cons (ps_set (i := 2) hN (by rw [F.hN]; rfl) (.inl F.sc_.2.2.2.1) (isBin_ok (o := .fdiv) h5 (isS_ok F) (isLS_ok F)) he2 (.inr F.sc_.2.2.2.1))
      (pss_one (ps_ret (pe_op (op_bin .mod) (pe_callTy call_int1 F.sc_.2.2.2.2.2 F.mI (by decide +kernel) (pa_cons (isBin_ok (o := .add) h8
        (fun h => isBin_ok (o := .add) h (ta := tOp (rIx X.K) (tOp (rIx X.K) (tVar 0) (tC (.int 0))) (tOp (rB X.K .mod) (tOp (rIx X.K) (tVar 0) (tC (.int 1))) (tCB (fun xs H Q => ∃ p ys, xs = [.ref p] ∧ (SqL X.K H p ys ∨ SqT X.K H p ys) ∧ Q (.int ys.length) H) (tCons (tOp (rIx X.K) (tVar 0) (tC (.int 0))) tNil)))) (fun h => by
            split at h
            · rw [Bool.and_eq_true] at h
              refine pe_ix ix_seq (isS_ok F h.1) (isBin_ok (o := .mod) h.2 (isS_ok F) (isLS_ok F)) ?_
              have h2 := h.2
              unfold isBin at h2
              split at h2
              · exact fun _ _ => rfl
              · cases h2
            · cases h) (fun h => isBin_ok (o := .mul) h (v2 F) isI_ok))
        (fun h => isBin_ok (o := .mul) h (fun h => isBin_ok (o := .mul) h (isS_ok F) (v2 F)) isI_ok)) pa_nil he3) (by decide +kernel) (by decide +kernel) he3 rfl) (v1 F h7)))))) fun D σ H ⟨s, b, c, m0, ns, e, q1, q2, q3, q4, q5, q6, q7, q8, q9⟩ => ?_
    subst e
    have q2' : ∀ v, upd H s v b = some (.lst (ns.map V.int)) := fun v => by rw [upd_ne (Ne.symm q3)]; exact q2
    -- state[1] = state[1] + 1
    refine ⟨_, rfl, .inl ⟨s, _, 1, _, rfl, rfl, SqL.of q1, rfl, .inl ⟨c, 1, rfl, rfl, ?_⟩⟩⟩
    refine ⟨_, rfl, s, _, 1, 1, rfl, rfl, q1, rfl, ?_⟩
    show tSeq _ _ _ _ (upd H s (.lst [V.ref b, V.int (c + 1)]))
    generalize hH1 : upd H s (.lst [V.ref b, V.int (c + 1)]) = H1 at q9 ⊢
    have r1 : H1 s = some (.lst [V.ref b, V.int (c + 1)]) := by rw [← hH1, upd_same]
    have r2 : H1 b = some (.lst (ns.map V.int)) := by rw [← hH1]; exact q2' _
    have hlen : ((ns.map V.int).length : Int) = ns.length := by rw [List.length_map]
    have hl2 : (ns.length : Int).natAbs.log2 < 9000 := by
      have : ns.length.log2 < 9000 := by
        rcases Nat.lt_or_ge ns.length.log2 9000 with z | z
        · exact z
        · have := Nat.log2_self_le (n := ns.length) (by omega)
          have h2 : 2 ^ 9000 ≤ 2 ^ ns.length.log2 := Nat.pow_le_pow_right (by decide) z
          have h3 : (4000 : Nat) < 2 ^ 9000 := by decide +kernel
          omega
      simpa using this
    -- turn = state[1] // len(state[0])
    refine ⟨_, rfl, .inl ⟨s, _, 1, _, rfl, rfl, SqL.of r1, rfl, _, rfl, .inl ⟨s, _, 0, _, rfl, rfl, SqL.of r1, rfl, b, _, rfl, .inl (SqL.of r2), ?_⟩⟩⟩
    refine ⟨_, _, rfl, rfl, ⟨by rw [hlen]; omega, by rw [hlen]; exact hl2⟩, ?_⟩
    generalize hturn : (c + 1).fdiv ((ns.map V.int).length : Int) = turn
    have ht0 : 0 ≤ turn := by rw [← hturn, hlen]; exact Int.fdiv_nonneg (by omega) (by omega)
    have ht1 : turn ≤ c + 1 := by
      rw [← hturn, hlen, Int.fdiv_eq_ediv_of_nonneg _ (by omega)]
      exact Int.ediv_le_self _ (by omega)
    have hc1 : (c + 1).natAbs < 2 ^ 4002 := by
      have : (2 : Int) ^ 4001 < 2 ^ 4002 := by decide +kernel
      have e : ((2 ^ 4002 : Nat) : Int) = 2 ^ 4002 := by norm_cast
      omega
    have ht2 : turn.natAbs < 2 ^ 4002 := by omega
    -- the return
    have hmod : ∃ y, atI (ns.map V.int) ((c + 1).fmod ((ns.map V.int).length : Int)) = some (V.int y) := by
      have h0 : 0 ≤ (c + 1).fmod ((ns.map V.int).length : Int) := by rw [hlen]; exact Int.fmod_nonneg_of_pos _ (by omega)
      have h1 : (c + 1).fmod ((ns.map V.int).length : Int) < ns.length := by rw [hlen]; exact Int.fmod_lt_of_pos _ (by omega)
      generalize (c + 1).fmod ((ns.map V.int).length : Int) = j at h0 h1
      unfold atI ixN
      rw [if_pos h0, if_pos (by rw [hlen]; exact h1)]
      show ∃ y, (ns.map V.int)[j.toNat]? = _
      rw [List.getElem?_map, List.getElem?_eq_getElem (by omega)]
      exact ⟨_, rfl⟩
    obtain ⟨y, hy⟩ := hmod
    have b389 : (389 : Int).natAbs < 2 ^ 4002 := by decide +kernel
    have b17 : (17 : Int).natAbs < 2 ^ 8004 := by decide +kernel
    have hmul1 : CMulX turn 389 := small_mul (p := 4002) ht2 b389 (by decide)
    have hmul2 : CMulX (c + 1) turn := small_mul (p := 4002) hc1 ht2 (by decide)
    have hmul3 : CMulX ((c + 1) * turn) 17 := by
      refine small_mul (p := 8004) ?_ b17 (by decide)
      rw [Int.natAbs_mul, show (8004 : Nat) = 4002 + 4002 from rfl, Nat.pow_add]
      exact Nat.mul_lt_mul'' hc1 ht2
    have hne : ((ns.map V.int).length : Int) ≠ 0 := by rw [hlen]; omega
    simp only [gName, List.set_cons_succ, List.set_cons_zero, hturn]
    refine ⟨_, rfl, .inl ⟨s, _, 0, _, rfl, rfl, SqL.of r1, rfl, _, rfl, .inl ⟨s, _, 1, _, rfl, rfl, SqL.of r1, rfl, _, rfl, .inl ⟨s, _, 0, _, rfl, rfl, SqL.of r1, rfl, b, _, rfl, .inl (SqL.of r2), ?_⟩⟩⟩⟩
    refine ⟨_, _, rfl, rfl, hne, .inl ⟨b, _, _, _, rfl, rfl, SqL.of r2, hy, ?_⟩⟩
    refine ⟨_, rfl, .inl ⟨turn, 389, rfl, rfl, hmul1, .inl ⟨_, _, rfl, rfl, ?_⟩⟩⟩
    refine ⟨_, rfl, .inl ⟨s, _, 1, _, rfl, rfl, SqL.of r1, rfl, _, rfl, .inl ⟨c + 1, turn, rfl, rfl, hmul2, .inl ⟨_, 17, rfl, rfl, hmul3, .inl ⟨_, _, rfl, rfl, .inl ⟨_, rfl, _, rfl, ?_⟩⟩⟩⟩⟩⟩
    exact ⟨_, _, rfl, rfl, by omega, q9 _ (Int.fmod_nonneg_of_pos _ q8) (Int.fmod_lt_of_pos _ q8)⟩
  · cases h
end
end Y

/-! part Y24 -/
set_option Elab.async false
set_option linter.all false
set_option maxRecDepth 100000
set_option maxHeartbeats 2000000
/-! Y24: the next number's promise; the law's rule. -/
namespace Y
open PySem PySem.Spec
open PyProof.Rows hiding St
open L2
open C8 (scC fnScope_by)
section
variable {S : RS} {T : Tb} {Φ : Nat → List D → (D → Prop) → (Nat → Prop) → Prop} {dr : Nat → Nat}
theorem next_held {k : Nat} {params : Arguments} {body : List Stmt} {sc : Scope} {fd : FuncData} (F : FunD S.K "_law_next" "_law_next" params body sc [] [] (S.fa k) fd) (bi : Binds S.K fd ["state", "many"] []) (hsc : nextSc sc = true) (hb : isNx body = true)
    (mL : S.mg "len" = none) (mI : S.mg "int" = none) (lv : T.lv k = 1) (hdr : dr k = 1) (hΦ : ∀ ds Q E, Φ k ds Q E → ∃ m : Int, ds = [.st, .I m] ∧ 0 < m ∧ ∀ x : Int, 0 ≤ x → x < m → Q (.I x)) : FHeld S Φ dr T.lv k := by
  have hs1 : scC nextN ["state", "many"] sc = true := by
    unfold nextSc at hsc
    simp only [Bool.and_eq_true] at hsc
    exact hsc.1.1.1.1.1
  have FS := fnScope_by hs1
  refine ⟨⟨_, ["state", "many"], ?_, bi⟩, F.kp⟩
  rw [lv]
  refine F.ok FS (fun vs H Q E ⟨sa, n, F, ds, Qd, Ed, B, hn, ra, hp, _⟩ => ?_) fun cdv A outer s H vs Q E hr ⟨sa, n, F, ds, Qd, Ed, B, hn, ra, hp, kq, ke⟩ => ?_
  · obtain ⟨m, rfl, _⟩ := hΦ _ _ _ hp
    exact ra.length
  · obtain ⟨m, rfl, hm, hq⟩ := hΦ _ _ _ hp
    rw [hdr] at hn
    refine ⟨_, pss_next ⟨rfl, hsc, mL, mI⟩ hb, ?_⟩
    match vs, ra with
    | [v, w], ⟨r1, r2, _⟩ =>
      obtain ⟨st, b, es, rfl⟩ := r1
      cases (RB.int (.inl r2))
      obtain ⟨c, ns, q1, q2, q3, q4, q5, q6, q7⟩ := B.st.1 st b es
      have nsb : st ≠ b := fun z => by
        rw [← z, q1] at q4
        have h1 := Option.some.inj q4
        injection h1 with h2
        cases ns with
        | nil => cases h2
        | cons x xs => simp at h2
      have hbig : (BIG : Int) ≤ 2 ^ 4000 := by unfold BIG; exact_mod_cast Nat.le_refl _
      have hlt : (2 : Int) ^ 4000 + 1 ≤ 2 ^ 4001 := by decide +kernel
      refine ⟨st, b, c, m, ns, rfl, q1, q4, nsb, q5, q6, q2, by omega, hm, fun x h0 h1 => ?_⟩
      refine kq (.I x) (.int x) F _ (hq x h0 h1) ?_ (.int x)
      have ne : ∀ b', NotS sa b' → b' ≠ st := fun b' h => h.1 st b es
      refine ⟨fun b' o q h => by rw [upd_ne (ne b' h)]; exact q, ⟨fun s2 b2 e2 => ?_, fun p hp => ?_⟩, fun _ h => h, fun a ha => ?_, fun _ h => .inl h, B.fs⟩
      · have e2 : sa.s = some (s2, b2) := e2
        rw [es] at e2
        cases e2
        exact ⟨c + 1, ns, upd_same, by omega, by show c + 1 ≤ ((n + dr k : Nat) : Int); rw [hdr]; omega, by rw [upd_ne (Ne.symm nsb)]; exact q4, q5, q6, q7⟩
      · obtain ⟨ps, t1, t2, t3⟩ := B.st.2 p hp
        refine ⟨ps, ?_, t2, fun pos cv hc => ?_⟩
        · rw [upd_ne (fun z => by rw [z, q1] at t1; cases t1)]
          exact t1
        · obtain ⟨c0, e1, e2⟩ := t3 pos cv hc
          exact ⟨c0, e1, by rw [upd_ne (fun z => by rw [z, q1] at e2; cases e2)]; exact e2⟩
      · rw [upd_ne (ne a (B.fs a ha))]
        exact B.fr a ha
/-! ### the law -/
/-- what the law rests on -/
structure LawD (S : RS) (c t : Addr) : Prop where
  tab : LamX.TabB S.base S.mg c t
  mem : (t, ("law" : Str) ++ ".<locals>." ++ "<lambda>") ∈ S.T0
  uni : ∀ p ∈ S.T0, p.1 = t → p.2 = ("law" : Str) ++ ".<locals>." ++ "<lambda>"
  told : ∃ g pg bg sg fd, S.mg "_law_told" = some (.ref g) ∧ FunD S.K "_law_told" "_law_told" pg bg sg [] [] g fd ∧ Binds S.K fd ["call"] [] ∧ toldB sg bg = true
  cls : ClsF S
  same : ∃ g pg bg sg fd, S.mg "_law_same" = some (.ref g) ∧ FunD S.K "_law_same" "_law_same" pg bg sg [] [] g fd ∧ Binds S.K fd ["told", "due"] [] ∧ sameB sg bg = true
  rep : S.mg "repr" = none
/-- [_law_stream(script), 0] -/
def stC (kS : Nat) : C := .lst (.cons (.call kS (.cons (.var 0) .nil)) (.cons (.lit (.int 0)) .nil))
theorem st_drw {kS : Nat} (h : dr kS = 0) : drw dr (stC kS) = 0 := by
  show 0 + dr kS + (0 + 0) = 0
  omega
theorem st_wp {kS : Nat} {N : List Str} (h : ∀ Q, (∀ ms : List Int, 0 < ms.length → ms.length ≤ 4000 → (∀ z ∈ ms, 0 ≤ z ∧ z < 1009) → Q (.L (ms.map PyData.int))) → Φ kS [.scr] Q noE) :
    wp Φ exName (stC kS) (initE N [.scr]) (fun d => ∃ ms : List Int, 0 < ms.length ∧ ms.length ≤ 4000 ∧ (∀ z ∈ ms, 0 ≤ z ∧ z < 1009) ∧ d = .L [.list (ms.map PyData.int), .int 0]) noE := by
  show Φ kS [.scr] _ noE
  exact h _ fun ms h1 h2 h3 => ⟨[.list (ms.map PyData.int), .int 0], rfl, by show 2 ≤ sizeLine; decide, ms, h1, h2, h3, rfl⟩
theorem intsP_map : ∀ ns : List Int, intsP (ns.map PyData.int) = some ns
  | [] => rfl
  | n :: ns => by
    simp only [List.map_cons, intsP]
    rw [intsP_map ns]
    rfl
theorem ints_vs {sg : Bool} {K : PySem.W.Frag} {F : Addr → Prop} {H : Hp} {vs : List V} {ns : List Int} (h : RpAll sg K F H vs (ns.map PyData.int)) : vs = ns.map V.int := h.ints (intsP_map ns)
/-- state = [_law_stream(script), 0]; .. -/
def law0B (T : Tb) (dr : Nat → Nat) (kS i : Nat) (N : List Str) (sc : Scope) (L : Nat) (b : Y.S) : List Stmt → Bool
  | .Assign [.Name x _] e _ :: rest => kLoc ⟨N, sc, none, L, false, false⟩ i x && (ck T dr (stC kS)).e ⟨N, sc, none, L, false, false⟩ e && !isLC e && decide (x = "state") && (ckS T dr b).many ⟨N, sc, none, L, true, false⟩ rest
  | _ => false
theorem law_rule {P : Program} {w : World} {K : PySem.W.Frag} {mg : Str → Option Value} {base : Heap} {c t a : Addr} {fl : Addr} {params : Arguments} {body : List Stmt} {sc : Scope} {fd : FuncData} {N : List Str} {b : Y.S} {L kS i : Nat} {s₁ : Shared} {H : Hp} {ns : List Int} {fa' ex' : Nat → Addr} {sg' : Bool} {T0' : List (Addr × Str)}
    (hS : S = ⟨P, w, K, mg, base, fa', ex', sg', T0'⟩) (bs : Bas S T) (F : FunD K "law" "law" params body sc [] [] fl fd) (hcode : PySem.W.codeIn K fd.code "law" = true → fd.code = .ref c) (hbind : ∀ (s : Shared) (u : Value), BindsTo s fd ⟨[u], []⟩ [("script", u)]) (fh : ∀ j, T.lv j ≤ L → FHeld S Φ dr T.lv j) (D : LawD S c t)
    (hsc : scC N ["script"] sc = true) (h0 : law0B T dr kS i N sc L b body = true) (hr : Room (L + 1) callerA) (hkS : T.lv kS ≤ L) (hdS : dr kS = 0) (hdw : drwS dr b ≤ BIG)
    (e0 : Env0 P w K mg base callerA [] s₁ H) (hHt : ∀ p ∈ S.T0, H p.1 = some (.tbl #[])) (hSc : FzL K H a (ns.map V.int)) (hl : ns.length ≤ 63) (hbits : ∀ z ∈ ns, Builtin.Int.intBits z ≤ 1048576)
    (hi0 : i ≠ 0) (hΦ : ∀ Q, (∀ ms : List Int, 0 < ms.length → ms.length ≤ 4000 → (∀ z ∈ ms, 0 ≤ z ∧ z < 1009) → Q (.L (ms.map PyData.int))) → Φ kS [.scr] Q noE)
    (hw : wpS Φ exName b ((List.replicate N.length none).set i (some (.sh .st))) (endF (fun d => d = .B true) noE)) :
    codeAny (model P w) callerA (.call (.ref fl) ⟨[.ref a], []⟩) (CR (L2N.CX P w) [] P w H s₁ (fun v _ => v = .bl true) fun _ _ _ => False) s₁ := by
  subst hS
  obtain ⟨oc, od, dV, kV, doc, pm, an, cdv, ct, osl, rfl, lk, hcd, _⟩ := F.ex
  have FS := fnScope_by hsc
  refine LamX.run_ofS (N := N) (ps := ["script"]) (us := [.ref a]) (vs := [.ref a]) lk hcd FS hr e0 (hbind s₁ (.ref a)) (.cons rfl .nil) rfl fun hr' => ?_
  let S : RS := ⟨P, w, K, mg, base, fa', ex', sg', T0'⟩
  let X := cxOf (L2N.CX P w) P w K mg base N "law" sc fl cdv callerA [] s₁ H fun _ _ _ => False
  have hNp : 1 ≤ N.length := by
    have := congrArg List.length FS.pre
    rw [List.length_take] at this
    simp at this
    omega
  have hcode' : X.env.code = .ref c := hcode hcd
  have at0 : ∀ g, (g = true → X.A.guards = some []) → At S ⟨N, sc, none, L, g, false⟩ X := fun g hg =>
    { hP := rfl, hw := rfl, hK := rfl, hm := rfl, hb := rfl, hN := rfl, nd := FS.nd, hs := rfl, hf := fun _ _ => rfl, calm := rfl, hr := hr', hg := hg }
  have tabs : LamX.Tabs T0' H := fun p hp => LamX.TabS.nil (hHt p hp)
  let sa1 : SA := ⟨none, T0'⟩
  let R1 : RT := ⟨S, sa1, 0, H, fun _ => False⟩
  have st1 : StOk sa1 0 H := ⟨fun _ _ e => (nomatch e), tabs⟩
  have B1 : Bef R1 0 (fun _ => False) H := ⟨st1, st1.s0, fun _ h => h.elim, fun _ h => h.elim, rfl⟩
  have E1 : EnvOk R1 0 (fun _ => False) (L2.start N [.ref a]) H (initE N [.scr]) := init_ok B1 ⟨⟨a, ns, rfl, hSc, hl, hbits⟩, trivial⟩ hNp
  have si1 : Sit S T Φ dr R1 ⟨N, sc, none, L, false, false⟩ X noE :=
    { A := at0 false (fun z => (nomatch z)), hS := rfl, w := ⟨⟨_, L2N.takes_of rfl rfl rfl rfl, fun k _ _ h => h.elim⟩, Nat.zero_le _, rfl⟩, bs := bs, fh := fh, lw := fun z => (nomatch z), lm := fun z => (nomatch z) }
  cases body with
  | nil => cases h0
  | cons s0 rest =>
    unfold law0B at h0
    split at h0
    · rename_i x p1 e p2 rest' heq
      cases heq
      simp only [Bool.and_eq_true, Bool.not_eq_true', decide_eq_true_eq] at h0
      obtain ⟨⟨⟨⟨g1, g2⟩, g3⟩, g4⟩, g5⟩ := h0
      obtain ⟨f1, f2, f3⟩ := kLoc_ok si1 g1
      have pe := (snd (S := S) (T := T) (Φ := Φ) (dr := dr) (stC kS)).e si1 g2
      have pe : PE X e (TEx Φ exName dr R1 (rlN R1) noE (stC kS)) := pe
      -- the rest, from any state
      refine ⟨fun D' σ H' => tAsg (TEx Φ exName dr R1 (rlN R1) noE (stC kS)) (gName i) { D' with nx := fun σ2 H2 => ∃ st b2, σ2 = (L2.start N [.ref a]).set i (some (.ref st)) ∧ TSx Φ dr ⟨S, ⟨some (st, b2), T0'⟩, drwS dr b, H2, fun _ => False⟩ noE b D' σ2 H2 } σ H', ⟨fun pins s σ H' D' I hq => ?_⟩, ?_⟩
      · refine wpAny_execs_cons (thn ((ps_set FS.nd f1 f2 pe (sw_plain g3) f3).run pins s σ H' _ I hq) fun f s1 q => ?_)
        cases f with
        | next =>
          obtain ⟨σ2, H2, I2, st, b2, hσ, q⟩ := q
          have si2 : Sit S T Φ dr ⟨S, ⟨some (st, b2), T0'⟩, drwS dr b, H2, fun _ => False⟩ ⟨N, sc, none, L, true, false⟩ X noE :=
            { A := at0 true (fun _ => rfl), hS := rfl, w := ⟨⟨_, L2N.takes_of rfl rfl rfl rfl, fun k _ _ h => h.elim⟩, hdw, rfl⟩, bs := bs, fh := fh, lm := fun z => (nomatch z)
              lw := fun _ => ⟨⟨c, t, D.tab, hcode', D.mem, D.uni⟩, D.told, D.cls, D.same, D.rep, rfl⟩ }
          exact ((sndS b).many si2 (passes_of rfl) g5).run pins s1 σ2 H2 D' I2 q
        | ret v => exact q
        | brk => exact q
        | cont => exact q
      · refine ⟨0, fun _ => False, initE N [.scr], fun d => ∃ ms : List Int, 0 < ms.length ∧ ms.length ≤ 4000 ∧ (∀ z ∈ ms, 0 ≤ z ∧ z < 1009) ∧ d = .L [.list (ms.map PyData.int), .int 0], E1, by rw [st_drw hdS]; exact Nat.le_refl _, st_wp hΦ, fun d v F' H' q x r => ?_⟩
        obtain ⟨ms, m1, m2, m3, rfl⟩ := q
        rcases r with ⟨_, r⟩ | ⟨st, vs, ps, e1, e2, n1, n2, n3, n4⟩
        · exact absurd rfl (r _)
        · cases e1
          subst e2
          match vs, n4 with
          | [v1, v2], .cons r1 (.cons r2 .nil) =>
            cases r2
            cases r1 with
            | @lst b2 ws _ k1 k2 k3 =>
              have hws := ints_vs k3
              subst hws
              have hiN : i < N.length := by
                exact (List.getElem?_eq_some_iff.mp f1).1
              have hlN : (L2.start N [V.ref a]).length = N.length := by
                unfold L2.start
                simp only [List.length_append, List.length_map, List.length_replicate, List.length_cons, List.length_nil]
                omega
              have st2 : StOk ⟨some (st, b2), T0'⟩ 0 H' := ⟨fun s b e => by
                cases e
                exact ⟨0, ms, n2, Int.le_refl _, Int.le_refl _, k1, m1, m2, m3⟩, x.env.st.2⟩
              refine ⟨st, b2, rfl, 0, fun _ => False, (List.replicate N.length none).set i (some (.sh .st)), endF (fun d => d = .B true) noE, ⟨.refl, st2, st2.s0, fun _ h => h.elim, fun _ h => h.elim, fun _ h => h.elim, ?_, fun j sl hj => ?_, fun j k aa ps qs hj _ _ _ => ?_⟩, by show 0 + drwS dr b ≤ drwS dr b; omega, hw, rfl, fun _ _ _ _ q _ => (by cases (show Y.D.N = Y.D.B true from q)), fun _ _ _ _ q _ => (False.elim q), fun _ _ _ _ q _ => (False.elim q), fun d v _ _ _ _ q _ r => ?_⟩
              · rw [List.length_set, List.length_set, List.length_replicate, hlN]
              · rcases set_get hj with ⟨z1, z2⟩ | ⟨_, z2⟩
                · subst z1
                  cases z2
                  exact ⟨.ref st, by rw [List.getElem?_set_self (by rw [hlN]; exact hiN)], st, b2, rfl, rfl⟩
                · rw [List.getElem?_replicate] at z2
                  split at z2 <;> cases z2
              · rcases set_get hj with ⟨z1, z2⟩ | ⟨_, z2⟩
                · cases z2
                · rw [List.getElem?_replicate] at z2
                  split at z2 <;> cases z2
              · have q : d = .B true := q
                subst q
                exact RB.bool (.inl r)
    · cases h0
end
end Y

/-! part Y25 -/
set_option Elab.async false
set_option linter.all false
set_option maxRecDepth 100000
set_option maxHeartbeats 2000000
/-! Y25: the head's facts, for the layer. -/
namespace Y
open PySem PySem.Spec
open PyProof.Rows hiding St
open L2
def gkFa : Str × Gk → List He.Fa
  | (x, .fn _) => [.glo x]
  | (x, .int i) => [.int x i]
  | (x, .abs) => [.free x]
  | (x, .ex _) => [.glo x, .exc x]
  | (x, .tup _) => [.glo x]
/-- the i-th function's name -/
def nmOf (gts : List (Str × Gk)) (k : Nat) : Str := match gts.find? fun p => match p.2 with | .fn j => j == k | _ => false with
  | some p => p.1
  | none => ""
def gtsOk (gts : List (Str × Gk)) : Bool := gts.all fun p => match p.2 with
  | .fn k => decide (nmOf gts k = p.1)
  | .ex k => decide (clsN.getD k "" = p.1) && !(p.1 == ("__debug__" : Str))
  | _ => true
def excB (K : PySem.W.Frag) (x : Str) : Bool :=
  He.eqO (PySem.W.findIn K (.ref (He.ga K x)) "__getattribute__") (some (some (.builtin "BaseException.__getattribute__"))) && (He.eqO (PySem.W.findIn K (.ref (He.ga K x)) "__getattr__") (some none) && (decide (PySem.W.subIn K (.ref (He.ga K x)) (.type "BaseException") = some true) && (PySem.W.hasDictIn K (He.ga K x) &&
  (He.eqO (PySem.W.findIn K (.ref (He.ga K x)) "__class__") (some (some (.builtin "object.__class__"))) && (He.eqO (PySem.W.specialIn K (.builtin "object.__class__") "__get__") (some (some (.builtin "getset_descriptor.__get__"))) && (decide (PySem.W.takesIn K (.builtin "object.__class__") = some true) && decide (PySem.W.mroIn K (He.ga K x) (.type "object") = some true)))))))
def kitB (K : PySem.W.Frag) : Bool := (List.range 3).all fun k => (List.range 6).all fun j => decide (PySem.W.kitOne K (.ref (He.ga K (clsN.getD k ""))) (.ref (He.ga K (clsN.getD j ""))) = some (decide (k = j)))
def exmB (K : PySem.W.Frag) : Bool := (List.range 3).all fun k => decide (PySem.W.exmOne K (.ref (He.ga K (clsN.getD k ""))) (.ref (He.ga K "SpreadError")) = some true)
def exB (K : PySem.W.Frag) : Bool := ((List.range 3).all fun k => excB K (clsN.getD k "")) && (kitB K && exmB K)
/-- the ints of a tuple -/
def intsV : List Value → List Int → Bool
  | [], [] => true
  | .int i _ :: r, j :: s => decide (i = j) && intsV r s
  | _, _ => false
theorem intsV_ok : ∀ {us : List Value} {is : List Int}, intsV us is = true → Vals (is.map V.int) us
  | [], [], _ => .nil
  | .int i t :: r, j :: s, h => by
    have h : (decide (i = j) && intsV r s) = true := h
    obtain ⟨h1, h2⟩ := He.ba h
    have h1 : i = j := of_decide_eq_true h1
    subst h1
    exact .cons ⟨t, rfl⟩ (intsV_ok h2)
def tupB (K : PySem.W.Frag) (x : Str) (is : List Int) : Bool := match K.lookup (He.ga K x) with
  | some ⟨.type "tuple", _, .seq its _, _⟩ => decide (its.size ≤ sizeLine) && intsV its.toList is
  | _ => false
theorem tupB_ok {K : PySem.W.Frag} {x : Str} {is : List Int} (h : tupB K x is = true) (H : Hp) : SqT K H (He.ga K x) (is.map V.int) := by
  unfold tupB at h
  split at h
  · rename_i e
    obtain ⟨h1, h2⟩ := He.ba h
    exact .inr ⟨_, _, _, e, rfl, rfl, of_decide_eq_true h1, intsV_ok h2⟩
  · cases h
def tupsB (gts : List (Str × Gk)) (K : PySem.W.Frag) : Bool := gts.all fun p => match p.2 with | .tup is => tupB K p.1 is | _ => true
/-- the table of code objects of the def x -/
def lamTab (K : PySem.W.Frag) (x : Str) : Addr := (He.cT K (x, none)).2
def lamT (K : PySem.W.Frag) (tbs : List Str) : List (Addr × Str) := (("law" : Str) :: tbs).map fun x => (lamTab K x, x ++ ".<locals>." ++ "<lambda>")
def tbN (tbs : List Str) : List He.Defn := (("law" : Str) :: tbs).map fun x => (x, none)
def nodupB : List Addr → Bool
  | [] => true
  | a :: r => r.all (fun b => !decide (a = b)) && nodupB r
theorem nodup_inj {f : Str → Addr} : ∀ {xs : List Str}, nodupB (xs.map f) = true → ∀ x ∈ xs, ∀ y ∈ xs, f x = f y → x = y
  | [], _, x, hx, _, _, _ => nomatch hx
  | a :: r, h, x, hx, y, hy, e => by
    simp only [List.map_cons, nodupB, Bool.and_eq_true, List.all_map, List.all_eq_true, Function.comp_apply, Bool.not_eq_true', decide_eq_false_iff_not] at h
    rcases List.mem_cons.mp hx with h1 | h1
    · rcases List.mem_cons.mp hy with h2 | h2
      · rw [h1, h2]
      · rw [h1] at e
        exact absurd e (h.1 y h2)
    · rcases List.mem_cons.mp hy with h2 | h2
      · rw [h2] at e
        exact absurd e.symm (h.1 x h1)
      · exact nodup_inj h.2 x h1 y h2 e
theorem lamT_mem {K : PySem.W.Frag} {tbs : List Str} {x : Str} (h : x ∈ ("law" : Str) :: tbs) : (lamTab K x, x ++ ".<locals>." ++ "<lambda>") ∈ lamT K tbs := List.mem_map.mpr ⟨x, h, rfl⟩
theorem lamT_uni {K : PySem.W.Frag} {tbs : List Str} {x : Str} (hn : nodupB ((("law" : Str) :: tbs).map (lamTab K)) = true) (h : x ∈ ("law" : Str) :: tbs) : ∀ p ∈ lamT K tbs, p.1 = lamTab K x → p.2 = x ++ ".<locals>." ++ "<lambda>" := fun p hp e => by
  obtain ⟨y, hy, rfl⟩ := List.mem_map.mp hp
  have := nodup_inj hn y hy x h e
  subst this
  rfl
def exG (gts : List (Str × Gk)) (tbs : List Str) (K : PySem.W.Frag) : Bool := exB K && (tupsB gts K && nodupB ((("law" : Str) :: tbs).map (lamTab K)))
theorem excB_ok {K : PySem.W.Frag} {x : Str} (h : excB K x = true) : ExcC K (He.ga K x) := by
  obtain ⟨h1, h⟩ := He.ba h
  obtain ⟨h2, h⟩ := He.ba h
  obtain ⟨h3, h⟩ := He.ba h
  obtain ⟨h4, h⟩ := He.ba h
  obtain ⟨h5, h⟩ := He.ba h
  obtain ⟨h6, h⟩ := He.ba h
  obtain ⟨h7, h8⟩ := He.ba h
  exact ⟨He.eqO_ok h1, He.eqO_ok h2, of_decide_eq_true h3, h4, He.eqO_ok h5, He.eqO_ok h6, of_decide_eq_true h7, of_decide_eq_true h8⟩
/-- the facts that are looked at -/
def faOf (gts : List (Str × Gk)) : List He.Fa := gts.flatMap gkFa ++ ((["isinstance", "range", "int", "len", "repr"] : List Str).map He.Fa.free ++ ((["SpreadError", "_law_told", "_law_same", "law"] : List Str).map He.Fa.glo ++ clsN.map He.Fa.glo))
section
variable {gts : List (Str × Gk)} {tbs : List Str} {fn : List He.DefD} {K : PySem.W.Frag} {P : Program} {w : World} {mg : Str → Option Value} {base h : Heap}
def SOf (gts : List (Str × Gk)) (tbs : List Str) (P : Program) (w : World) (K : PySem.W.Frag) (mg : Str → Option Value) (base : Heap) : RS := ⟨P, w, K, mg, base, fun k => He.ga K (nmOf gts k), fun k => He.ga K (clsN.getD k ""), sgG gts, lamT K tbs⟩
theorem fa_gt {p : Str × Gk} {f : He.Fa} (hp : p ∈ gts) (hf : f ∈ gkFa p) : f ∈ faOf gts := List.mem_append_left _ (List.mem_flatMap.mpr ⟨p, hp, hf⟩)
theorem bas_of {lv : Nat → Nat} (X : K.In h) (G : h.Ns mainGlobals mg) (c : He.SaysD (faOf gts) fn K) (ok : gtsOk gts = true) (tk : tupsB gts K = true) : Bas (SOf gts tbs P w K mg base) ⟨gts, lv⟩ := by
  refine ⟨fun x g hx => ?_, rfl⟩
  have hm : (x, g) ∈ gts := PySem.mem_of_lookup hx
  have ho := List.all_eq_true.mp ok _ hm
  cases g with
  | fn k =>
    have e : nmOf gts k = x := of_decide_eq_true ho
    show mg x = some (.ref (He.ga K (nmOf gts k)))
    rw [e]
    exact He.glo_ok X G (c.facts (fa_gt hm List.mem_cons_self))
  | int i =>
    obtain ⟨t, e⟩ := He.int_ok X G (c.facts (fa_gt hm List.mem_cons_self))
    exact ⟨_, e, t, rfl⟩
  | abs => exact He.free_ok X G (c.facts (fa_gt hm List.mem_cons_self))
  | tup is =>
    have e := He.glo_ok X G (c.facts (fa_gt hm List.mem_cons_self))
    have tk := List.all_eq_true.mp tk _ hm
    exact ⟨_, e, tupB_ok tk⟩
  | ex k =>
    have ho : (decide (clsN.getD k "" = x) && !(x == ("__debug__" : Str))) = true := ho
    obtain ⟨e, hd⟩ := He.ba ho
    have e : clsN.getD k "" = x := of_decide_eq_true e
    have g := He.glo_ok X G (c.facts (fa_gt hm List.mem_cons_self))
    obtain ⟨x1, x2, x3, x4⟩ := He.exc_ok (c.facts (fa_gt (f := .exc x) hm (List.mem_cons_of_mem _ List.mem_cons_self)))
    intro Y hP hw hK hmg hb hg m j p p2 pos
    have e2 : (SOf gts tbs P w K mg base).ex k = He.ga K x := by
      show He.ga K (clsN.getD k "") = _
      rw [e]
    rw [e2]
    have hK : Y.K = K := hK
    have hmg : Y.mg = mg := hmg
    exact L2N.pmk_own PySem.F.excBase_ValueError (by rw [hK]; exact x1) (by rw [hmg]; exact g) (by rw [hK]; exact x2) (raises_own (by rw [hK]; exact x3) (by rw [hK]; exact x4)) hg (by simpa using hd)
theorem fa_free {x : Str} (hx : x ∈ (["isinstance", "range", "int", "len", "repr"] : List Str)) : He.Fa.free x ∈ faOf gts := List.mem_append_right _ (List.mem_append_left _ (List.mem_map_of_mem hx))
theorem fa_glo {x : Str} (hx : x ∈ (["SpreadError", "_law_told", "_law_same", "law"] : List Str)) : He.Fa.glo x ∈ faOf gts := List.mem_append_right _ (List.mem_append_right _ (List.mem_append_left _ (List.mem_map_of_mem hx)))
theorem fa_cls {x : Str} (hx : x ∈ clsN) : He.Fa.glo x ∈ faOf gts := List.mem_append_right _ (List.mem_append_right _ (List.mem_append_right _ (List.mem_map_of_mem hx)))
theorem cls_of (X : K.In h) (G : h.Ns mainGlobals mg) (c : He.SaysD (faOf gts) fn K) (ex : exB K = true) : ClsF (SOf gts tbs P w K mg base) := by
  obtain ⟨e1, e2⟩ := He.ba ex
  obtain ⟨e2, e3⟩ := He.ba e2
  have fr := fun x hx => He.free_ok X G (c.facts (fa_free (x := x) hx))
  refine ⟨fr _ (by simp), fr _ (by simp), fr _ (by simp), fr _ (by simp), ⟨_, He.glo_ok X G (c.facts (fa_glo (by simp))), fun k hk => ?_⟩, fun j hj => ?_, fun k hk => ?_, fun k j hk hj => ?_⟩
  · exact of_decide_eq_true (List.all_eq_true.mp e3 k (List.mem_range.mpr hk))
  · refine He.glo_ok X G (c.facts (fa_cls ?_))
    have hl : j < clsN.length := hj
    rw [List.getD_eq_getElem?_getD, List.getElem?_eq_getElem hl]
    exact List.getElem_mem hl
  · exact excB_ok (List.all_eq_true.mp e1 k (List.mem_range.mpr hk))
  · exact of_decide_eq_true (List.all_eq_true.mp (List.all_eq_true.mp e2 k (List.mem_range.mpr hk)) j (List.mem_range.mpr hj))
end
end Y

/-! part Y26 -/
set_option Elab.async false
set_option linter.all false
set_option maxRecDepth 100000
set_option maxHeartbeats 2000000
/-! Y26: the law's end. -/
namespace Y
open PySem PySem.Spec
open PyProof.Rows hiding St
open L2
/-- a def of the top, without defaults -/
def dDef (x : Str) (st : Stmt) : He.DefD := ⟨(x, none), x, x, L2.defArgs st, L2.defBody st, L2.defScope st, [], []⟩
section
variable {gts : List (Str × Gk)} {tbs : List Str} {fn : List He.DefD} {K : PySem.W.Frag} {P : Program} {w : World} {mg : Str → Option Value} {base h : Heap}
theorem def_of (c : He.SaysD (faOf gts) fn K) {x : Str} {st : Stmt} (hx : dDef x st ∈ fn) : ∃ fd, FunD K x x (L2.defArgs st) (L2.defBody st) (L2.defScope st) [] [] (He.ga K x) fd := c.defs hx
/-- what the law needs of the program, whatever its place -/
structure Pk (gts : List (Str × Gk)) (tbs : List Str) (lv dr : Nat → Nat) (fn : List He.DefD) (Φ : Nat → List D → (D → Prop) → (Nat → Prop) → Prop) (L : Nat) (sT sS sL : Stmt) (N : List Str) (b : S) (kS i : Nat) : Prop where
  ok : gtsOk gts = true
  mT : dDef "_law_told" sT ∈ fn
  mS : dDef "_law_same" sS ∈ fn
  mL : dDef "law" sL ∈ fn
  told : toldB (L2.defScope sT) (L2.defBody sT) = true
  same : sameB (L2.defScope sS) (L2.defBody sS) = true
  bT : ∀ {K : PySem.W.Frag} {f : Addr} {fd : FuncData}, FunD K "_law_told" "_law_told" (L2.defArgs sT) (L2.defBody sT) (L2.defScope sT) [] [] f fd → Binds K fd ["call"] []
  bS : ∀ {K : PySem.W.Frag} {f : Addr} {fd : FuncData}, FunD K "_law_same" "_law_same" (L2.defArgs sS) (L2.defBody sS) (L2.defScope sS) [] [] f fd → Binds K fd ["told", "due"] []
  bL : ∀ {K : PySem.W.Frag} {f : Addr} {fd : FuncData}, FunD K "law" "law" (L2.defArgs sL) (L2.defBody sL) (L2.defScope sL) [] [] f fd → ∀ (s : Shared) (u : Value), BindsTo s fd ⟨[u], []⟩ [("script", u)]
  sc : C8.scC N ["script"] (L2.defScope sL) = true
  l0 : law0B ⟨gts, lv⟩ dr kS i N (L2.defScope sL) L b (L2.defBody sL) = true
  rm : Room (L + 1) callerA
  lS : lv kS ≤ L
  dS : dr kS = 0
  dw : drwS dr b ≤ BIG
  i0 : i ≠ 0
  fh : ∀ (P : Program) (w : World) (K : PySem.W.Frag) (mg : Str → Option Value) (base h : Heap), K.In h → h.Ns mainGlobals mg → He.SaysD (faOf gts) fn K → Bas (SOf gts tbs P w K mg base) ⟨gts, lv⟩ → (∀ x ∈ tbs, ∀ params body sc fd, FunD K x x params body sc [] [] (He.ga K x) fd → LamOk (SOf gts tbs P w K mg base) x fd) → ∀ j, lv j ≤ L → FHeld (SOf gts tbs P w K mg base) Φ dr lv j
  str : ∀ Q, (∀ ms : List Int, 0 < ms.length → ms.length ≤ 4000 → (∀ z ∈ ms, 0 ≤ z ∧ z < 1009) → Q (.L (ms.map PyData.int))) → Φ kS [.scr] Q noE
  law : wpS Φ exName b ((List.replicate N.length none).set i (some (.sh .st))) (endF (fun d => d = .B true) noE)
theorem law_walk {l : PySem.W.OpenLaw} {q : Program} {loose : List Str} {XP : (Str → Option Value) → Heap → Prop} {d : DefRec} {lv dr : Nat → Nat} {Φ : Nat → List D → (D → Prop) → (Nat → Prop) → Prop} {L : Nat} {sT sS sL : Stmt} {N : List Str} {b : S} {kS i : Nat}
    (hn : l.most = some 63) (hdf : d.params.defaults = []) (hd : d.name = ("law" : Str)) (pk : Pk gts tbs lv dr fn Φ L sT sS sL N b kS i) :
    PySem.W.WalkO q loose XP (He.hookX 4 (faOf gts) fn [] (tbN tbs) (exG gts tbs)).says l.row.toRowW d [] (fun f vs => PySem.call f vs) := by
  refine Att.attach_callB hn hdf fun w s₀ s₁ mg mb fa o pm cd doc a vs ns G Y ho hdd hcd hmg hobj hints hlen hbits hg => ?_
  obtain ⟨K, KX, c⟩ := Y
  have cd' := c.t.d
  have eL := He.glo_ok KX G.T.g (cd'.facts (fa_glo (gts := gts) (x := "law") (by simp)))
  rw [hd, eL] at hmg
  have efa : He.ga K "law" = fa := by
    have := Option.some.inj hmg
    injection this
  subst efa
  obtain ⟨fd, FL⟩ := def_of cd' pk.mL
  have hex := He.ba c.more
  have hnd := (He.ba hex.2).2
  have hcs : ∀ p ∈ (tbN tbs).map (He.cT K), ∃ x : Str, x ∈ ("law" : Str) :: tbs ∧ p = He.cT K (x, none) := fun p hp => by
    obtain ⟨d, hd, e⟩ := List.mem_map.mp hp
    obtain ⟨x, hx, e2⟩ := List.mem_map.mp hd
    exact ⟨x, hx, by rw [← e, ← e2]⟩
  have hin : ∀ {x : Str}, x ∈ ("law" : Str) :: tbs → ((x, none) : He.Defn) ∈ tbN tbs := fun {x} hx => List.mem_map.mpr ⟨x, hx, rfl⟩
  have hl0 : ("law" : Str) ∈ ("law" : Str) :: tbs := List.mem_cons_self
  have code_of : ∀ {x : Str} {params : Arguments} {body : List Stmt} {sc : Scope} {fd : FuncData}, FunD K x x params body sc [] [] (He.ga K x) fd → ∀ c1, fd.code = .ref c1 → (He.cT K (x, none)).1 = c1 := fun {x params body sc fd} FD c1 e1 => by
    obtain ⟨oc, od, dV, kV, doc', pm', an, cdv, ct', osl, rfl, lk, hcd', _⟩ := FD.ex
    exact He.codeOf_eq (p := (x, none)) lk e1
  refine law_callG (cs := (tbN tbs).map (He.cT K)) (cx := L2N.CX l.prog w) KX G.T.g G.T.b G.T.builtins G.T.nolimit hg (fun p hp => ?_) (fun p hp => ?_) (fun p hp => ?_) G.T.bmain hobj hints (Nat.le_trans hlen (by decide)) (fun base H hK hN TBs e0 hHt hS => ?_) (fun H e s' z => ?_)
  · obtain ⟨x, hx, rfl⟩ := hcs p hp
    exact c.empty _ (hin hx)
  · obtain ⟨x, hx, rfl⟩ := hcs p hp
    exact c.out _ (hin hx)
  · obtain ⟨x, hx, rfl⟩ := hcs p hp
    exact PySem.W.codeHd_of_K KX (c.hd _ (hin hx))
  · have bs := bas_of (tbs := tbs) (P := l.prog) (w := w) (base := base) (lv := lv) KX G.T.g cd' pk.ok (He.ba hex.2).1
    obtain ⟨fdT, FT⟩ := def_of cd' pk.mT
    obtain ⟨fdS, FS⟩ := def_of cd' pk.mS
    have gT := He.glo_ok KX G.T.g (cd'.facts (fa_glo (gts := gts) (x := "_law_told") (by simp)))
    have gS := He.glo_ok KX G.T.g (cd'.facts (fa_glo (gts := gts) (x := "_law_same") (by simp)))
    have cl : ClsF (SOf gts tbs l.prog w K mg base) := cls_of KX G.T.g cd' hex.1
    have TBx : ∀ {x : Str}, x ∈ ("law" : Str) :: tbs → LamX.TabB base mg (He.cT K (x, none)).1 (He.cT K (x, none)).2 := fun {x} hx => TBs _ (List.mem_map.mpr ⟨_, hin hx, rfl⟩)
    have lam : ∀ x ∈ tbs, ∀ params body sc fd, FunD K x x params body sc [] [] (He.ga K x) fd → LamOk (SOf gts tbs l.prog w K mg base) x fd := fun x hx params body sc fd FD => by
      have hx' : x ∈ ("law" : Str) :: tbs := List.mem_cons_of_mem _ hx
      obtain ⟨c1, e1⟩ : ∃ c1, fd.code = .ref c1 := by
        obtain ⟨oc, od, dV, kV, doc', pm', an, cdv, ct', osl, rfl, lk, hcd', _⟩ := FD.ex
        exact He.codeIn_ref hcd'
      exact ⟨c1, (He.cT K (x, none)).2, by rw [← code_of FD c1 e1]; exact TBx hx', e1, lamT_mem hx', lamT_uni hnd hx'⟩
    exact law_rule (S := SOf gts tbs l.prog w K mg base) (T := ⟨gts, lv⟩) (Φ := Φ) (dr := dr) (c := (He.cT K ("law", none)).1) (t := (He.cT K ("law", none)).2) (b := b) (L := L) (kS := kS) (i := i) rfl bs FL (fun hc => by
        obtain ⟨c1, e1⟩ := He.codeIn_ref hc
        rw [e1, ← code_of FL c1 e1]) (pk.bL FL) (pk.fh _ _ _ _ _ _ KX G.T.g cd' bs lam)
      ⟨TBx hl0, lamT_mem hl0, lamT_uni hnd hl0, ⟨_, _, _, _, _, gT, FT, pk.bT FT, pk.told⟩, cl, ⟨_, _, _, _, _, gS, FS, pk.bS FS, pk.same⟩, He.free_ok KX G.T.g (cd'.facts (fa_free (by simp)))⟩
      pk.sc pk.l0 pk.rm pk.lS pk.dS pk.dw e0 (fun p hp => by
        obtain ⟨x, hx, rfl⟩ := List.mem_map.mp hp
        exact hHt _ (List.mem_map.mpr ⟨_, hin hx, rfl⟩)) hS hlen hbits pk.i0 pk.str pk.law
  · obtain ⟨_, _, _, _, _, _, _, _, _, _, _, _, z⟩ := z
    exact z
end
end Y

/-! part Y27 -/
set_option Elab.async false
set_option linter.all false
set_option maxRecDepth 100000
set_option maxHeartbeats 2000000
set_option exponentiation.threshold 5000
/-! Y27: plain tools: shown data, loops, comprehensions, products. -/
namespace Y
open PySem PySem.Spec
open PyProof.Rows hiding St
open L2
/-! ### data that is shown and compared -/
/-- at most n items, d deep -/
structure Sh (n d : Nat) (p : PyData) : Prop where
  sh : p.showable = true
  hd : p.hasDict = false
  dp : p.depth ≤ d
  lv : p.leavesShort 600 = true
  bk : p.bulk ≤ n
  ly : p.canLay0 = true
structure ShA (n d : Nat) (p : List PyData) : Prop where
  sh : PyData.showableAll p = true
  hd : PyData.hasDictAll p = false
  dp : PyData.depthAll p ≤ d
  lv : PyData.leavesShortAll 600 p = true
  bk : PyData.bulkAll p ≤ n
  ly : PyData.canLayAll0 p = true
def bigI : Nat := 2 ^ 1900
theorem big_lt : bigI < 10 ^ 599 := by decide +kernel
theorem log2_big {i : Int} (h : i.natAbs ≤ bigI) : i.natAbs.log2 < 1920 := by
  rcases Nat.lt_or_ge i.natAbs.log2 1920 with z | z
  · exact z
  · have hne : i.natAbs ≠ 0 := by
      intro e
      rw [e] at z
      have : Nat.log2 0 = 0 := by decide
      omega
    have h1 := Nat.log2_self_le (n := i.natAbs) hne
    have h2 : 2 ^ 1920 ≤ 2 ^ i.natAbs.log2 := Nat.pow_le_pow_right (by decide) z
    have h3 : bigI < 2 ^ 1920 := by decide +kernel
    omega
theorem shown_int {i : Int} (h : i.natAbs ≤ bigI) : (PyData.shown (.int i)).length ≤ 600 := by
  show (PySem.Str.ofString (toString i)).length ≤ 600
  cases i with
  | ofNat n =>
    have : (PySem.Str.ofString (toString (Int.ofNat n))).length ≤ 599 := PyProof.Rows.toString_length_le (Int.natCast_nonneg n) (by decide) (by
      have h1 := big_lt
      have h2 : n ≤ bigI := h
      exact_mod_cast Nat.lt_of_le_of_lt h2 h1)
    omega
  | negSucc n =>
    have e : toString (Int.negSucc n) = "-" ++ toString ((n + 1 : Nat) : Int) := rfl
    rw [e, PyProof.Rows.ofString_length, String.toList_append, List.length_append, ← PyProof.Rows.ofString_length (toString ((n + 1 : Nat) : Int))]
    have : (PySem.Str.ofString (toString ((n + 1 : Nat) : Int))).length ≤ 599 := PyProof.Rows.toString_length_le (Int.natCast_nonneg _) (by decide) (by
      have h1 := big_lt
      have h2 : n + 1 ≤ bigI := h
      exact_mod_cast Nat.lt_of_le_of_lt h2 h1)
    have e1 : "-".toList.length = 1 := rfl
    omega
theorem Sh.int {i : Int} (h : i.natAbs ≤ bigI) : Sh 0 0 (.int i) := ⟨decide_eq_true (log2_big h), rfl, Nat.le_refl _, decide_eq_true (shown_int h), Nat.le_refl _, rfl⟩
theorem Sh.bool {b : Bool} : Sh 0 0 (.bool b) := ⟨rfl, rfl, Nat.le_refl _, rfl, Nat.le_refl _, rfl⟩
theorem Sh.none : Sh 0 0 .none := ⟨rfl, rfl, Nat.le_refl _, rfl, Nat.le_refl _, rfl⟩
def strB (x : Str) : Bool := PyData.leavesShort 600 (.str x) && PyData.canLay0 (.str x)
theorem Sh.str {x : Str} (h : strB x = true) : Sh x.cps.size 0 (.str x) := by
  unfold strB at h
  rw [Bool.and_eq_true] at h
  exact ⟨rfl, rfl, Nat.le_refl _, h.1, Nat.le_refl _, h.2⟩
theorem ShA.nil : ShA 0 0 [] := ⟨rfl, rfl, Nat.le_refl _, rfl, Nat.le_refl _, rfl⟩
theorem ShA.cons {n m d e : Nat} {p : PyData} {ps : List PyData} (a : Sh n d p) (b : ShA m e ps) : ShA (n + 1 + m) (max d e) (p :: ps) := by
  refine ⟨?_, ?_, ?_, ?_, ?_, ?_⟩
  · simp only [PyData.showableAll, a.sh, b.sh, Bool.and_self]
  · simp only [PyData.hasDictAll, a.hd, b.hd, Bool.or_self]
  · have := a.dp; have := b.dp
    simp only [PyData.depthAll]
    omega
  · simp only [PyData.leavesShortAll, a.lv, b.lv, Bool.and_self]
  · have := a.bk; have := b.bk
    simp only [PyData.bulkAll]
    omega
  · simp only [PyData.canLayAll0, a.ly, b.ly, Bool.and_self]
theorem Sh.tup {n d : Nat} {ps : List PyData} (a : ShA n d ps) : Sh n (d + 1) (.tuple ps) :=
  ⟨by simp only [PyData.showable, a.sh], by simp only [PyData.hasDict, a.hd], by have := a.dp; simp only [PyData.depth]; omega, by simp only [PyData.leavesShort, a.lv], by have := a.bk; simp only [PyData.bulk]; omega, by simp only [PyData.canLay0, a.ly]⟩
theorem Sh.lst {n d : Nat} {ps : List PyData} (a : ShA n d ps) : Sh n (d + 1) (.list ps) :=
  ⟨by simp only [PyData.showable, a.sh], by simp only [PyData.hasDict, a.hd], by have := a.dp; simp only [PyData.depth]; omega, by simp only [PyData.leavesShort, a.lv], by have := a.bk; simp only [PyData.bulk]; omega, by simp only [PyData.canLay0, a.ly]⟩
theorem Sh.mono {n d m e : Nat} {p : PyData} (a : Sh n d p) (h1 : n ≤ m) (h2 : d ≤ e) : Sh m e p := ⟨a.sh, a.hd, Nat.le_trans a.dp h2, a.lv, Nat.le_trans a.bk h1, a.ly⟩
theorem ShA.all {n d : Nat} : ∀ {ps : List PyData}, (∀ p ∈ ps, Sh n d p) → ShA (ps.length * (n + 1)) d ps
  | [], _ => ⟨rfl, rfl, Nat.zero_le _, rfl, Nat.zero_le _, rfl⟩
  | p :: ps, h => by
    have a := ShA.cons (h p List.mem_cons_self) (ShA.all fun q hq => h q (List.mem_cons_of_mem _ hq))
    rw [Nat.max_self] at a
    have e : n + 1 + ps.length * (n + 1) = (p :: ps).length * (n + 1) := by rw [List.length_cons, Nat.add_mul, Nat.one_mul]; omega
    rw [e] at a
    exact a
theorem Sh.ok {n d : Nat} {p : PyData} (a : Sh n d p) (h1 : n ≤ 20000) (h2 : d ≤ 49) : ReprOk p := by
  refine ⟨a.sh, a.hd, Nat.le_trans a.dp (by omega), ?_⟩
  have := PyData.shown_le_bulk 600 (by decide) p a.lv
  have h3 := a.bk
  have : (600 + 2) * p.bulk ≤ 602 * 20000 := Nat.mul_le_mul_left _ (by omega)
  show _ ≤ 2 ^ 24
  omega
theorem Sh.ok1 {n d : Nat} {p : PyData} (a : Sh n d p) (h1 : n ≤ 19000) (h2 : d ≤ 48) : ReprOk (.list [p]) := (Sh.lst (.cons a .nil)).ok (by omega) (by omega)
theorem Sh.shaped {n d : Nat} {p : PyData} (a : Sh n d p) (h2 : d ≤ 64) : SeqAt.shaped p = true := by
  show (p.canLay0 && decide (p.depth ≤ 64)) = true
  rw [a.ly, decide_eq_true (Nat.le_trans a.dp h2)]
  rfl
mutual
theorem eqv_refl : ∀ {p : PyData}, p.hasDict = false → PyData.eqv p p = true
  | .none, _ => rfl
  | .bool b, _ => by simp [PyData.eqv]
  | .int i, _ => by simp [PyData.eqv]
  | .str x, _ => by simp [PyData.eqv]
  | .list xs, h => by simp only [PyData.eqv]; exact eqvAll_refl h
  | .tuple xs, h => by simp only [PyData.eqv]; exact eqvAll_refl h
  | .dict _, h => nomatch h
theorem eqvAll_refl : ∀ {ps : List PyData}, PyData.hasDictAll ps = false → PyData.eqvAll ps ps = true
  | [], _ => rfl
  | p :: ps, h => by
    simp only [PyData.hasDictAll, Bool.or_eq_false_iff] at h
    simp only [PyData.eqvAll, eqv_refl h.1, eqvAll_refl h.2, Bool.and_self]
end
theorem Sh.eqv {n d : Nat} {p : PyData} (a : Sh n d p) : PyData.eqv p p = true := eqv_refl a.hd
/-! ### loops -/
theorem forW_rule {step : D → Ev → (Ev → Prop) → Prop} {nx : Ev → Prop} {ds : List D} {ρ : Ev} (I : Nat → Ev → Prop) (h0 : I 0 ρ)
    (hs : ∀ i d ρ K, ds[i]? = some d → I i ρ → (∀ ρ', I (i + 1) ρ' → K ρ') → step d ρ K) (hn : ∀ ρ, I ds.length ρ → nx ρ) : forW step nx ds ρ := by
  have go : ∀ (es : List D) (i : Nat) (ρ : Ev), es = ds.drop i → i ≤ ds.length → I i ρ → forW step nx es ρ := by
    intro es
    induction es with
    | nil =>
      intro i ρ e hi h
      have : ds.length ≤ i := by
        have := congrArg List.length e
        rw [List.length_drop] at this
        simp at this
        omega
      have : i = ds.length := by omega
      subst this
      exact hn ρ h
    | cons d es ih =>
      intro i ρ e hi h
      have hlt : i < ds.length := by
        have := congrArg List.length e
        rw [List.length_drop] at this
        simp at this
        omega
      rw [List.drop_eq_getElem_cons hlt] at e
      injection e with e1 e2
      exact hs i d ρ _ (by rw [List.getElem?_eq_getElem hlt, e1]) h fun ρ' h' => ih (i + 1) ρ' e2 hlt h'
  exact go ds 0 ρ rfl (Nat.zero_le _) h0
theorem while_rule {turn : Ev → (Ev → Prop) → Prop} {ρ : Ev} (I : Nat → Ev → Prop) (m : Nat) (h0 : I m ρ) (hs : ∀ m ρ K, I m ρ → (∀ m' ρ', m' < m → I m' ρ' → K ρ') → turn ρ K) : ∃ n, whileW turn n ρ := by
  have go : ∀ (n m : Nat) (ρ : Ev), m < n → I m ρ → whileW turn n ρ := by
    intro n
    induction n with
    | zero => intro m ρ h; omega
    | succ n ih => intro m ρ h hI; exact hs m ρ _ hI fun m' ρ' hm hI' => ih m' ρ' (by omega) hI'
  exact ⟨m + 1, go (m + 1) m ρ (Nat.lt_succ_self m) h0⟩
/-- a comprehension, each item giving what P says -/
theorem compW_rule {step : D → (List PyData → Prop) → Prop} {K : List PyData → Prop} {ds : List D} (I : Nat → List PyData → Prop) (h0 : I 0 [])
    (hs : ∀ i d acc K', ds[i]? = some d → I i acc → (∀ new, I (i + 1) (acc ++ new) → K' new) → step d K')
    (hz : ∀ i acc, i ≤ ds.length → I i acc → acc.length ≤ sizeLine) (hn : ∀ acc, I ds.length acc → K acc) : compW step ds [] K := by
  have go : ∀ (es : List D) (i : Nat) (acc : List PyData), es = ds.drop i → i ≤ ds.length → I i acc → compW step es acc K := by
    intro es
    induction es with
    | nil =>
      intro i acc e hi h
      have : ds.length ≤ i := by
        have := congrArg List.length e
        rw [List.length_drop] at this
        simp at this
        omega
      have : i = ds.length := by omega
      subst this
      exact hn acc h
    | cons d es ih =>
      intro i acc e hi h
      have hlt : i < ds.length := by
        have := congrArg List.length e
        rw [List.length_drop] at this
        simp at this
        omega
      rw [List.drop_eq_getElem_cons hlt] at e
      injection e with e1 e2
      exact hs i d acc _ (by rw [List.getElem?_eq_getElem hlt, e1]) h fun new hI => ⟨by have := hz (i + 1) _ hlt hI; rw [List.length_append] at this; exact this, ih (i + 1) _ e2 hlt hI⟩
  exact go ds 0 [] rfl (Nat.zero_le _) h0
/-! ### products -/
theorem cm {i j : Int} (hi : i.natAbs ≤ bigI) (hj : j.natAbs ≤ bigI) : CMulX i j := by
  have : bigI < 2 ^ 2000 := by decide +kernel
  exact small_mul (p := 2000) (by omega) (by omega) (by decide)
end Y

/-! part Y28 -/
set_option Elab.async false
set_option linter.all false
set_option maxRecDepth 100000
set_option maxHeartbeats 2000000
set_option exponentiation.threshold 5000
/-! Y28: rewriting lemmas for the readings. -/
namespace Y
open PySem PySem.Spec
open L2 (CMulX atI ixN)
section
variable {Q : D → Prop} {i j : Int} {p q r : PyData} {xs ys : List PyData}
theorem b_add : binD .add (.py (.int i)) (.py (.int j)) Q = Q (.I (i + j)) := rfl
theorem b_addT : binD .add (.py (.tuple xs)) (.py (.tuple ys)) Q = (xs.length + ys.length ≤ sizeLine ∧ Q (.T (xs ++ ys))) := rfl
theorem b_addL : binD .add (.py (.list xs)) (.py (.list ys)) Q = (xs.length + ys.length ≤ sizeLine ∧ Q (.L (xs ++ ys))) := rfl
theorem b_sub : binD .sub (.py (.int i)) (.py (.int j)) Q = Q (.I (i - j)) := rfl
theorem b_mul : binD .mul (.py (.int i)) (.py (.int j)) Q = (CMulX i j ∧ Q (.I (i * j))) := rfl
theorem b_mulT : binD .mul (.py (.tuple xs)) (.py (.int j)) Q = ((2 ≤ j ∧ j ≤ 1000 ∧ 0 < xs.length ∧ xs.length ≤ 1000) ∧ Q (.T (List.replicate j.toNat xs).flatten)) := rfl
theorem b_mulL : binD .mul (.py (.list xs)) (.py (.int j)) Q = ((-(2 ^ 63) ≤ j ∧ j < 2 ^ 63 ∧ xs.length * j.toNat ≤ sizeLine) ∧ Q (.L (List.replicate j.toNat xs).flatten)) := rfl
theorem b_fdiv : binD .fdiv (.py (.int i)) (.py (.int j)) Q = ((j ≠ 0 ∧ j.natAbs.log2 < 9000) ∧ Q (.I (i.fdiv j))) := rfl
theorem b_mod : binD .mod (.py (.int i)) (.py (.int j)) Q = (j ≠ 0 ∧ Q (.I (i.fmod j))) := rfl
theorem b_pow : binD .pow (.py (.int i)) (.py (.int j)) Q = ((0 ≤ j ∧ j ≤ 1000000 ∧ i.natAbs < 2 ^ 64) ∧ Q (.I (i ^ j.toNat))) := rfl
theorem a_add : augD .add (.py (.int i)) (.py (.int j)) Q = Q (.I (i + j)) := rfl
theorem a_sub : augD .sub (.py (.int i)) (.py (.int j)) Q = Q (.I (i - j)) := rfl
theorem a_mul : augD .mul (.py (.int i)) (.py (.int j)) Q = (CMulX i j ∧ Q (.I (i * j))) := rfl
theorem a_fdiv : augD .fdiv (.py (.int i)) (.py (.int j)) Q = ((j ≠ 0 ∧ j.natAbs.log2 < 9000) ∧ Q (.I (i.fdiv j))) := rfl
theorem c_lt : cmpD .Lt (.py (.int i)) (.py (.int j)) Q = Q (.B (decide (i < j))) := rfl
theorem c_le : cmpD .LtE (.py (.int i)) (.py (.int j)) Q = Q (.B (decide (i ≤ j))) := rfl
theorem c_gt : cmpD .Gt (.py (.int i)) (.py (.int j)) Q = Q (.B (decide (j < i))) := rfl
theorem c_ge : cmpD .GtE (.py (.int i)) (.py (.int j)) Q = Q (.B (decide (j ≤ i))) := rfl
theorem c_eqI : cmpD .Eq (.py (.int i)) (.py (.int j)) Q = Q (.B (decide (i = j))) := by
  have e : PyData.eqv (.int i) (.int j) = decide (i = j) := by
    simp only [PyData.eqv]
    try rfl
  have s (k : Int) : SeqAt.shaped (.int k) = true := rfl
  simp only [cmpD, e, s, and_self, true_and]
theorem c_neI : cmpD .NotEq (.py (.int i)) (.py (.int j)) Q = Q (.B (!decide (i = j))) := by
  have e : PyData.eqv (.int i) (.int j) = decide (i = j) := by
    simp only [PyData.eqv]
    try rfl
  have s (k : Int) : SeqAt.shaped (.int k) = true := rfl
  simp only [cmpD, e, s, and_self, true_and]
theorem c_eqB {a b : Bool} : cmpD .Eq (.py (.bool a)) (.py (.bool b)) Q = Q (.B (a == b)) := by
  have e : PyData.eqv (.bool a) (.bool b) = (a == b) := by simp only [PyData.eqv]
  have s (k : Bool) : SeqAt.shaped (.bool k) = true := rfl
  simp only [cmpD, e, s, and_self, true_and]
theorem c_neB {a b : Bool} : cmpD .NotEq (.py (.bool a)) (.py (.bool b)) Q = Q (.B (!(a == b))) := by
  have e : PyData.eqv (.bool a) (.bool b) = (a == b) := by simp only [PyData.eqv]
  have s (k : Bool) : SeqAt.shaped (.bool k) = true := rfl
  simp only [cmpD, e, s, and_self, true_and]
theorem x_0 : ixD (.py (.tuple (p :: xs))) (.py (.int 0)) Q = Q (.py p) := by
  have : atI (p :: xs) 0 = some p := by
    unfold atI ixN
    rw [if_pos (by decide), if_pos (by rw [List.length_cons]; omega)]
    rfl
  simp only [ixD, this, Option.some.injEq, exists_eq_left']
theorem x_1 : ixD (.py (.tuple (p :: q :: xs))) (.py (.int 1)) Q = Q (.py q) := by
  have : atI (p :: q :: xs) 1 = some q := by
    unfold atI ixN
    rw [if_pos (by decide), if_pos (by rw [List.length_cons, List.length_cons]; omega)]
    rfl
  simp only [ixD, this, Option.some.injEq, exists_eq_left']
theorem x_2 : ixD (.py (.tuple (p :: q :: r :: xs))) (.py (.int 2)) Q = Q (.py r) := by
  have : atI (p :: q :: r :: xs) 2 = some r := by
    unfold atI ixN
    rw [if_pos (by decide), if_pos (by rw [List.length_cons, List.length_cons, List.length_cons]; omega)]
    rfl
  simp only [ixD, this, Option.some.injEq, exists_eq_left']
theorem k_L {lo hi : Option Int} : slcD (.py (.list xs)) lo hi Q = Q (.L (cutP xs lo hi)) := rfl
theorem k_T {lo hi : Option Int} : slcD (.py (.tuple xs)) lo hi Q = Q (.T (cutP xs lo hi)) := rfl
theorem l_lenT : biD .len [.py (.tuple xs)] Q = Q (.I xs.length) := rfl
theorem l_lenL : biD .len [.py (.list xs)] Q = Q (.I xs.length) := rfl
theorem l_int : biD .int [.py (.int i)] Q = Q (.I i) := rfl
theorem l_intB {b : Bool} : biD .int [.py (.bool b)] Q = Q (.I (if b then 1 else 0)) := rfl
theorem l_abs : biD .abs [.py (.int i)] Q = Q (.I (if i < 0 then -i else i)) := rfl
theorem l_max2 : biD .max [.py (.int i), .py (.int j)] Q = Q (.I (max i j)) := rfl
theorem l_max3 {k : Int} : biD .max [.py (.int i), .py (.int j), .py (.int k)] Q = Q (.I (max (max i j) k)) := rfl
theorem l_min2 : biD .min [.py (.int i), .py (.int j)] Q = Q (.I (min i j)) := rfl
theorem l_maxL : biD .max [.py (.list xs)] Q = (∃ ns, intsP xs = some ns ∧ 0 < ns.length ∧ ∀ m, m ∈ ns → (∀ y ∈ ns, y ≤ m) → Q (.I m)) := rfl
theorem l_minL : biD .min [.py (.list xs)] Q = (∃ ns, intsP xs = some ns ∧ 0 < ns.length ∧ ∀ m, m ∈ ns → (∀ y ∈ ns, m ≤ y) → Q (.I m)) := rfl
theorem l_sum : biD .sum [.py (.list xs)] Q = (∃ ns, intsP xs = some ns ∧ Q (.I ns.sum)) := rfl
theorem l_all : biD .all [.py (.list xs)] Q = (∃ bs, boolsP xs = some bs ∧ Q (.B (bs.all id))) := rfl
theorem l_any : biD .any [.py (.list xs)] Q = (∃ bs, boolsP xs = some bs ∧ Q (.B (bs.any id))) := rfl
theorem l_tupL : biD .tuple [.py (.list xs)] Q = Q (.T xs) := rfl
theorem l_tupT : biD .tuple [.py (.tuple xs)] Q = Q (.T xs) := rfl
theorem l_lisL : biD .list [.py (.list xs)] Q = Q (.L xs) := rfl
theorem l_lisT : biD .list [.py (.tuple xs)] Q = Q (.L xs) := rfl
theorem eqvP {a b c d : Int} : PyData.eqv (.tuple [.int a, .int b]) (.tuple [.int c, .int d]) = decide ((a, b) = (c, d)) := by
  simp only [PyData.eqv, PyData.eqvAll, Prod.mk.injEq, Bool.decide_and, Bool.and_true]
  try rfl
theorem shpP {a b : Int} : SeqAt.shaped (.tuple [.int a, .int b]) = true := rfl
theorem c_eqP {a b c d : Int} : cmpD .Eq (.py (.tuple [.int a, .int b])) (.py (.tuple [.int c, .int d])) Q = Q (.B (decide ((a, b) = (c, d)))) := by
  simp only [cmpD, eqvP, shpP, and_self, true_and]
theorem c_neP {a b c d : Int} : cmpD .NotEq (.py (.tuple [.int a, .int b])) (.py (.tuple [.int c, .int d])) Q = Q (.B (!decide ((a, b) = (c, d)))) := by
  simp only [cmpD, eqvP, shpP, and_self, true_and]
theorem r_1 : rngD [.py (.int i)] Q = ((-(2 ^ 62) ≤ i ∧ i < 2 ^ 62) ∧ Q (.args (rangeD 0 i))) := rfl
theorem r_l : lrgD (.py (.int i)) (.py (.int j)) Q = ((-(2 ^ 62) ≤ i ∧ i < 2 ^ 62 ∧ -(2 ^ 62) ≤ j ∧ j < 2 ^ 62 ∧ (j - i).toNat ≤ 2 ^ 24) ∧ Q (.L ((List.range (j - i).toNat).map fun (k : Nat) => PyData.int (i + (k : Int))))) := rfl
theorem r_2 : rngD [.py (.int i), .py (.int j)] Q = ((-(2 ^ 62) ≤ i ∧ i < 2 ^ 62 ∧ -(2 ^ 62) ≤ j ∧ j < 2 ^ 62) ∧ Q (.args (rangeD i j))) := rfl
end
theorem atI_of {α : Type} {xs : List α} {i : Int} {p : α} (h0 : 0 ≤ i) (h : xs[i.toNat]? = some p) : atI xs i = some p := by
  have hl : i.toNat < xs.length := by
    rcases Nat.lt_or_ge i.toNat xs.length with z | z
    · exact z
    · rw [List.getElem?_eq_none z] at h; exact nomatch h
  unfold atI ixN
  rw [if_pos h0, if_pos (by omega)]
  exact h
theorem ixT_of {Q : D → Prop} {xs : List PyData} {i : Int} {p : PyData} (h0 : 0 ≤ i) (h : xs[i.toNat]? = some p) (hq : Q (.py p)) : ixD (.py (.tuple xs)) (.py (.int i)) Q := ⟨p, atI_of h0 h, hq⟩
theorem ixL_of {Q : D → Prop} {xs : List PyData} {i : Int} {p : PyData} (h0 : 0 ≤ i) (h : xs[i.toNat]? = some p) (hq : Q (.py p)) : ixD (.py (.list xs)) (.py (.int i)) Q := ⟨p, atI_of h0 h, hq⟩
/-- a loop over an image, by a fold -/
theorem forW_fold {α β : Type} {step : D → Ev → (Ev → Prop) → Prop} {nx : Ev → Prop} {l : List α} {f : α → D} {g : β → α → β} {b0 : β} {ρ : Ev} (I : β → Ev → Prop) (h0 : I b0 ρ)
    (hs : ∀ l1 x l2 ρ K, l = l1 ++ x :: l2 → I (l1.foldl g b0) ρ → (∀ ρ', I (g (l1.foldl g b0) x) ρ' → K ρ') → step (f x) ρ K) (hn : ∀ ρ, I (l.foldl g b0) ρ → nx ρ) : forW step nx (l.map f) ρ := by
  have go : ∀ (l2 l1 : List α) (ρ : Ev), l = l1 ++ l2 → I (l1.foldl g b0) ρ → forW step nx (l2.map f) ρ := by
    intro l2
    induction l2 with
    | nil => intro l1 ρ e h; rw [List.append_nil] at e; subst e; exact hn ρ h
    | cons x l2 ih =>
      intro l1 ρ e h
      refine hs l1 x l2 ρ _ e h fun ρ' h' => ih (l1 ++ [x]) ρ' (by rw [e, List.append_assoc]; rfl) ?_
      rw [List.foldl_append]
      exact h'
  exact go l [] ρ rfl h0
/-- a comprehension that gives one item each -/
theorem compW_map {α : Type} {step : D → (List PyData → Prop) → Prop} {K : List PyData → Prop} {l : List α} {f : α → D} {g : α → PyData} (hz : l.length ≤ sizeLine)
    (hs : ∀ x ∈ l, ∀ K', K' [g x] → step (f x) K') (hn : K (l.map g)) : compW step (l.map f) [] K := by
  have go : ∀ (l2 l1 : List α), l = l1 ++ l2 → compW step (l2.map f) (l1.map g) K := by
    intro l2
    induction l2 with
    | nil => intro l1 e; rw [List.append_nil] at e; subst e; exact hn
    | cons x l2 ih =>
      intro l1 e
      refine hs x (by rw [e]; exact List.mem_append_right _ List.mem_cons_self) _ ⟨?_, ?_⟩
      · rw [List.length_map]
        have := congrArg List.length e
        rw [List.length_append, List.length_cons] at this
        show l1.length + 1 ≤ _
        omega
      · have := ih (l1 ++ [x]) (by rw [e, List.append_assoc]; rfl)
        rw [List.map_append] at this
        exact this
  exact go l [] rfl
theorem boolsP_map {α : Type} (g : α → Bool) : ∀ l : List α, boolsP (l.map fun x => PyData.bool (g x)) = some (l.map g)
  | [] => rfl
  | x :: l => by
    show (boolsP (l.map fun x => PyData.bool (g x))).map (g x :: ·) = _
    rw [boolsP_map g l]
    rfl
theorem cut_from {xs : List PyData} {x : Int} (h0 : 0 ≤ x) (h : x.toNat ≤ xs.length) : cutP xs (some x) none = xs.drop x.toNat := by
  have e : HT.sIx xs.length 0 (some x) = x.toNat := by
    show (if x < 0 then _ else min x.toNat xs.length) = _
    rw [if_neg (by omega)]
    omega
  unfold cutP
  rw [e]
  exact List.take_of_length_le (by rw [List.length_drop]; exact Nat.le_refl _)
theorem cut_to {xs : List PyData} {x : Int} (h0 : 0 ≤ x) (h : x.toNat ≤ xs.length) : cutP xs none (some x) = xs.take x.toNat := by
  have e : HT.sIx xs.length xs.length (some x) = x.toNat := by
    show (if x < 0 then _ else min x.toNat xs.length) = _
    rw [if_neg (by omega)]
    omega
  unfold cutP
  rw [e]
  rfl
theorem rangeD_get {lo hi : Int} {i : Nat} {d : D} (h : (rangeD lo hi)[i]? = some d) : d = .I (lo + i) ∧ lo + i < hi := by
  unfold rangeD at h
  rw [List.getElem?_map] at h
  obtain ⟨j, hj, rfl⟩ := Option.map_eq_some_iff.mp h
  have hl : i < (hi - lo).toNat := by
    rcases Nat.lt_or_ge i (hi - lo).toNat with z | z
    · exact z
    · rw [List.getElem?_eq_none (by rw [List.length_range]; exact z)] at hj; exact nomatch hj
  rw [List.getElem?_range hl] at hj
  cases hj
  exact ⟨rfl, by omega⟩
/-- a divisor's size -/
theorem lg {i : Int} (h : i.natAbs ≤ bigI) : i.natAbs.log2 < 9000 := Nat.lt_of_lt_of_le (log2_big h) (by decide)
end Y

/-! part Y29 -/
set_option Elab.async false
set_option linter.all false
set_option maxRecDepth 100000
set_option maxHeartbeats 2000000
set_option exponentiation.threshold 5000
/-! Y29: sizes of ints; shown forms of data. -/
namespace Y
open PySem PySem.Spec
open L2 (CMulX atI ixN)
abbrev Ct := List D → (D → Prop) → (Nat → Prop) → Prop
abbrev PhiT := Nat → Ct
/-- an int of at most n bits -/
def Z (n : Nat) (i : Int) : Prop := i.natAbs ≤ 2 ^ n
instance {n : Nat} {i : Int} : Decidable (Z n i) := inferInstanceAs (Decidable (_ ≤ _))
theorem Z.mono {n m : Nat} {i : Int} (h : Z n i) (e : n ≤ m) : Z m i := Nat.le_trans h (Nat.pow_le_pow_right (by decide) e)
theorem Z.mul {n m : Nat} {i j : Int} (h : Z n i) (g : Z m j) : Z (n + m) (i * j) := by
  unfold Z at *
  rw [Int.natAbs_mul, Nat.pow_add]
  exact Nat.mul_le_mul h g
theorem zmax {n m : Nat} : 2 ^ n + 2 ^ m ≤ 2 ^ (max n m + 1) := by
  have h1 : 2 ^ n ≤ 2 ^ (max n m) := Nat.pow_le_pow_right (by decide) (by omega)
  have h2 : 2 ^ m ≤ 2 ^ (max n m) := Nat.pow_le_pow_right (by decide) (by omega)
  rw [Nat.pow_succ]
  omega
theorem Z.add {n m : Nat} {i j : Int} (h : Z n i) (g : Z m j) : Z (max n m + 1) (i + j) := by
  unfold Z at *
  have := @zmax n m
  omega
theorem Z.sub {n m : Nat} {i j : Int} (h : Z n i) (g : Z m j) : Z (max n m + 1) (i - j) := by
  unfold Z at *
  have := @zmax n m
  omega
theorem Z.neg {n : Nat} {i : Int} (h : Z n i) : Z n (-i) := by
  unfold Z at *
  omega
theorem Z.mx {n m : Nat} {i j : Int} (h : Z n i) (g : Z m j) : Z (max n m) (max i j) := by
  have h := h.mono (Nat.le_max_left n m)
  have g := g.mono (Nat.le_max_right n m)
  unfold Z at *
  omega
theorem Z.mn {n m : Nat} {i j : Int} (h : Z n i) (g : Z m j) : Z (max n m) (min i j) := by
  have h := h.mono (Nat.le_max_left n m)
  have g := g.mono (Nat.le_max_right n m)
  unfold Z at *
  omega
theorem Z.fdiv {n : Nat} {i j : Int} (h : Z n i) : Z n (i.fdiv j) := Nat.le_trans (Int.natAbs_fdiv_le_natAbs _ _) h
theorem Z.abs {n : Nat} {i : Int} (h : Z n i) : Z n (i.natAbs : Int) := by
  unfold Z at *
  omega
theorem Z.abs' {n : Nat} {i : Int} (h : Z n i) : Z n (if i < 0 then -i else i) := by
  unfold Z at *
  split <;> omega
theorem Z.ite {n m : Nat} {p : Prop} [Decidable p] {i j : Int} (h : Z n i) (g : Z m j) : Z (max n m) (if p then i else j) := by
  split
  · exact h.mono (Nat.le_max_left n m)
  · exact g.mono (Nat.le_max_right n m)
theorem Z.fmod {n : Nat} {i j : Int} (h : Z n j) (g : 0 < j) : Z n (i.fmod j) := by
  unfold Z at *
  have h1 := Int.fmod_nonneg_of_pos i g
  have h2 := Int.fmod_lt_of_pos i g
  omega
theorem Z.gcdr {n : Nat} {i j : Int} (h : Z n j) (e : j ≠ 0) : Z n (Int.gcd i j : Int) := by
  have := Nat.gcd_le_right (m := i.natAbs) (n := j.natAbs) (by omega)
  have : Int.gcd i j ≤ j.natAbs := this
  unfold Z at *
  omega
theorem Z.lit {n : Nat} {i : Int} (h : decide (i.natAbs ≤ 2 ^ n) = true) : Z n i := (of_decide_eq_true h : i.natAbs ≤ 2 ^ n)
theorem Z.at64 {i : Int} (h : -18446744073709551616 ≤ i ∧ i ≤ 18446744073709551616) : Z 64 i := by
  have e : (2 : Nat) ^ 64 = 18446744073709551616 := by decide
  unfold Z
  rw [e]
  omega
theorem Z.le {n : Nat} {i j : Int} (h0 : 0 ≤ i) (h : i ≤ j) (g : Z n j) : Z n i := by
  unfold Z at *
  omega
theorem Z.big {n : Nat} {i : Int} (h : Z n i) (e : n ≤ 1900) : i.natAbs ≤ bigI := Nat.le_trans h (Nat.pow_le_pow_right (by decide) e)
theorem cmz {n m : Nat} {i j : Int} (h : Z n i) (g : Z m j) (e1 : n ≤ 1900) (e2 : m ≤ 1900) : CMulX i j := cm (h.big e1) (g.big e2)
theorem lgz {n : Nat} {i : Int} (h : Z n i) (e : n ≤ 1900) : i.natAbs.log2 < 9000 := lg (h.big e)
theorem dvz {n : Nat} {i : Int} (h : Z n i) (e : n ≤ 1900) (h0 : i ≠ 0) : i ≠ 0 ∧ i.natAbs.log2 < 9000 := ⟨h0, lgz h e⟩
theorem sl : sizeLine = 16777216 := rfl
theorem sl1 : (1 ≤ sizeLine) = True := by rw [sl]; decide
theorem sl2 : (2 ≤ sizeLine) = True := by rw [sl]; decide
theorem sl3 : (3 ≤ sizeLine) = True := by rw [sl]; decide
theorem sl4 : (4 ≤ sizeLine) = True := by rw [sl]; decide
theorem sl5 : (5 ≤ sizeLine) = True := by rw [sl]; decide
theorem sl6 : (6 ≤ sizeLine) = True := by rw [sl]; decide
theorem sl7 : (7 ≤ sizeLine) = True := by rw [sl]; decide
theorem sl8 : (8 ≤ sizeLine) = True := by rw [sl]; decide
theorem sl9 : (9 ≤ sizeLine) = True := by rw [sl]; decide
theorem sl10 : (10 ≤ sizeLine) = True := by rw [sl]; decide
theorem sl11 : (11 ≤ sizeLine) = True := by rw [sl]; decide
theorem sl12 : (12 ≤ sizeLine) = True := by rw [sl]; decide
theorem sl13 : (13 ≤ sizeLine) = True := by rw [sl]; decide
theorem sl14 : (14 ≤ sizeLine) = True := by rw [sl]; decide
theorem sl0 : (0 ≤ sizeLine) = True := by rw [sl]; decide
/-! ### shown forms -/
/-- a pair of ints -/
def pr (x : Int × Int) : PyData := .tuple [.int x.1, .int x.2]
/-- four ints -/
def qd (x : Int × Int × Int × Int) : PyData := .tuple [.int x.1, .int x.2.1, .int x.2.2.1, .int x.2.2.2]
/-- a tuple of pairs -/
def prs (l : List (Int × Int)) : PyData := .tuple (l.map pr)
/-- a tuple of ints -/
def ti (l : List Int) : PyData := .tuple (l.map .int)
/-- a list of ints -/
def li (l : List Int) : PyData := .list (l.map .int)
theorem pr_inj {a b : Int × Int} : pr a = pr b ↔ a = b := by
  constructor
  · intro h
    unfold pr at h
    simp only [PyData.tuple.injEq, List.cons.injEq, PyData.int.injEq, and_true] at h
    exact Prod.ext h.1 h.2
  · rintro rfl; rfl
theorem qd_inj {a b : Int × Int × Int × Int} : qd a = qd b ↔ a = b := by
  constructor
  · intro h
    unfold qd at h
    simp only [PyData.tuple.injEq, List.cons.injEq, PyData.int.injEq, and_true] at h
    exact Prod.ext h.1 (Prod.ext h.2.1 (Prod.ext h.2.2.1 h.2.2.2))
  · rintro rfl; rfl
theorem map_inj' {α β : Type} {f : α → β} (hf : ∀ a b, f a = f b → a = b) : ∀ {l m : List α}, l.map f = m.map f → l = m
  | [], [], _ => rfl
  | [], _ :: _, h => nomatch h
  | _ :: _, [], h => nomatch h
  | a :: l, b :: m, h => by
    rw [List.map_cons, List.map_cons] at h
    injection h with h1 h2
    rw [hf a b h1, map_inj' hf h2]
theorem prs_inj {a b : List (Int × Int)} : prs a = prs b ↔ a = b := by
  constructor
  · intro h
    unfold prs at h
    injection h with h
    exact map_inj' (fun a b e => pr_inj.mp e) h
  · rintro rfl; rfl
theorem int_inj : ∀ a b : Int, PyData.int a = PyData.int b → a = b := fun a b h => by cases h; rfl
theorem ti_inj {a b : List Int} : ti a = ti b ↔ a = b := by
  constructor
  · intro h
    unfold ti at h
    injection h with h
    exact map_inj' int_inj h
  · rintro rfl; rfl
theorem li_inj {a b : List Int} : li a = li b ↔ a = b := by
  constructor
  · intro h
    unfold li at h
    injection h with h
    exact map_inj' int_inj h
  · rintro rfl; rfl
section
variable {Q : D → Prop} {x y : Int × Int} {q u : Int × Int × Int × Int}
theorem wipe1 {ρ : Ev} {i : Nat} : wipeE ρ [i] = ρ.set i none := rfl
theorem mketa {α β : Type} (p : α × β) : (p.1, p.2) = p := rfl
theorem x_pick {c : Prop} [Decidable c] {p q : PyData} : ixD (.py (.list [p, q])) (.py (.int (if c then 1 else 0))) Q = if c then Q (.py q) else Q (.py p) := by
  split
  · exact propext ⟨fun ⟨z, h, k⟩ => by cases h; exact k, fun k => ⟨_, rfl, k⟩⟩
  · exact propext ⟨fun ⟨z, h, k⟩ => by cases h; exact k, fun k => ⟨_, rfl, k⟩⟩
theorem l_max4 {i j k l : Int} : biD .max [.py (.int i), .py (.int j), .py (.int k), .py (.int l)] Q = Q (.I (max (max (max i j) k) l)) := rfl
theorem b_subB {a b : Bool} : binD .sub (.py (.bool a)) (.py (.bool b)) Q = Q (.I (PyProof.Rows.b2i a - PyProof.Rows.b2i b)) := rfl
theorem f_pr {a b : Int} : PyData.tuple [.int a, .int b] = pr (a, b) := rfl
theorem f_qd {a b c d : Int} : PyData.tuple [.int a, .int b, .int c, .int d] = qd (a, b, c, d) := rfl
theorem f_prT {a b : Int} : D.T [.int a, .int b] = .py (pr (a, b)) := rfl
theorem f_qdT {a b c d : Int} : D.T [.int a, .int b, .int c, .int d] = .py (qd (a, b, c, d)) := rfl
theorem x_pr0 : ixD (.py (pr x)) (.py (.int 0)) Q = Q (.I x.1) := x_0
theorem x_pr1 : ixD (.py (pr x)) (.py (.int 1)) Q = Q (.I x.2) := x_1
theorem x_qd0 : ixD (.py (qd q)) (.py (.int 0)) Q = Q (.I q.1) := x_0
theorem x_qd1 : ixD (.py (qd q)) (.py (.int 1)) Q = Q (.I q.2.1) := x_1
theorem x_qd2 : ixD (.py (qd q)) (.py (.int 2)) Q = Q (.I q.2.2.1) := x_2
theorem x_3 {a b c d : PyData} {xs : List PyData} : ixD (.py (.tuple (a :: b :: c :: d :: xs))) (.py (.int 3)) Q = Q (.py d) := by
  have : atI (a :: b :: c :: d :: xs) 3 = some d := by
    unfold atI ixN
    rw [if_pos (by decide), if_pos (by rw [List.length_cons, List.length_cons, List.length_cons, List.length_cons]; omega)]
    rfl
  simp only [ixD, this, Option.some.injEq, exists_eq_left']
theorem x_qd3 : ixD (.py (qd q)) (.py (.int 3)) Q = Q (.I q.2.2.2) := x_3
theorem g_pr {t : C} {ρ : Ev} {K : Ev → Prop} : bindG (.tup t) (.py (pr x)) ρ K = bindG t (.args [.I x.1, .I x.2]) ρ K := rfl
theorem g_qd {t : C} {ρ : Ev} {K : Ev → Prop} : bindG (.tup t) (.py (qd q)) ρ K = bindG t (.args [.I q.1, .I q.2.1, .I q.2.2.1, .I q.2.2.2]) ρ K := rfl
theorem l_pr : biD .len [.py (pr x)] Q = Q (.I 2) := rfl
theorem l_qd : biD .len [.py (qd q)] Q = Q (.I 4) := rfl
theorem l_prs {l : List (Int × Int)} : biD .len [.py (prs l)] Q = Q (.I l.length) := by
  show Q (.I (l.map pr).length) = _
  rw [List.length_map]
theorem l_ti {l : List Int} : biD .len [.py (ti l)] Q = Q (.I l.length) := by
  show Q (.I (l.map PyData.int).length) = _
  rw [List.length_map]
theorem l_li {l : List Int} : biD .len [.py (li l)] Q = Q (.I l.length) := by
  show Q (.I (l.map PyData.int).length) = _
  rw [List.length_map]
theorem eqv_pr : PyData.eqv (pr x) (pr y) = decide (x = y) := eqvP
theorem eqv_qd : PyData.eqv (qd q) (qd u) = decide (q = u) := by
  obtain ⟨a, b, c, d⟩ := q
  obtain ⟨e, f, g, h⟩ := u
  simp only [qd, PyData.eqv, PyData.eqvAll, Prod.mk.injEq, Bool.decide_and, Bool.and_true, Bool.and_assoc]
  try rfl
theorem nl_pr : (noLD (.py (pr x)) = true) = True := eq_true rfl
theorem nl_qd : (noLD (.py (qd q)) = true) = True := eq_true rfl
theorem nl_I {i : Int} : (noLD (.py (.int i)) = true) = True := eq_true rfl
theorem nl_B {i : Bool} : (noLD (.py (.bool i)) = true) = True := eq_true rfl
theorem nl_N : (noLD (.py .none) = true) = True := eq_true rfl
theorem shp_qd : SeqAt.shaped (qd q) = true := rfl
theorem shp_pr : SeqAt.shaped (pr x) = true := rfl
theorem c_eq_pr : cmpD .Eq (.py (pr x)) (.py (pr y)) Q = Q (.B (decide (x = y))) := c_eqP
theorem c_ne_pr : cmpD .NotEq (.py (pr x)) (.py (pr y)) Q = Q (.B (!decide (x = y))) := c_neP
theorem c_eq_qd : cmpD .Eq (.py (qd q)) (.py (qd u)) Q = Q (.B (decide (q = u))) := by
  simp only [cmpD, eqv_qd, shp_qd, and_self, true_and]
theorem c_ne_qd : cmpD .NotEq (.py (qd q)) (.py (qd u)) Q = Q (.B (!decide (q = u))) := by
  simp only [cmpD, eqv_qd, shp_qd, and_self, true_and]
theorem i_L {l : List PyData} : itemsD (.py (.list l)) = some (l.map D.py) := rfl
theorem i_T {l : List PyData} : itemsD (.py (.tuple l)) = some (l.map D.py) := rfl
theorem i_A {l : List D} : itemsD (.args l) = some l := rfl
theorem i_pr : itemsD (.py (pr x)) = some ([x.1, x.2].map D.I) := rfl
theorem i_qd : itemsD (.py (qd q)) = some ([q.1, q.2.1, q.2.2.1, q.2.2.2].map D.I) := rfl
theorem i_rng {lo hi : Int} : rangeD lo hi = ((List.range (hi - lo).toNat).map fun (k : Nat) => lo + (k : Int)).map D.I := by
  unfold rangeD
  rw [List.map_map]
  rfl
theorem i_prs {l : List (Int × Int)} : itemsD (.py (prs l)) = some (l.map (fun x => D.py (pr x))) := by
  show some ((l.map pr).map D.py) = _
  rw [List.map_map]
  rfl
theorem i_ti {l : List Int} : itemsD (.py (ti l)) = some (l.map D.I) := by
  show some ((l.map PyData.int).map D.py) = _
  rw [List.map_map]
  rfl
theorem i_li {l : List Int} : itemsD (.py (li l)) = some (l.map D.I) := by
  show some ((l.map PyData.int).map D.py) = _
  rw [List.map_map]
  rfl
theorem ix_prs {l : List (Int × Int)} {i : Int} (h0 : 0 ≤ i) (h : l[i.toNat]? = some x) (hq : Q (.py (pr x))) : ixD (.py (prs l)) (.py (.int i)) Q := ixT_of h0 (p := pr x) (by rw [List.getElem?_map, h]; rfl) hq
theorem ix_ti {l : List Int} {i v : Int} (h0 : 0 ≤ i) (h : l[i.toNat]? = some v) (hq : Q (.I v)) : ixD (.py (ti l)) (.py (.int i)) Q := ixT_of h0 (p := .int v) (by rw [List.getElem?_map, h]; rfl) hq
theorem ix_li {l : List Int} {i v : Int} (h0 : 0 ≤ i) (h : l[i.toNat]? = some v) (hq : Q (.I v)) : ixD (.py (li l)) (.py (.int i)) Q := ixL_of h0 (p := .int v) (by rw [List.getElem?_map, h]; rfl) hq
end
/-! ### shown sizes of the forms -/
theorem Sh.pr {x : Int × Int} (h1 : x.1.natAbs ≤ bigI) (h2 : x.2.natAbs ≤ bigI) : Sh 2 1 (pr x) := Sh.tup (ShA.cons (Sh.int h1) (ShA.cons (Sh.int h2) ShA.nil))
theorem Sh.qd {x : Int × Int × Int × Int} (h1 : x.1.natAbs ≤ bigI) (h2 : x.2.1.natAbs ≤ bigI) (h3 : x.2.2.1.natAbs ≤ bigI) (h4 : x.2.2.2.natAbs ≤ bigI) : Sh 4 1 (qd x) := Sh.tup (ShA.cons (Sh.int h1) (ShA.cons (Sh.int h2) (ShA.cons (Sh.int h3) (ShA.cons (Sh.int h4) ShA.nil))))
theorem ixL_any {Q : D → Prop} {xs : List PyData} {i : Int} (h0 : 0 ≤ i) (h : i < xs.length) (hq : ∀ p ∈ xs, Q (.py p)) : ixD (.py (.list xs)) (.py (.int i)) Q := by
  have hl : i.toNat < xs.length := by omega
  exact ixL_of h0 (List.getElem?_eq_getElem hl) (hq _ (List.getElem_mem hl))
/-- a comprehension with a test -/
theorem compW_filter {α : Type} {step : D → (List PyData → Prop) → Prop} {K : List PyData → Prop} {l : List α} {f : α → D} {p : α → Bool} {g : α → PyData} (hz : l.length ≤ sizeLine)
    (hs : ∀ x ∈ l, ∀ K', (p x = true → K' [g x]) → (p x = false → K' []) → step (f x) K') (hn : K ((l.filter p).map g)) : compW step (l.map f) [] K := by
  have go : ∀ (l2 l1 : List α), l = l1 ++ l2 → compW step (l2.map f) ((l1.filter p).map g) K := by
    intro l2
    induction l2 with
    | nil => intro l1 e; rw [List.append_nil] at e; subst e; exact hn
    | cons x l2 ih =>
      intro l1 e
      have hl := congrArg List.length e
      rw [List.length_append, List.length_cons] at hl
      have hf := List.length_filter_le p l1
      have step1 : ∀ new, (((l1 ++ [x]).filter p).map g = (l1.filter p).map g ++ new) → new.length ≤ 1 → ((l1.filter p).map g).length + new.length ≤ sizeLine ∧ compW step (l2.map f) ((l1.filter p).map g ++ new) K := by
        intro new en hn1
        refine ⟨by rw [List.length_map]; omega, ?_⟩
        have := ih (l1 ++ [x]) (by rw [e, List.append_assoc]; rfl)
        rw [en] at this
        exact this
      refine hs x (by rw [e]; exact List.mem_append_right _ List.mem_cons_self) _ (fun hp => step1 [g x] ?_ (by simp)) (fun hp => step1 [] ?_ (by simp))
      · rw [List.filter_append, List.map_append]
        simp [List.filter, hp]
      · rw [List.filter_append, List.map_append]
        simp [List.filter, hp]
  exact go l [] rfl
/-! ### what a lambda sees -/
def shS : Option Sl → Option Sl
  | some (.sh d) => some (.sh d)
  | _ => none
theorem shE_nil : shE [] = [] := rfl
theorem shE_cons {s : Option Sl} {r : Ev} : shE (s :: r) = shS s :: shE r := rfl
theorem shS_sh {d : D} : shS (some (.sh d)) = some (.sh d) := rfl
theorem shS_ow {d : List PyData} : shS (some (.ow d)) = none := rfl
theorem shS_none : shS none = none := rfl
/-! ### what is told -/
abbrev told (p : PyData) : PyData := .tuple [.str "told", p]
theorem c_ne_told {p : PyData} {x : Str} {Q : D → Prop} (h : SeqAt.shaped (told p) = true) (hx : SeqAt.shaped (.tuple [.str x]) = true) (hq : Q (.B true)) : cmpD .NotEq (.py (told p)) (.py (.tuple [.str x])) Q := by
  refine ⟨⟨h, hx⟩, ?_⟩
  have e : PyData.eqv (told p) (.tuple [.str x]) = false := by
    simp only [told, PyData.eqv, PyData.eqvAll, Bool.and_false]
  rw [e]
  exact hq
theorem c_ne_str {x y : Str} {Q : D → Prop} (hx : SeqAt.shaped (.tuple [.str x]) = true) (hy : SeqAt.shaped (.tuple [.str y]) = true) (hq : Q (.B (!decide (x = y)))) : cmpD .NotEq (.py (.tuple [.str x])) (.py (.tuple [.str y])) Q := by
  refine ⟨⟨hx, hy⟩, ?_⟩
  have e : PyData.eqv (.tuple [.str x]) (.tuple [.str y]) = decide (x = y) := by
    simp only [PyData.eqv, PyData.eqvAll, Bool.and_true]
    rfl
  rw [e]
  exact hq
theorem Sh.told {n d : Nat} {p : PyData} (h : Sh n d p) : Sh (n + 6) (d + 1) (told p) := by
  have a : Sh 4 0 (.str "told") := Sh.str (x := "told") (by decide +kernel)
  exact (Sh.tup (ShA.cons a (ShA.cons h ShA.nil))).mono (by omega) (by omega)
theorem shk_str {x : Str} (h : strB x = true) : SeqAt.shaped (.tuple [.str x]) = true := (Sh.tup (ShA.cons (Sh.str h) ShA.nil)).shaped (by decide)
/-- asked again in the same form -/
theorem same_refl {n d : Nat} {p : PyData} {Q : D → Prop} (h : Sh n d p) (h1 : n ≤ 19000) (h2 : d ≤ 48) (hq : Q (.B true)) : (ReprOk (.list [p]) ∧ ReprOk (.list [p])) ∧ Q (.B (decide ((PyData.list [p]).shown = (PyData.list [p]).shown))) :=
  ⟨⟨h.ok1 h1 h2, h.ok1 h1 h2⟩, by rw [decide_eq_true rfl]; exact hq⟩
theorem ZF0 {x : Int × Int} {n : Nat} (h : Z n x.1) (g : Z n x.2) (e : n ≤ 1900) : Sh 2 1 (Y.pr x) := Sh.pr (h.big e) (g.big e)
theorem Sh.prs {l : List (Int × Int)} {m : Nat} (h : ∀ x ∈ l, x.1.natAbs ≤ bigI ∧ x.2.natAbs ≤ bigI) (hl : l.length ≤ m) : Sh (m * 3) 2 (prs l) := by
  have a := ShA.all (n := 2) (d := 1) (ps := l.map Y.pr) (fun p hp => by
    obtain ⟨x, hx, rfl⟩ := List.mem_map.mp hp
    exact Sh.pr (h x hx).1 (h x hx).2)
  rw [List.length_map] at a
  exact (Sh.tup a).mono (Nat.mul_le_mul_right _ hl) (by omega)
theorem Sh.ti {l : List Int} {m : Nat} (h : ∀ x ∈ l, x.natAbs ≤ bigI) (hl : l.length ≤ m) : Sh m 1 (ti l) := by
  have a := ShA.all (n := 0) (d := 0) (ps := l.map PyData.int) (fun p hp => by
    obtain ⟨x, hx, rfl⟩ := List.mem_map.mp hp
    exact Sh.int (h x hx))
  rw [List.length_map] at a
  exact (Sh.tup a).mono (by omega) (by omega)
theorem Sh.li {l : List Int} {m : Nat} (h : ∀ x ∈ l, x.natAbs ≤ bigI) (hl : l.length ≤ m) : Sh m 1 (li l) := by
  have a := ShA.all (n := 0) (d := 0) (ps := l.map PyData.int) (fun p hp => by
    obtain ⟨x, hx, rfl⟩ := List.mem_map.mp hp
    exact Sh.int (h x hx))
  rw [List.length_map] at a
  exact (Sh.lst a).mono (by omega) (by omega)
/-! ### statement by statement, up to the next loop -/
section
variable {Φ : PhiT} {exN : Nat → Str} {ρ : Ev} {Dn : En} {s r : Y.S} {c ci : C} {i j : Nat}
/-- a statement, then the rest, which is told of by what it asks alone -/
theorem seq_by (post : Ev → Prop) (h : ∀ R : Ev → Prop, (∀ ρ', post ρ' → R ρ') → wpS Φ exN s ρ { Dn with nx := R }) (hr : ∀ ρ', post ρ' → wpS Φ exN r ρ' Dn) : wpS Φ exN (.seq s r) ρ Dn := h _ hr
theorem w_nil : wpS Φ exN .nil ρ Dn = Dn.nx ρ := rfl
theorem w_asg : wpS Φ exN (.seq (.asg i c) r) ρ Dn = wp Φ exN c ρ (fun d => wpS Φ exN r (ρ.set i (some (.sh d))) Dn) Dn.ex := rfl
theorem w_asgL : wpS Φ exN (.seq (.asgL i c) r) ρ Dn = wp Φ exN c ρ (fun d => match d with | .py (.list ps) => wpS Φ exN r (ρ.set i (some (.ow ps))) Dn | _ => False) Dn.ex := rfl
theorem w_unp {tg : C} : wpS Φ exN (.seq (.unp tg c) r) ρ Dn = wp Φ exN c ρ (fun d => bindG tg d ρ fun ρ1 => wpS Φ exN r ρ1 Dn) Dn.ex := rfl
theorem w_par3 {l : Nat} {a b c : C} : wpS Φ exN (.seq (.par3 i j l a b c) r) ρ Dn = wp Φ exN a ρ (fun x => wp Φ exN b ρ (fun y => wp Φ exN c ρ (fun z => wpS Φ exN r (((ρ.set i (some (.sh x))).set j (some (.sh y))).set l (some (.sh z))) Dn) Dn.ex) Dn.ex) Dn.ex := rfl
theorem w_par {a b : C} : wpS Φ exN (.seq (.par i j a b) r) ρ Dn = wp Φ exN a ρ (fun x => wp Φ exN b ρ (fun y => wpS Φ exN r ((ρ.set i (some (.sh x))).set j (some (.sh y))) Dn) Dn.ex) Dn.ex := rfl
theorem w_aug {op : BO} : wpS Φ exN (.seq (.aug i op c) r) ρ Dn = getV ρ i fun x => wp Φ exN c ρ (fun y => augD op x y fun z => wpS Φ exN r (ρ.set i (some (.sh z))) Dn) Dn.ex := rfl
theorem w_app : wpS Φ exN (.seq (.app i c) r) ρ Dn = match ρ[i]? with
      | some (some (.ow ps)) => wp Φ exN c ρ (fun d => match d with
        | .py p => ps.length < sizeLine ∧ wpS Φ exN r (ρ.set i (some (.ow (ps ++ [p])))) Dn
        | _ => False) Dn.ex
      | _ => False := rfl
theorem w_rem : wpS Φ exN (.seq (.rem i c) r) ρ Dn = match ρ[i]? with
      | some (some (.ow ps)) => wp Φ exN c ρ (fun d => match d with
        | .py p => (SeqAt.shaped p = true ∧ SeqAt.shaped (.list ps) = true ∧ PyData.plainAll ps = true ∧ p.plain = true) ∧ ∃ j, SeqAt.dataPlace ps p = some j ∧ wpS Φ exN r (ρ.set i (some (.ow (ps.eraseIdx j)))) Dn
        | _ => False) Dn.ex
      | _ => False := rfl
theorem w_ext : wpS Φ exN (.seq (.ext i c) r) ρ Dn = match ρ[i]? with
      | some (some (.ow ps)) => wp Φ exN c ρ (fun d => match d with
        | .py (.list qs) => ps.length + qs.length ≤ sizeLine ∧ wpS Φ exN r (ρ.set i (some (.ow (ps ++ qs)))) Dn
        | _ => False) Dn.ex
      | _ => False := rfl
theorem w_seti : wpS Φ exN (.seq (.seti i ci c) r) ρ Dn = match ρ[i]? with
      | some (some (.ow ps)) => wp Φ exN c ρ (fun d => wp Φ exN ci ρ (fun x => match x, d with
        | .py (.int k), .py p => ∃ j, L2.ixN ps.length k = some j ∧ wpS Φ exN r (ρ.set i (some (.ow (ps.set j p)))) Dn
        | _, _ => False) Dn.ex) Dn.ex
      | _ => False := rfl
theorem w_frz : wpS Φ exN (.seq (.frz i) r) ρ Dn = match ρ[i]? with
      | some (some (.ow ps)) => wpS Φ exN r (ρ.set i (some (.sh (.L ps)))) Dn
      | _ => wpS Φ exN r ρ Dn := rfl
theorem w_expr : wpS Φ exN (.seq (.expr c) r) ρ Dn = wp Φ exN c ρ (fun _ => wpS Φ exN r ρ Dn) Dn.ex := rfl
theorem w_ret : wpS Φ exN (.seq (.ret c) r) ρ Dn = wp Φ exN c ρ Dn.rt Dn.ex := rfl
theorem w_raise {k : Nat} : wpS Φ exN (.seq (.raise k c) r) ρ Dn = wp Φ exN c ρ (fun _ => Dn.ex k) Dn.ex := rfl
theorem w_brk : wpS Φ exN (.seq .brk r) ρ Dn = Dn.bk ρ := rfl
theorem w_cont : wpS Φ exN (.seq .cont r) ρ Dn = Dn.ct ρ := rfl
theorem w_pass : wpS Φ exN (.seq .pass r) ρ Dn = wpS Φ exN r ρ Dn := rfl
theorem w_for {tg src : C} {body : Y.S} : wpS Φ exN (.for_ tg src body) ρ Dn = wp Φ exN src ρ (fun x => match itemsD x with
      | some ds => forW (fun d ρ1 K => bindG tg d ρ1 fun ρ2 => wpS Φ exN body ρ2 { Dn with nx := K, ct := K, bk := Dn.nx }) Dn.nx ds ρ
      | none => False) Dn.ex := rfl
theorem w_ite1 {t : C} {a b : Y.S} : wpS Φ exN (.ite t a b) ρ Dn = wp Φ exN t ρ (fun x => match x with | .py (.bool k) => if k = true then wpS Φ exN a ρ Dn else wpS Φ exN b ρ Dn | _ => False) Dn.ex := rfl
theorem w_ite {t : C} {a b : Y.S} : wpS Φ exN (.seq (.ite t a b) r) ρ Dn = wp Φ exN t ρ (fun x => match x with | .py (.bool k) => if k = true then wpS Φ exN a ρ { Dn with nx := fun ρ1 => wpS Φ exN r ρ1 Dn } else wpS Φ exN b ρ { Dn with nx := fun ρ1 => wpS Φ exN r ρ1 Dn } | _ => False) Dn.ex := rfl
end
end Y

/-! part Y30 -/
set_option Elab.async false
set_option linter.all false
set_option maxRecDepth 100000
set_option maxHeartbeats 2000000
/-! Y30: shown texts are texts. -/
namespace Y
open PySem PySem.Spec
def sOk (x : Str) : Bool := x.cps.all (· < 0x110000)
theorem sOk_app {x y : Str} (h : sOk x = true) (g : sOk y = true) : sOk (x ++ y) = true := by
  unfold sOk at *
  have e : (x ++ y).cps = x.cps ++ y.cps := rfl
  rw [e, Array.all_append, h, g]
  rfl
theorem sOk_str (s : String) : sOk (PySem.Str.ofString s) = true := by
  rw [PySem.Str.ofString_eq_toList]
  unfold sOk
  rw [List.all_toArray, List.all_map, List.all_eq_true]
  intro c _
  have : c.toNat < 0x110000 := by
    have := c.valid
    rcases c.valid with h | h
    · exact Nat.lt_trans h (by decide)
    · exact h.2
  exact decide_eq_true this
theorem sOk_join : ∀ {ts : List Str}, (∀ t ∈ ts, sOk t = true) → sOk (PySem.Str.join ", " ts) = true
  | [], _ => by decide +kernel
  | [x], h => h x List.mem_cons_self
  | x :: y :: r, h => by
    show sOk (x ++ ", " ++ PySem.Str.join ", " (y :: r)) = true
    exact sOk_app (sOk_app (h x List.mem_cons_self) (sOk_str _)) (sOk_join fun t ht => h t (List.mem_cons_of_mem _ ht))
theorem sOk_from : ∀ {ts : List Str} {k : Nat} {acc : Str}, sOk acc = true → (∀ t ∈ ts, sOk t = true) → sOk (textFrom k acc ts) = true
  | [], k, acc, h, _ => h
  | t :: r, k, acc, h, g => sOk_from (ts := r) (sOk_app (sOk_app h (by split <;> exact sOk_str _)) (g t List.mem_cons_self)) fun t ht => g t (List.mem_cons_of_mem _ ht)
mutual
def shOk : PyData → Bool
  | .none => true
  | .bool _ => true
  | .int _ => true
  | .str x => sOk (PyData.str x).shown
  | .list xs => shOkAll xs
  | .tuple xs => shOkAll xs
  | .dict _ => false
def shOkAll : List PyData → Bool
  | [] => true
  | x :: xs => shOk x && shOkAll xs
end
mutual
theorem sOk_shown : ∀ {p : PyData}, shOk p = true → sOk p.shown = true
  | .none, _ => sOk_str _
  | .bool b, _ => by
    show sOk (if b then "True" else "False") = true
    split <;> exact sOk_str _
  | .int i, _ => sOk_str _
  | .str x, h => h
  | .list xs, h => by
    show sOk (listText (PyData.shownAll xs)) = true
    exact sOk_app (sOk_from (sOk_str _) (sOk_all (by simpa only [shOk] using h))) (sOk_str _)
  | .tuple xs, h => by
    show sOk (tupleText (PyData.shownAll xs)) = true
    exact sOk_app (sOk_app (sOk_str _) (sOk_join (sOk_all (by simpa only [shOk] using h)))) (by split <;> exact sOk_str _)
  | .dict _, h => by cases h
theorem sOk_all : ∀ {ps : List PyData}, shOkAll ps = true → ∀ t ∈ PyData.shownAll ps, sOk t = true
  | [], _, t, h => by cases h
  | x :: xs, h, t, ht => by
    simp only [shOkAll, Bool.and_eq_true] at h
    have ht : t ∈ x.shown :: PyData.shownAll xs := ht
    rcases List.mem_cons.mp ht with rfl | ht
    · exact sOk_shown h.1
    · exact sOk_all h.2 t ht
end
theorem shOk_map {α : Type} {f : α → PyData} (h : ∀ a, shOk (f a) = true) : ∀ l : List α, shOkAll (l.map f) = true
  | [] => rfl
  | a :: l => by
    simp only [List.map_cons, shOkAll, h a, shOk_map h l, Bool.and_self]
theorem shOk_pr {x : Int × Int} : shOk (pr x) = true := rfl
theorem shOk_qd {x : Int × Int × Int × Int} : shOk (qd x) = true := rfl
theorem shOk_prs {l : List (Int × Int)} : shOk (prs l) = true := by
  show shOk (.tuple _) = true
  simp only [shOk]
  exact shOk_map (fun _ => shOk_pr) l
theorem shOk_ti {l : List Int} : shOk (ti l) = true := by
  show shOk (.tuple _) = true
  simp only [shOk]
  exact shOk_map (fun _ => rfl) l
/-- the law's last look: what is passed stays -/
theorem c_ne_kept {p : PyData} {Q : D → Prop} (h : shOk p = true) (hq : Q (.B false)) : cmpD .NotEq (.S p.shown) (.S p.shown) Q := by
  have e : SeqAt.shaped (.str p.shown) = true := by
    show (sOk p.shown && decide ((PyData.str p.shown).depth ≤ 64)) = true
    rw [sOk_shown h]
    rfl
  refine ⟨⟨e, e⟩, ?_⟩
  have e2 : PyData.eqv (.str p.shown) (.str p.shown) = true := eqv_refl rfl
  rw [e2]
  exact hq
theorem c_ne_self {p : PyData} {Q : D → Prop} (h : SeqAt.shaped p = true) (hd : p.hasDict = false) (hq : Q (.B false)) : cmpD .NotEq (.py p) (.py p) Q := by
  refine ⟨⟨h, h⟩, ?_⟩
  rw [eqv_refl hd]
  exact hq
/-- n of the same, as a list times n -/
theorem rep_flat {p : PyData} {n : Nat} : (List.replicate n [p]).flatten = List.replicate n p := by
  induction n with
  | zero => rfl
  | succ n ih => rw [List.replicate_succ, List.flatten_cons, ih, List.replicate_succ]; rfl
/-- all calls are refused -/
theorem refused_all {n : Nat} {Q : D → Prop} (hn : n < 100) (hq : Q (.B false)) : cmpD .NotEq (.L (List.replicate n (.tuple [.str (exName 0)]))) (.L (List.replicate n (.tuple [.str "refused"]))) Q := by
  have e : exName 0 = ("refused" : Str) := rfl
  rw [e]
  refine c_ne_self ?_ ?_ hq
  · have h1 : Sh ("refused" : Str).cps.size 0 (.str "refused") := Sh.str (by decide +kernel)
    have h2 := Sh.tup (ShA.cons h1 ShA.nil)
    have h3 := ShA.all (ps := List.replicate n (PyData.tuple [.str "refused"])) fun p hp => by rw [List.eq_of_mem_replicate hp]; exact h2
    exact (Sh.lst h3).shaped (by decide)
  · have : ∀ n, PyData.hasDictAll (List.replicate n (PyData.tuple [.str "refused"])) = false := by
      intro n
      induction n with
      | zero => rfl
      | succ n ih => rw [List.replicate_succ]; simp only [PyData.hasDictAll, PyData.hasDict, ih, Bool.or_self]
    simp only [PyData.hasDict]
    exact this n
end Y

/-! part SB -/
set_option Elab.async false
set_option linter.all false
set_option maxRecDepth 100000
set_option maxHeartbeats 2000000
set_option exponentiation.threshold 5000
/-! SB: the base: fractions, the law's own numbers. -/
namespace Y
open PySem PySem.Spec
def n_law_stream : List Str := ["script", "numbers", "cell", "rest", "k", "stirred"]
/-- law_stream: number 0 -/
def b_law_stream : S := (.seq (.asgL 1 (.lst (.nil))) (.seq (.for_ (.var 2) (.scr 0) (.seq (.asg 3 (.bi .abs (.cons (.bi .int (.cons (.var 2) .nil)) .nil))) (.seq (.ite (.cmp .GtE (.var 3) (.bin .pow (.lit (.int 10)) (.lit (.int 18)))) (.seq (.for_ (.var 4) (.rng (.cons (.lit (.int 60)) .nil)) (.seq (.app 1 (.bin .mod (.bi .int (.cons (.var 3) .nil)) (.lit (.int 1009)))) (.seq (.asg 3 (.bin .fdiv (.var 3) (.lit (.int 1009)))) (.seq (.ite (.cmp .Eq (.var 3) (.lit (.int 0))) (.seq (.brk) .nil) .nil) .nil)))) .nil) (.seq (.asg 5 (.bin .mod (.bi .int (.cons (.var 3) .nil)) (.lit (.int 2147483647)))) (.seq (.for_ (.var 4) (.rng (.cons (.lit (.int 10)) .nil)) (.seq (.asg 5 (.bin .mod (.bi .int (.cons (.bin .add (.bin .add (.bin .mul (.var 5) (.lit (.int 48271))) (.bin .mul (.lit (.int 7)) (.var 4))) (.lit (.int 11))) .nil)) (.lit (.int 2147483647)))) (.seq (.app 1 (.bin .mod (.bin .mod (.bi .int (.cons (.bin .add (.bin .mul (.var 5) (.lit (.int 69621))) (.var 4)) .nil)) (.lit (.int 2147483629))) (.lit (.int 1009)))) .nil))) .nil))) .nil))) (.seq (.ite (.cmp .Eq (.bi .len (.cons (.bvar 1) .nil)) (.lit (.int 0))) (.seq (.app 1 (.lit (.int 0))) .nil) .nil) (.seq (.frz 1) (.seq (.ret (.var 1)) .nil)))))
def n_law_divisor : List Str := ["first", "second"]
/-- law_divisor: number 2 -/
def b_law_divisor : S := (.seq (.while_ (.cmp .Gt (.var 1) (.lit (.int 0))) (.seq (.par 0 1 (.var 1) (.bin .mod (.bi .int (.cons (.var 0) .nil)) (.var 1))) .nil)) (.seq (.ret (.var 0)) .nil))
def n_law_reduced : List Str := ["top", "below", "common"]
/-- law_reduced: number 3 -/
def b_law_reduced : S := (.seq (.asg 2 (.call 2 (.cons (.bi .max (.cons (.var 0) (.cons (.bin .sub (.lit (.int 0)) (.var 0)) .nil))) (.cons (.var 1) .nil)))) (.seq (.ret (.tup (.cons (.bin .fdiv (.var 0) (.var 2)) (.cons (.bin .fdiv (.var 1) (.var 2)) .nil)))) .nil))
def n_law_more : List Str := ["one", "other"]
/-- law_more: number 9 -/
def b_law_more : S := (.seq (.ret (.cmp .Gt (.bin .mul (.ix (.var 0) (.lit (.int 0))) (.ix (.var 1) (.lit (.int 1)))) (.bin .mul (.ix (.var 1) (.lit (.int 0))) (.ix (.var 0) (.lit (.int 1)))))) .nil)
def n_divisor : List Str := ["first", "second"]
/-- divisor: number 11 -/
def b_divisor : S := (.seq (.par 0 1 (.bi .abs (.cons (.var 0) .nil)) (.bi .abs (.cons (.var 1) .nil))) (.seq (.while_ (.cmp .Gt (.var 1) (.lit (.int 0))) (.seq (.par 0 1 (.var 1) (.bin .mod (.var 0) (.var 1))) .nil)) (.seq (.ret (.var 0)) .nil)))
def n_fraction : List Str := ["top", "below", "common"]
/-- fraction: number 12 -/
def b_fraction : S := (.seq (.ite (.cmp .Eq (.var 1) (.lit (.int 0))) (.seq (.raise 0 .nil) .nil) .nil) (.seq (.asg 2 (.call 11 (.cons (.var 0) (.cons (.var 1) .nil)))) (.seq (.ite (.cmp .Lt (.var 1) (.lit (.int 0))) (.seq (.asg 2 (.neg (.var 2))) .nil) .nil) (.seq (.ret (.tup (.cons (.bin .fdiv (.var 0) (.var 2)) (.cons (.bin .fdiv (.var 1) (.var 2)) .nil)))) .nil))))
def n_added : List Str := ["first", "second"]
/-- added: number 13 -/
def b_added : S := (.seq (.ret (.call 12 (.cons (.bin .add (.bin .mul (.ix (.var 0) (.lit (.int 0))) (.ix (.var 1) (.lit (.int 1)))) (.bin .mul (.ix (.var 1) (.lit (.int 0))) (.ix (.var 0) (.lit (.int 1))))) (.cons (.bin .mul (.ix (.var 0) (.lit (.int 1))) (.ix (.var 1) (.lit (.int 1)))) .nil)))) .nil)
def n_times2 : List Str := ["first", "second"]
/-- times: number 159 -/
def b_times2 : S := (.seq (.ret (.call 12 (.cons (.bin .mul (.ix (.var 0) (.lit (.int 0))) (.ix (.var 1) (.lit (.int 0)))) (.cons (.bin .mul (.ix (.var 0) (.lit (.int 1))) (.ix (.var 1) (.lit (.int 1)))) .nil)))) .nil)
def n_is_fraction : List Str := ["value"]
/-- is_fraction: number 15 -/
def b_is_fraction : S := (.seq (.ret (.and (.cmp .Eq (.bi .len (.cons (.var 0) .nil)) (.lit (.int 2))) (.and (.cmp .GtE (.ix (.var 0) (.lit (.int 1))) (.lit (.int 1))) (.cmp .Eq (.call 11 (.cons (.ix (.var 0) (.lit (.int 0))) (.cons (.ix (.var 0) (.lit (.int 1))) .nil))) (.lit (.int 1)))))) .nil)
def n_less : List Str := ["first", "second"]
/-- less: number 27 -/
def b_less : S := (.seq (.ret (.cmp .Lt (.bin .mul (.ix (.var 0) (.lit (.int 0))) (.ix (.var 1) (.lit (.int 1)))) (.bin .mul (.ix (.var 1) (.lit (.int 0))) (.ix (.var 0) (.lit (.int 1)))))) .nil)
def n_size : List Str := ["value"]
/-- size: number 25 -/
def b_size : S := (.seq (.ret (.tup (.cons (.bi .abs (.cons (.ix (.var 0) (.lit (.int 0))) .nil)) (.cons (.ix (.var 0) (.lit (.int 1))) .nil)))) .nil)
def n_law_size : List Str := ["value"]
/-- law_size: number 22 -/
def b_law_size : S := (.seq (.ret (.tup (.cons (.bi .max (.cons (.ix (.var 0) (.lit (.int 0))) (.cons (.bin .sub (.lit (.int 0)) (.ix (.var 0) (.lit (.int 0)))) .nil))) (.cons (.ix (.var 0) (.lit (.int 1))) .nil)))) .nil)
/-! ### plain functions -/
def red (a b : Int) : Int × Int := (a.fdiv (Int.gcd a b), b.fdiv (Int.gcd a b))
def sgn (b g : Int) : Int := if b < 0 then -g else g
def frac (a b : Int) : Int × Int := (a.fdiv (sgn b (Int.gcd a b)), b.fdiv (sgn b (Int.gcd a b)))
def okF (x : Int × Int) : Bool := decide (1 ≤ x.2) && decide (Int.gcd x.1 x.2 = 1)
def ZF (n : Nat) (x : Int × Int) : Prop := Z n x.1 ∧ Z n x.2
instance {n : Nat} {x : Int × Int} : Decidable (ZF n x) := inferInstanceAs (Decidable (_ ∧ _))
def addF (a b : Int × Int) : Int × Int := frac (a.1 * b.2 + b.1 * a.2) (a.2 * b.2)
def mulF (a b : Int × Int) : Int × Int := frac (a.1 * b.1) (a.2 * b.2)
def ltF (a b : Int × Int) : Prop := a.1 * b.2 < b.1 * a.2
instance : Decidable (ltF a b) := inferInstanceAs (Decidable (_ < _))
def absF (a : Int × Int) : Int × Int := (a.1.natAbs, a.2)
def C_law_stream : Ct := fun ds Q E => ds = [.scr] ∧ (∀ ms : List Int, 0 < ms.length → ms.length ≤ 4000 → (∀ z ∈ ms, 0 ≤ z ∧ z < 1009) → Q (.L (ms.map PyData.int)))
theorem p_law_stream  {Q : D → Prop} {E : Nat → Prop} : C_law_stream [.scr] Q E ↔ (∀ ms : List Int, 0 < ms.length → ms.length ≤ 4000 → (∀ z ∈ ms, 0 ≤ z ∧ z < 1009) → Q (.L (ms.map PyData.int))) := ⟨fun ⟨e, h⟩ => by exact h, fun h => ⟨rfl, h⟩⟩
def C_law_next : Ct := fun ds Q E => ∃ (m : Int), ds = [.st, .I m] ∧ (0 < m ∧ ∀ x : Int, 0 ≤ x → x < m → Q (.I x))
theorem p_law_next {m : Int} {Q : D → Prop} {E : Nat → Prop} : C_law_next [.st, .I m] Q E ↔ (0 < m ∧ ∀ x : Int, 0 ≤ x → x < m → Q (.I x)) := ⟨fun ⟨m', e, h⟩ => by simp only [List.cons.injEq, D.py.injEq, PyData.int.injEq, PyData.bool.injEq, PyData.str.injEq, pr_inj, qd_inj, prs_inj, ti_inj, li_inj, and_true, true_and] at e; obtain rfl := e; exact h, fun h => ⟨_, rfl, h⟩⟩
def C_law_divisor : Ct := fun ds Q E => ∃ (a : Int) (b : Int), ds = [.I a, .I b] ∧ (0 ≤ a ∧ 0 ≤ b ∧ Q (.I (Int.gcd a b)))
theorem p_law_divisor {a : Int} {b : Int} {Q : D → Prop} {E : Nat → Prop} : C_law_divisor [.I a, .I b] Q E ↔ (0 ≤ a ∧ 0 ≤ b ∧ Q (.I (Int.gcd a b))) := ⟨fun ⟨a', b', e, h⟩ => by simp only [List.cons.injEq, D.py.injEq, PyData.int.injEq, PyData.bool.injEq, PyData.str.injEq, pr_inj, qd_inj, prs_inj, ti_inj, li_inj, and_true, true_and] at e; obtain ⟨rfl, rfl⟩ := e; exact h, fun h => ⟨_, _, rfl, h⟩⟩
def C_law_reduced : Ct := fun ds Q E => ∃ (a : Int) (b : Int), ds = [.I a, .I b] ∧ (0 < b ∧ b.natAbs ≤ bigI ∧ Q (.py (pr (red a b))))
theorem p_law_reduced {a : Int} {b : Int} {Q : D → Prop} {E : Nat → Prop} : C_law_reduced [.I a, .I b] Q E ↔ (0 < b ∧ b.natAbs ≤ bigI ∧ Q (.py (pr (red a b)))) := ⟨fun ⟨a', b', e, h⟩ => by simp only [List.cons.injEq, D.py.injEq, PyData.int.injEq, PyData.bool.injEq, PyData.str.injEq, pr_inj, qd_inj, prs_inj, ti_inj, li_inj, and_true, true_and] at e; obtain ⟨rfl, rfl⟩ := e; exact h, fun h => ⟨_, _, rfl, h⟩⟩
def C_law_more : Ct := fun ds Q E => ∃ (a : Int × Int) (b : Int × Int), ds = [.py (pr a), .py (pr b)] ∧ (ZF 900 a ∧ ZF 900 b ∧ Q (.B (decide (ltF b a))))
theorem p_law_more {a : Int × Int} {b : Int × Int} {Q : D → Prop} {E : Nat → Prop} : C_law_more [.py (pr a), .py (pr b)] Q E ↔ (ZF 900 a ∧ ZF 900 b ∧ Q (.B (decide (ltF b a)))) := ⟨fun ⟨a', b', e, h⟩ => by simp only [List.cons.injEq, D.py.injEq, PyData.int.injEq, PyData.bool.injEq, PyData.str.injEq, pr_inj, qd_inj, prs_inj, ti_inj, li_inj, and_true, true_and] at e; obtain ⟨rfl, rfl⟩ := e; exact h, fun h => ⟨_, _, rfl, h⟩⟩
def C_divisor : Ct := fun ds Q E => ∃ (a : Int) (b : Int), ds = [.I a, .I b] ∧ (Q (.I (Int.gcd a b)))
theorem p_divisor {a : Int} {b : Int} {Q : D → Prop} {E : Nat → Prop} : C_divisor [.I a, .I b] Q E ↔ (Q (.I (Int.gcd a b))) := ⟨fun ⟨a', b', e, h⟩ => by simp only [List.cons.injEq, D.py.injEq, PyData.int.injEq, PyData.bool.injEq, PyData.str.injEq, pr_inj, qd_inj, prs_inj, ti_inj, li_inj, and_true, true_and] at e; obtain ⟨rfl, rfl⟩ := e; exact h, fun h => ⟨_, _, rfl, h⟩⟩
def C_fraction : Ct := fun ds Q E => ∃ (a : Int) (b : Int), ds = [.I a, .I b] ∧ (b.natAbs ≤ bigI ∧ (b = 0 → E 0) ∧ (b ≠ 0 → Q (.py (pr (frac a b)))))
theorem p_fraction {a : Int} {b : Int} {Q : D → Prop} {E : Nat → Prop} : C_fraction [.I a, .I b] Q E ↔ (b.natAbs ≤ bigI ∧ (b = 0 → E 0) ∧ (b ≠ 0 → Q (.py (pr (frac a b))))) := ⟨fun ⟨a', b', e, h⟩ => by simp only [List.cons.injEq, D.py.injEq, PyData.int.injEq, PyData.bool.injEq, PyData.str.injEq, pr_inj, qd_inj, prs_inj, ti_inj, li_inj, and_true, true_and] at e; obtain ⟨rfl, rfl⟩ := e; exact h, fun h => ⟨_, _, rfl, h⟩⟩
def C_added : Ct := fun ds Q E => ∃ (a : Int × Int) (b : Int × Int), ds = [.py (pr a), .py (pr b)] ∧ (ZF 900 a ∧ ZF 900 b ∧ (a.2 * b.2 = 0 → E 0) ∧ (a.2 * b.2 ≠ 0 → Q (.py (pr (addF a b)))))
theorem p_added {a : Int × Int} {b : Int × Int} {Q : D → Prop} {E : Nat → Prop} : C_added [.py (pr a), .py (pr b)] Q E ↔ (ZF 900 a ∧ ZF 900 b ∧ (a.2 * b.2 = 0 → E 0) ∧ (a.2 * b.2 ≠ 0 → Q (.py (pr (addF a b))))) := ⟨fun ⟨a', b', e, h⟩ => by simp only [List.cons.injEq, D.py.injEq, PyData.int.injEq, PyData.bool.injEq, PyData.str.injEq, pr_inj, qd_inj, prs_inj, ti_inj, li_inj, and_true, true_and] at e; obtain ⟨rfl, rfl⟩ := e; exact h, fun h => ⟨_, _, rfl, h⟩⟩
def C_times2 : Ct := fun ds Q E => ∃ (a : Int × Int) (b : Int × Int), ds = [.py (pr a), .py (pr b)] ∧ (ZF 900 a ∧ ZF 900 b ∧ (a.2 * b.2 = 0 → E 0) ∧ (a.2 * b.2 ≠ 0 → Q (.py (pr (mulF a b)))))
theorem p_times2 {a : Int × Int} {b : Int × Int} {Q : D → Prop} {E : Nat → Prop} : C_times2 [.py (pr a), .py (pr b)] Q E ↔ (ZF 900 a ∧ ZF 900 b ∧ (a.2 * b.2 = 0 → E 0) ∧ (a.2 * b.2 ≠ 0 → Q (.py (pr (mulF a b))))) := ⟨fun ⟨a', b', e, h⟩ => by simp only [List.cons.injEq, D.py.injEq, PyData.int.injEq, PyData.bool.injEq, PyData.str.injEq, pr_inj, qd_inj, prs_inj, ti_inj, li_inj, and_true, true_and] at e; obtain ⟨rfl, rfl⟩ := e; exact h, fun h => ⟨_, _, rfl, h⟩⟩
def C_is_fraction : Ct := fun ds Q E => ∃ (a : Int × Int), ds = [.py (pr a)] ∧ (Q (.B (okF a)))
theorem p_is_fraction {a : Int × Int} {Q : D → Prop} {E : Nat → Prop} : C_is_fraction [.py (pr a)] Q E ↔ (Q (.B (okF a))) := ⟨fun ⟨a', e, h⟩ => by simp only [List.cons.injEq, D.py.injEq, PyData.int.injEq, PyData.bool.injEq, PyData.str.injEq, pr_inj, qd_inj, prs_inj, ti_inj, li_inj, and_true, true_and] at e; obtain rfl := e; exact h, fun h => ⟨_, rfl, h⟩⟩
def C_less : Ct := fun ds Q E => ∃ (a : Int × Int) (b : Int × Int), ds = [.py (pr a), .py (pr b)] ∧ (ZF 900 a ∧ ZF 900 b ∧ Q (.B (decide (ltF a b))))
theorem p_less {a : Int × Int} {b : Int × Int} {Q : D → Prop} {E : Nat → Prop} : C_less [.py (pr a), .py (pr b)] Q E ↔ (ZF 900 a ∧ ZF 900 b ∧ Q (.B (decide (ltF a b)))) := ⟨fun ⟨a', b', e, h⟩ => by simp only [List.cons.injEq, D.py.injEq, PyData.int.injEq, PyData.bool.injEq, PyData.str.injEq, pr_inj, qd_inj, prs_inj, ti_inj, li_inj, and_true, true_and] at e; obtain ⟨rfl, rfl⟩ := e; exact h, fun h => ⟨_, _, rfl, h⟩⟩
def C_size : Ct := fun ds Q E => ∃ (a : Int × Int), ds = [.py (pr a)] ∧ (Q (.py (pr (absF a))))
theorem p_size {a : Int × Int} {Q : D → Prop} {E : Nat → Prop} : C_size [.py (pr a)] Q E ↔ (Q (.py (pr (absF a)))) := ⟨fun ⟨a', e, h⟩ => by simp only [List.cons.injEq, D.py.injEq, PyData.int.injEq, PyData.bool.injEq, PyData.str.injEq, pr_inj, qd_inj, prs_inj, ti_inj, li_inj, and_true, true_and] at e; obtain rfl := e; exact h, fun h => ⟨_, rfl, h⟩⟩
def C_law_size : Ct := fun ds Q E => ∃ (a : Int × Int), ds = [.py (pr a)] ∧ (Q (.py (pr (absF a))))
theorem p_law_size {a : Int × Int} {Q : D → Prop} {E : Nat → Prop} : C_law_size [.py (pr a)] Q E ↔ (Q (.py (pr (absF a)))) := ⟨fun ⟨a', e, h⟩ => by simp only [List.cons.injEq, D.py.injEq, PyData.int.injEq, PyData.bool.injEq, PyData.str.injEq, pr_inj, qd_inj, prs_inj, ti_inj, li_inj, and_true, true_and] at e; obtain rfl := e; exact h, fun h => ⟨_, rfl, h⟩⟩
theorem gcd_step {a b : Int} (ha : 0 ≤ a) (hb : 0 < b) : Int.gcd b (a.fmod b) = Int.gcd a b := by
  rw [Int.fmod_eq_emod_of_nonneg _ (Int.le_of_lt hb)]
  obtain ⟨x, rfl⟩ := Int.eq_ofNat_of_zero_le ha
  obtain ⟨y, rfl⟩ := Int.eq_ofNat_of_zero_le (Int.le_of_lt hb)
  rw [← Int.natCast_emod]
  show Nat.gcd y (x % y) = Nat.gcd x y
  rw [Nat.gcd_comm y, ← Nat.gcd_rec, Nat.gcd_comm]
theorem ab (i : Int) : (if i < 0 then -i else i) = i.natAbs := by split <;> omega
theorem while_gcd {Q : D → Prop} {a b : Int} (ha : 0 ≤ a) (hb : 0 ≤ b) (hq : Q (.I (Int.gcd a b)))
    {turn : Ev → (Ev → Prop) → Prop} (ht : ∀ x y : Int, ∀ K : Ev → Prop, turn [some (.sh (.I x)), some (.sh (.I y))] K = (if decide (0 < y) = true then (y ≠ 0 ∧ K [some (.sh (.I y)), some (.sh (.I (x.fmod y)))]) else Q (.I x))) :
    ∃ n, whileW turn n [some (.sh (.I a)), some (.sh (.I b))] := by
  refine while_rule (fun m ρ => ∃ x y : Int, ρ = [some (.sh (.I x)), some (.sh (.I y))] ∧ 0 ≤ x ∧ 0 ≤ y ∧ m = y.toNat ∧ Int.gcd x y = Int.gcd a b) b.toNat ⟨a, b, rfl, ha, hb, rfl, rfl⟩ ?_
  rintro m ρ K ⟨x, y, rfl, hx, hy, rfl, hg⟩ hK
  rw [ht]
  split
  · rename_i h
    have h := of_decide_eq_true h
    have hm : x.fmod y = x % y := Int.fmod_eq_emod_of_nonneg _ hy
    have h1 := Int.emod_nonneg x (Int.ne_of_gt h)
    have h2 := Int.emod_lt_of_pos x h
    exact ⟨Int.ne_of_gt h, hK _ _ (by rw [hm]; omega) ⟨y, _, rfl, hy, by rw [hm]; exact h1, rfl, by rw [gcd_step hx h, hg]⟩⟩
  · rename_i h
    have : y = 0 := by
      have : ¬ 0 < y := fun z => h (decide_eq_true z)
      omega
    subst this
    rw [← hg, Int.gcd_zero_right] at hq
    have : (x.natAbs : Int) = x := by omega
    rw [this] at hq
    exact hq
theorem s_divisor {Φ : PhiT}  (ds : List D) (Q : D → Prop) (E : Nat → Prop) (h : C_divisor ds Q E) : ds.length = 2 ∧ wpS Φ exName b_divisor (initE n_divisor ds) (endF Q E) := by
  obtain ⟨a, b, rfl, hq⟩ := h
  refine ⟨rfl, ?_⟩
  simp only [wpS, wp, getV, getB, initE, endF, bindG, List.map_cons, List.map_nil, List.length_cons, List.length_nil, List.cons_append, List.nil_append, List.append_nil, List.getElem?_cons_zero, List.getElem?_cons_succ, List.set_cons_zero, List.set_cons_succ, partD, k_L, k_T, l_lenT, l_lenL, l_int, l_intB, l_abs, l_max2, l_max3, l_max4, l_min2, l_maxL, l_minL, l_sum, l_all, l_any, l_tupL, l_tupT, l_lisL, l_lisT, r_1, r_2, r_l, i_L, i_T, i_A, if_true, if_false, ite_true, ite_false, not_false_eq_true, not_true_eq_false, Bool.false_eq_true, ite_not, b_add, b_addT, b_addL, b_sub, b_subB, b_mul, b_mulT, b_mulL, b_fdiv, b_mod, b_pow, a_add, a_sub, a_mul, a_fdiv, c_lt, c_le, c_gt, c_ge, c_eqI, c_neI, c_eqB, c_neB, seqP, pysD, Option.map_some, List.replicate_zero, List.replicate_succ, Nat.zero_add, Nat.add_zero, Nat.reduceAdd, Nat.reduceSub, Nat.reduceLeDiff, decide_eq_true_eq, Bool.not_eq_true', decide_eq_false_iff_not, Nat.sub_self, Option.some.injEq, exists_eq_left', exists_eq_left, x_pick, f_pr, f_qd, f_prT, f_qdT, x_pr0, x_pr1, x_qd0, x_qd1, x_qd2, x_qd3, g_pr, g_qd, nl_pr, nl_qd, nl_I, nl_B, nl_N, l_pr, l_qd, l_prs, l_ti, l_li, c_eq_pr, c_ne_pr, c_eq_qd, c_ne_qd, i_pr, i_qd, i_prs, i_ti, i_li, true_and, and_true, sl0, sl1, sl2, sl3, sl4, sl5, sl6, sl7, sl8, sl9, sl10, sl11, sl12, sl13, sl14, mketa, wipe1, shE_cons, shE_nil, shS_sh, shS_ow, shS_none, eq_self, and_self, decide_true, decide_false, reduceCtorEq, false_and, and_false, true_implies, false_implies, implies_true, not_true_eq_false, Bool.not_true, Bool.not_false, Bool.true_and, Bool.false_and, Bool.and_true, Bool.and_false, Bool.or_true, Bool.true_or, Bool.or_false, Bool.false_or, Int.reduceLT, Int.reduceLE, Nat.reduceLT, b_divisor, n_divisor]
  simp only [ab]
  exact while_gcd (Q := Q) (a := a.natAbs) (b := b.natAbs) (by omega) (by omega) hq fun x y K => rfl
theorem s_law_divisor {Φ : PhiT}  (ds : List D) (Q : D → Prop) (E : Nat → Prop) (h : C_law_divisor ds Q E) : ds.length = 2 ∧ wpS Φ exName b_law_divisor (initE n_law_divisor ds) (endF Q E) := by
  obtain ⟨a, b, rfl, ha, hb, hq⟩ := h
  refine ⟨rfl, ?_⟩
  simp only [wpS, wp, getV, getB, initE, endF, bindG, List.map_cons, List.map_nil, List.length_cons, List.length_nil, List.cons_append, List.nil_append, List.append_nil, List.getElem?_cons_zero, List.getElem?_cons_succ, List.set_cons_zero, List.set_cons_succ, partD, k_L, k_T, l_lenT, l_lenL, l_int, l_intB, l_abs, l_max2, l_max3, l_max4, l_min2, l_maxL, l_minL, l_sum, l_all, l_any, l_tupL, l_tupT, l_lisL, l_lisT, r_1, r_2, r_l, i_L, i_T, i_A, if_true, if_false, ite_true, ite_false, not_false_eq_true, not_true_eq_false, Bool.false_eq_true, ite_not, b_add, b_addT, b_addL, b_sub, b_subB, b_mul, b_mulT, b_mulL, b_fdiv, b_mod, b_pow, a_add, a_sub, a_mul, a_fdiv, c_lt, c_le, c_gt, c_ge, c_eqI, c_neI, c_eqB, c_neB, seqP, pysD, Option.map_some, List.replicate_zero, List.replicate_succ, Nat.zero_add, Nat.add_zero, Nat.reduceAdd, Nat.reduceSub, Nat.reduceLeDiff, decide_eq_true_eq, Bool.not_eq_true', decide_eq_false_iff_not, Nat.sub_self, Option.some.injEq, exists_eq_left', exists_eq_left, x_pick, f_pr, f_qd, f_prT, f_qdT, x_pr0, x_pr1, x_qd0, x_qd1, x_qd2, x_qd3, g_pr, g_qd, nl_pr, nl_qd, nl_I, nl_B, nl_N, l_pr, l_qd, l_prs, l_ti, l_li, c_eq_pr, c_ne_pr, c_eq_qd, c_ne_qd, i_pr, i_qd, i_prs, i_ti, i_li, true_and, and_true, sl0, sl1, sl2, sl3, sl4, sl5, sl6, sl7, sl8, sl9, sl10, sl11, sl12, sl13, sl14, mketa, wipe1, shE_cons, shE_nil, shS_sh, shS_ow, shS_none, eq_self, and_self, decide_true, decide_false, reduceCtorEq, false_and, and_false, true_implies, false_implies, implies_true, not_true_eq_false, Bool.not_true, Bool.not_false, Bool.true_and, Bool.false_and, Bool.and_true, Bool.and_false, Bool.or_true, Bool.true_or, Bool.or_false, Bool.false_or, Int.reduceLT, Int.reduceLE, Nat.reduceLT, b_law_divisor, n_law_divisor]
  exact while_gcd (Q := Q) ha hb hq fun x y K => rfl
theorem gcd_le {a b : Int} (hb : b ≠ 0) : Int.gcd a b ≤ b.natAbs := Nat.gcd_le_right _ (by omega)
theorem gcd_pos {a b : Int} (hb : b ≠ 0) : 0 < Int.gcd a b := Nat.gcd_pos_of_pos_right _ (by omega)
theorem s_fraction {Φ : PhiT} (h_divisor : Φ 11 = C_divisor) (ds : List D) (Q : D → Prop) (E : Nat → Prop) (h : C_fraction ds Q E) : ds.length = 2 ∧ wpS Φ exName b_fraction (initE n_fraction ds) (endF Q E) := by
  obtain ⟨a, b, rfl, hb, he, hq⟩ := h
  refine ⟨rfl, ?_⟩
  simp only [wpS, wp, getV, getB, initE, endF, bindG, List.map_cons, List.map_nil, List.length_cons, List.length_nil, List.cons_append, List.nil_append, List.append_nil, List.getElem?_cons_zero, List.getElem?_cons_succ, List.set_cons_zero, List.set_cons_succ, partD, k_L, k_T, l_lenT, l_lenL, l_int, l_intB, l_abs, l_max2, l_max3, l_max4, l_min2, l_maxL, l_minL, l_sum, l_all, l_any, l_tupL, l_tupT, l_lisL, l_lisT, r_1, r_2, r_l, i_L, i_T, i_A, if_true, if_false, ite_true, ite_false, not_false_eq_true, not_true_eq_false, Bool.false_eq_true, ite_not, b_add, b_addT, b_addL, b_sub, b_subB, b_mul, b_mulT, b_mulL, b_fdiv, b_mod, b_pow, a_add, a_sub, a_mul, a_fdiv, c_lt, c_le, c_gt, c_ge, c_eqI, c_neI, c_eqB, c_neB, seqP, pysD, Option.map_some, List.replicate_zero, List.replicate_succ, Nat.zero_add, Nat.add_zero, Nat.reduceAdd, Nat.reduceSub, Nat.reduceLeDiff, decide_eq_true_eq, Bool.not_eq_true', decide_eq_false_iff_not, Nat.sub_self, Option.some.injEq, exists_eq_left', exists_eq_left, x_pick, f_pr, f_qd, f_prT, f_qdT, x_pr0, x_pr1, x_qd0, x_qd1, x_qd2, x_qd3, g_pr, g_qd, nl_pr, nl_qd, nl_I, nl_B, nl_N, l_pr, l_qd, l_prs, l_ti, l_li, c_eq_pr, c_ne_pr, c_eq_qd, c_ne_qd, i_pr, i_qd, i_prs, i_ti, i_li, true_and, and_true, sl0, sl1, sl2, sl3, sl4, sl5, sl6, sl7, sl8, sl9, sl10, sl11, sl12, sl13, sl14, mketa, wipe1, shE_cons, shE_nil, shS_sh, shS_ow, shS_none, eq_self, and_self, decide_true, decide_false, reduceCtorEq, false_and, and_false, true_implies, false_implies, implies_true, not_true_eq_false, Bool.not_true, Bool.not_false, Bool.true_and, Bool.false_and, Bool.and_true, Bool.and_false, Bool.or_true, Bool.true_or, Bool.or_false, Bool.false_or, Int.reduceLT, Int.reduceLE, Nat.reduceLT, h_divisor, p_divisor, b_fraction, n_fraction]
  split
  · rename_i h
    exact he h
  · rename_i h
    have hq := hq h
    have h1 := gcd_le (a := a) h
    have h2 := gcd_pos (a := a) h
    unfold frac sgn at hq
    split
    · rename_i h3
      rw [if_pos h3] at hq
      have hl : (-(Int.gcd a b : Int)).natAbs.log2 < 9000 := lg (by omega)
      exact ⟨⟨by omega, hl⟩, ⟨by omega, hl⟩, hq⟩
    · rename_i h3
      rw [if_neg h3] at hq
      have hl : (Int.gcd a b : Int).natAbs.log2 < 9000 := lg (by omega)
      exact ⟨⟨by omega, hl⟩, ⟨by omega, hl⟩, hq⟩
theorem s_added {Φ : PhiT} (h_fraction : Φ 12 = C_fraction) (ds : List D) (Q : D → Prop) (E : Nat → Prop) (h : C_added ds Q E) : ds.length = 2 ∧ wpS Φ exName b_added (initE n_added ds) (endF Q E) := by
  obtain ⟨a, b, rfl, ha, hb, hq⟩ := h
  refine ⟨rfl, ?_⟩
  simp only [wpS, wp, getV, getB, initE, endF, bindG, List.map_cons, List.map_nil, List.length_cons, List.length_nil, List.cons_append, List.nil_append, List.append_nil, List.getElem?_cons_zero, List.getElem?_cons_succ, List.set_cons_zero, List.set_cons_succ, partD, k_L, k_T, l_lenT, l_lenL, l_int, l_intB, l_abs, l_max2, l_max3, l_max4, l_min2, l_maxL, l_minL, l_sum, l_all, l_any, l_tupL, l_tupT, l_lisL, l_lisT, r_1, r_2, r_l, i_L, i_T, i_A, if_true, if_false, ite_true, ite_false, not_false_eq_true, not_true_eq_false, Bool.false_eq_true, ite_not, b_add, b_addT, b_addL, b_sub, b_subB, b_mul, b_mulT, b_mulL, b_fdiv, b_mod, b_pow, a_add, a_sub, a_mul, a_fdiv, c_lt, c_le, c_gt, c_ge, c_eqI, c_neI, c_eqB, c_neB, seqP, pysD, Option.map_some, List.replicate_zero, List.replicate_succ, Nat.zero_add, Nat.add_zero, Nat.reduceAdd, Nat.reduceSub, Nat.reduceLeDiff, decide_eq_true_eq, Bool.not_eq_true', decide_eq_false_iff_not, Nat.sub_self, Option.some.injEq, exists_eq_left', exists_eq_left, x_pick, f_pr, f_qd, f_prT, f_qdT, x_pr0, x_pr1, x_qd0, x_qd1, x_qd2, x_qd3, g_pr, g_qd, nl_pr, nl_qd, nl_I, nl_B, nl_N, l_pr, l_qd, l_prs, l_ti, l_li, c_eq_pr, c_ne_pr, c_eq_qd, c_ne_qd, i_pr, i_qd, i_prs, i_ti, i_li, true_and, and_true, sl0, sl1, sl2, sl3, sl4, sl5, sl6, sl7, sl8, sl9, sl10, sl11, sl12, sl13, sl14, mketa, wipe1, shE_cons, shE_nil, shS_sh, shS_ow, shS_none, eq_self, and_self, decide_true, decide_false, reduceCtorEq, false_and, and_false, true_implies, false_implies, implies_true, not_true_eq_false, Bool.not_true, Bool.not_false, Bool.true_and, Bool.false_and, Bool.and_true, Bool.and_false, Bool.or_true, Bool.true_or, Bool.or_false, Bool.false_or, Int.reduceLT, Int.reduceLE, Nat.reduceLT, h_fraction, p_fraction, b_added, n_added]
  obtain ⟨ha1, ha2⟩ := ha
  obtain ⟨hb1, hb2⟩ := hb
  exact ⟨cmz ha1 hb2 (by decide) (by decide), cmz hb1 ha2 (by decide) (by decide), cmz ha2 hb2 (by decide) (by decide), (ha2.mul hb2).big (by decide), hq⟩
theorem s_times2 {Φ : PhiT} (h_fraction : Φ 12 = C_fraction) (ds : List D) (Q : D → Prop) (E : Nat → Prop) (h : C_times2 ds Q E) : ds.length = 2 ∧ wpS Φ exName b_times2 (initE n_times2 ds) (endF Q E) := by
  obtain ⟨a, b, rfl, ha, hb, hq⟩ := h
  refine ⟨rfl, ?_⟩
  simp only [wpS, wp, getV, getB, initE, endF, bindG, List.map_cons, List.map_nil, List.length_cons, List.length_nil, List.cons_append, List.nil_append, List.append_nil, List.getElem?_cons_zero, List.getElem?_cons_succ, List.set_cons_zero, List.set_cons_succ, partD, k_L, k_T, l_lenT, l_lenL, l_int, l_intB, l_abs, l_max2, l_max3, l_max4, l_min2, l_maxL, l_minL, l_sum, l_all, l_any, l_tupL, l_tupT, l_lisL, l_lisT, r_1, r_2, r_l, i_L, i_T, i_A, if_true, if_false, ite_true, ite_false, not_false_eq_true, not_true_eq_false, Bool.false_eq_true, ite_not, b_add, b_addT, b_addL, b_sub, b_subB, b_mul, b_mulT, b_mulL, b_fdiv, b_mod, b_pow, a_add, a_sub, a_mul, a_fdiv, c_lt, c_le, c_gt, c_ge, c_eqI, c_neI, c_eqB, c_neB, seqP, pysD, Option.map_some, List.replicate_zero, List.replicate_succ, Nat.zero_add, Nat.add_zero, Nat.reduceAdd, Nat.reduceSub, Nat.reduceLeDiff, decide_eq_true_eq, Bool.not_eq_true', decide_eq_false_iff_not, Nat.sub_self, Option.some.injEq, exists_eq_left', exists_eq_left, x_pick, f_pr, f_qd, f_prT, f_qdT, x_pr0, x_pr1, x_qd0, x_qd1, x_qd2, x_qd3, g_pr, g_qd, nl_pr, nl_qd, nl_I, nl_B, nl_N, l_pr, l_qd, l_prs, l_ti, l_li, c_eq_pr, c_ne_pr, c_eq_qd, c_ne_qd, i_pr, i_qd, i_prs, i_ti, i_li, true_and, and_true, sl0, sl1, sl2, sl3, sl4, sl5, sl6, sl7, sl8, sl9, sl10, sl11, sl12, sl13, sl14, mketa, wipe1, shE_cons, shE_nil, shS_sh, shS_ow, shS_none, eq_self, and_self, decide_true, decide_false, reduceCtorEq, false_and, and_false, true_implies, false_implies, implies_true, not_true_eq_false, Bool.not_true, Bool.not_false, Bool.true_and, Bool.false_and, Bool.and_true, Bool.and_false, Bool.or_true, Bool.true_or, Bool.or_false, Bool.false_or, Int.reduceLT, Int.reduceLE, Nat.reduceLT, h_fraction, p_fraction, b_times2, n_times2]
  obtain ⟨ha1, ha2⟩ := ha
  obtain ⟨hb1, hb2⟩ := hb
  exact ⟨cmz ha1 hb1 (by decide) (by decide), cmz ha2 hb2 (by decide) (by decide), (ha2.mul hb2).big (by decide), hq⟩
theorem s_is_fraction {Φ : PhiT} (h_divisor : Φ 11 = C_divisor) (ds : List D) (Q : D → Prop) (E : Nat → Prop) (h : C_is_fraction ds Q E) : ds.length = 1 ∧ wpS Φ exName b_is_fraction (initE n_is_fraction ds) (endF Q E) := by
  obtain ⟨a, rfl, hq⟩ := h
  refine ⟨rfl, ?_⟩
  simp only [wpS, wp, getV, getB, initE, endF, bindG, List.map_cons, List.map_nil, List.length_cons, List.length_nil, List.cons_append, List.nil_append, List.append_nil, List.getElem?_cons_zero, List.getElem?_cons_succ, List.set_cons_zero, List.set_cons_succ, partD, k_L, k_T, l_lenT, l_lenL, l_int, l_intB, l_abs, l_max2, l_max3, l_max4, l_min2, l_maxL, l_minL, l_sum, l_all, l_any, l_tupL, l_tupT, l_lisL, l_lisT, r_1, r_2, r_l, i_L, i_T, i_A, if_true, if_false, ite_true, ite_false, not_false_eq_true, not_true_eq_false, Bool.false_eq_true, ite_not, b_add, b_addT, b_addL, b_sub, b_subB, b_mul, b_mulT, b_mulL, b_fdiv, b_mod, b_pow, a_add, a_sub, a_mul, a_fdiv, c_lt, c_le, c_gt, c_ge, c_eqI, c_neI, c_eqB, c_neB, seqP, pysD, Option.map_some, List.replicate_zero, List.replicate_succ, Nat.zero_add, Nat.add_zero, Nat.reduceAdd, Nat.reduceSub, Nat.reduceLeDiff, decide_eq_true_eq, Bool.not_eq_true', decide_eq_false_iff_not, Nat.sub_self, Option.some.injEq, exists_eq_left', exists_eq_left, x_pick, f_pr, f_qd, f_prT, f_qdT, x_pr0, x_pr1, x_qd0, x_qd1, x_qd2, x_qd3, g_pr, g_qd, nl_pr, nl_qd, nl_I, nl_B, nl_N, l_pr, l_qd, l_prs, l_ti, l_li, c_eq_pr, c_ne_pr, c_eq_qd, c_ne_qd, i_pr, i_qd, i_prs, i_ti, i_li, true_and, and_true, sl0, sl1, sl2, sl3, sl4, sl5, sl6, sl7, sl8, sl9, sl10, sl11, sl12, sl13, sl14, mketa, wipe1, shE_cons, shE_nil, shS_sh, shS_ow, shS_none, eq_self, and_self, decide_true, decide_false, reduceCtorEq, false_and, and_false, true_implies, false_implies, implies_true, not_true_eq_false, Bool.not_true, Bool.not_false, Bool.true_and, Bool.false_and, Bool.and_true, Bool.and_false, Bool.or_true, Bool.true_or, Bool.or_false, Bool.false_or, Int.reduceLT, Int.reduceLE, Nat.reduceLT, h_divisor, p_divisor, b_is_fraction, n_is_fraction]
  unfold okF at hq
  split
  · rename_i h
    rw [decide_eq_true h, Bool.true_and] at hq
    have e : decide ((Int.gcd a.1 a.2 : Int) = 1) = decide (Int.gcd a.1 a.2 = 1) := by
      have : ((Int.gcd a.1 a.2 : Int) = 1) ↔ (Int.gcd a.1 a.2 = 1) := by omega
      exact decide_eq_decide.mpr this
    rw [e]
    exact hq
  · rename_i h
    rw [decide_eq_false h, Bool.false_and] at hq
    exact hq
theorem s_law_reduced {Φ : PhiT} (h_law_divisor : Φ 2 = C_law_divisor) (ds : List D) (Q : D → Prop) (E : Nat → Prop) (h : C_law_reduced ds Q E) : ds.length = 2 ∧ wpS Φ exName b_law_reduced (initE n_law_reduced ds) (endF Q E) := by
  obtain ⟨a, b, rfl, hb, hl, hq⟩ := h
  refine ⟨rfl, ?_⟩
  simp only [wpS, wp, getV, getB, initE, endF, bindG, List.map_cons, List.map_nil, List.length_cons, List.length_nil, List.cons_append, List.nil_append, List.append_nil, List.getElem?_cons_zero, List.getElem?_cons_succ, List.set_cons_zero, List.set_cons_succ, partD, k_L, k_T, l_lenT, l_lenL, l_int, l_intB, l_abs, l_max2, l_max3, l_max4, l_min2, l_maxL, l_minL, l_sum, l_all, l_any, l_tupL, l_tupT, l_lisL, l_lisT, r_1, r_2, r_l, i_L, i_T, i_A, if_true, if_false, ite_true, ite_false, not_false_eq_true, not_true_eq_false, Bool.false_eq_true, ite_not, b_add, b_addT, b_addL, b_sub, b_subB, b_mul, b_mulT, b_mulL, b_fdiv, b_mod, b_pow, a_add, a_sub, a_mul, a_fdiv, c_lt, c_le, c_gt, c_ge, c_eqI, c_neI, c_eqB, c_neB, seqP, pysD, Option.map_some, List.replicate_zero, List.replicate_succ, Nat.zero_add, Nat.add_zero, Nat.reduceAdd, Nat.reduceSub, Nat.reduceLeDiff, decide_eq_true_eq, Bool.not_eq_true', decide_eq_false_iff_not, Nat.sub_self, Option.some.injEq, exists_eq_left', exists_eq_left, x_pick, f_pr, f_qd, f_prT, f_qdT, x_pr0, x_pr1, x_qd0, x_qd1, x_qd2, x_qd3, g_pr, g_qd, nl_pr, nl_qd, nl_I, nl_B, nl_N, l_pr, l_qd, l_prs, l_ti, l_li, c_eq_pr, c_ne_pr, c_eq_qd, c_ne_qd, i_pr, i_qd, i_prs, i_ti, i_li, true_and, and_true, sl0, sl1, sl2, sl3, sl4, sl5, sl6, sl7, sl8, sl9, sl10, sl11, sl12, sl13, sl14, mketa, wipe1, shE_cons, shE_nil, shS_sh, shS_ow, shS_none, eq_self, and_self, decide_true, decide_false, reduceCtorEq, false_and, and_false, true_implies, false_implies, implies_true, not_true_eq_false, Bool.not_true, Bool.not_false, Bool.true_and, Bool.false_and, Bool.and_true, Bool.and_false, Bool.or_true, Bool.true_or, Bool.or_false, Bool.false_or, Int.reduceLT, Int.reduceLE, Nat.reduceLT, h_law_divisor, p_law_divisor, b_law_reduced, n_law_reduced]
  have h1 : Int.gcd (max a (0 - a)) b = Int.gcd a b := by
    have : (max a (0 - a)).natAbs = a.natAbs := by omega
    unfold Int.gcd
    rw [this]
  rw [h1]
  have h1 := gcd_le (a := a) (Int.ne_of_gt hb)
  have h2 := gcd_pos (a := a) (Int.ne_of_gt hb)
  have hz : (Int.gcd a b : Int).natAbs.log2 < 9000 := lg (by omega)
  exact ⟨by omega, by omega, ⟨by omega, hz⟩, ⟨by omega, hz⟩, hq⟩
theorem s_law_more {Φ : PhiT}  (ds : List D) (Q : D → Prop) (E : Nat → Prop) (h : C_law_more ds Q E) : ds.length = 2 ∧ wpS Φ exName b_law_more (initE n_law_more ds) (endF Q E) := by
  obtain ⟨a, b, rfl, ha, hb, hq⟩ := h
  refine ⟨rfl, ?_⟩
  simp only [wpS, wp, getV, getB, initE, endF, bindG, List.map_cons, List.map_nil, List.length_cons, List.length_nil, List.cons_append, List.nil_append, List.append_nil, List.getElem?_cons_zero, List.getElem?_cons_succ, List.set_cons_zero, List.set_cons_succ, partD, k_L, k_T, l_lenT, l_lenL, l_int, l_intB, l_abs, l_max2, l_max3, l_max4, l_min2, l_maxL, l_minL, l_sum, l_all, l_any, l_tupL, l_tupT, l_lisL, l_lisT, r_1, r_2, r_l, i_L, i_T, i_A, if_true, if_false, ite_true, ite_false, not_false_eq_true, not_true_eq_false, Bool.false_eq_true, ite_not, b_add, b_addT, b_addL, b_sub, b_subB, b_mul, b_mulT, b_mulL, b_fdiv, b_mod, b_pow, a_add, a_sub, a_mul, a_fdiv, c_lt, c_le, c_gt, c_ge, c_eqI, c_neI, c_eqB, c_neB, seqP, pysD, Option.map_some, List.replicate_zero, List.replicate_succ, Nat.zero_add, Nat.add_zero, Nat.reduceAdd, Nat.reduceSub, Nat.reduceLeDiff, decide_eq_true_eq, Bool.not_eq_true', decide_eq_false_iff_not, Nat.sub_self, Option.some.injEq, exists_eq_left', exists_eq_left, x_pick, f_pr, f_qd, f_prT, f_qdT, x_pr0, x_pr1, x_qd0, x_qd1, x_qd2, x_qd3, g_pr, g_qd, nl_pr, nl_qd, nl_I, nl_B, nl_N, l_pr, l_qd, l_prs, l_ti, l_li, c_eq_pr, c_ne_pr, c_eq_qd, c_ne_qd, i_pr, i_qd, i_prs, i_ti, i_li, true_and, and_true, sl0, sl1, sl2, sl3, sl4, sl5, sl6, sl7, sl8, sl9, sl10, sl11, sl12, sl13, sl14, mketa, wipe1, shE_cons, shE_nil, shS_sh, shS_ow, shS_none, eq_self, and_self, decide_true, decide_false, reduceCtorEq, false_and, and_false, true_implies, false_implies, implies_true, not_true_eq_false, Bool.not_true, Bool.not_false, Bool.true_and, Bool.false_and, Bool.and_true, Bool.and_false, Bool.or_true, Bool.true_or, Bool.or_false, Bool.false_or, Int.reduceLT, Int.reduceLE, Nat.reduceLT, b_law_more, n_law_more]
  obtain ⟨ha1, ha2⟩ := ha
  obtain ⟨hb1, hb2⟩ := hb
  exact ⟨cmz ha1 hb2 (by decide) (by decide), cmz hb1 ha2 (by decide) (by decide), hq⟩
theorem s_less {Φ : PhiT}  (ds : List D) (Q : D → Prop) (E : Nat → Prop) (h : C_less ds Q E) : ds.length = 2 ∧ wpS Φ exName b_less (initE n_less ds) (endF Q E) := by
  obtain ⟨a, b, rfl, ha, hb, hq⟩ := h
  refine ⟨rfl, ?_⟩
  simp only [wpS, wp, getV, getB, initE, endF, bindG, List.map_cons, List.map_nil, List.length_cons, List.length_nil, List.cons_append, List.nil_append, List.append_nil, List.getElem?_cons_zero, List.getElem?_cons_succ, List.set_cons_zero, List.set_cons_succ, partD, k_L, k_T, l_lenT, l_lenL, l_int, l_intB, l_abs, l_max2, l_max3, l_max4, l_min2, l_maxL, l_minL, l_sum, l_all, l_any, l_tupL, l_tupT, l_lisL, l_lisT, r_1, r_2, r_l, i_L, i_T, i_A, if_true, if_false, ite_true, ite_false, not_false_eq_true, not_true_eq_false, Bool.false_eq_true, ite_not, b_add, b_addT, b_addL, b_sub, b_subB, b_mul, b_mulT, b_mulL, b_fdiv, b_mod, b_pow, a_add, a_sub, a_mul, a_fdiv, c_lt, c_le, c_gt, c_ge, c_eqI, c_neI, c_eqB, c_neB, seqP, pysD, Option.map_some, List.replicate_zero, List.replicate_succ, Nat.zero_add, Nat.add_zero, Nat.reduceAdd, Nat.reduceSub, Nat.reduceLeDiff, decide_eq_true_eq, Bool.not_eq_true', decide_eq_false_iff_not, Nat.sub_self, Option.some.injEq, exists_eq_left', exists_eq_left, x_pick, f_pr, f_qd, f_prT, f_qdT, x_pr0, x_pr1, x_qd0, x_qd1, x_qd2, x_qd3, g_pr, g_qd, nl_pr, nl_qd, nl_I, nl_B, nl_N, l_pr, l_qd, l_prs, l_ti, l_li, c_eq_pr, c_ne_pr, c_eq_qd, c_ne_qd, i_pr, i_qd, i_prs, i_ti, i_li, true_and, and_true, sl0, sl1, sl2, sl3, sl4, sl5, sl6, sl7, sl8, sl9, sl10, sl11, sl12, sl13, sl14, mketa, wipe1, shE_cons, shE_nil, shS_sh, shS_ow, shS_none, eq_self, and_self, decide_true, decide_false, reduceCtorEq, false_and, and_false, true_implies, false_implies, implies_true, not_true_eq_false, Bool.not_true, Bool.not_false, Bool.true_and, Bool.false_and, Bool.and_true, Bool.and_false, Bool.or_true, Bool.true_or, Bool.or_false, Bool.false_or, Int.reduceLT, Int.reduceLE, Nat.reduceLT, b_less, n_less]
  obtain ⟨ha1, ha2⟩ := ha
  obtain ⟨hb1, hb2⟩ := hb
  exact ⟨cmz ha1 hb2 (by decide) (by decide), cmz hb1 ha2 (by decide) (by decide), hq⟩
theorem s_size {Φ : PhiT}  (ds : List D) (Q : D → Prop) (E : Nat → Prop) (h : C_size ds Q E) : ds.length = 1 ∧ wpS Φ exName b_size (initE n_size ds) (endF Q E) := by
  obtain ⟨a, rfl, hq⟩ := h
  refine ⟨rfl, ?_⟩
  simp only [wpS, wp, getV, getB, initE, endF, bindG, List.map_cons, List.map_nil, List.length_cons, List.length_nil, List.cons_append, List.nil_append, List.append_nil, List.getElem?_cons_zero, List.getElem?_cons_succ, List.set_cons_zero, List.set_cons_succ, partD, k_L, k_T, l_lenT, l_lenL, l_int, l_intB, l_abs, l_max2, l_max3, l_max4, l_min2, l_maxL, l_minL, l_sum, l_all, l_any, l_tupL, l_tupT, l_lisL, l_lisT, r_1, r_2, r_l, i_L, i_T, i_A, if_true, if_false, ite_true, ite_false, not_false_eq_true, not_true_eq_false, Bool.false_eq_true, ite_not, b_add, b_addT, b_addL, b_sub, b_subB, b_mul, b_mulT, b_mulL, b_fdiv, b_mod, b_pow, a_add, a_sub, a_mul, a_fdiv, c_lt, c_le, c_gt, c_ge, c_eqI, c_neI, c_eqB, c_neB, seqP, pysD, Option.map_some, List.replicate_zero, List.replicate_succ, Nat.zero_add, Nat.add_zero, Nat.reduceAdd, Nat.reduceSub, Nat.reduceLeDiff, decide_eq_true_eq, Bool.not_eq_true', decide_eq_false_iff_not, Nat.sub_self, Option.some.injEq, exists_eq_left', exists_eq_left, x_pick, f_pr, f_qd, f_prT, f_qdT, x_pr0, x_pr1, x_qd0, x_qd1, x_qd2, x_qd3, g_pr, g_qd, nl_pr, nl_qd, nl_I, nl_B, nl_N, l_pr, l_qd, l_prs, l_ti, l_li, c_eq_pr, c_ne_pr, c_eq_qd, c_ne_qd, i_pr, i_qd, i_prs, i_ti, i_li, true_and, and_true, sl0, sl1, sl2, sl3, sl4, sl5, sl6, sl7, sl8, sl9, sl10, sl11, sl12, sl13, sl14, mketa, wipe1, shE_cons, shE_nil, shS_sh, shS_ow, shS_none, eq_self, and_self, decide_true, decide_false, reduceCtorEq, false_and, and_false, true_implies, false_implies, implies_true, not_true_eq_false, Bool.not_true, Bool.not_false, Bool.true_and, Bool.false_and, Bool.and_true, Bool.and_false, Bool.or_true, Bool.true_or, Bool.or_false, Bool.false_or, Int.reduceLT, Int.reduceLE, Nat.reduceLT, b_size, n_size]
  simp only [ab]
  exact hq
theorem s_law_size {Φ : PhiT}  (ds : List D) (Q : D → Prop) (E : Nat → Prop) (h : C_law_size ds Q E) : ds.length = 1 ∧ wpS Φ exName b_law_size (initE n_law_size ds) (endF Q E) := by
  obtain ⟨a, rfl, hq⟩ := h
  refine ⟨rfl, ?_⟩
  simp only [wpS, wp, getV, getB, initE, endF, bindG, List.map_cons, List.map_nil, List.length_cons, List.length_nil, List.cons_append, List.nil_append, List.append_nil, List.getElem?_cons_zero, List.getElem?_cons_succ, List.set_cons_zero, List.set_cons_succ, partD, k_L, k_T, l_lenT, l_lenL, l_int, l_intB, l_abs, l_max2, l_max3, l_max4, l_min2, l_maxL, l_minL, l_sum, l_all, l_any, l_tupL, l_tupT, l_lisL, l_lisT, r_1, r_2, r_l, i_L, i_T, i_A, if_true, if_false, ite_true, ite_false, not_false_eq_true, not_true_eq_false, Bool.false_eq_true, ite_not, b_add, b_addT, b_addL, b_sub, b_subB, b_mul, b_mulT, b_mulL, b_fdiv, b_mod, b_pow, a_add, a_sub, a_mul, a_fdiv, c_lt, c_le, c_gt, c_ge, c_eqI, c_neI, c_eqB, c_neB, seqP, pysD, Option.map_some, List.replicate_zero, List.replicate_succ, Nat.zero_add, Nat.add_zero, Nat.reduceAdd, Nat.reduceSub, Nat.reduceLeDiff, decide_eq_true_eq, Bool.not_eq_true', decide_eq_false_iff_not, Nat.sub_self, Option.some.injEq, exists_eq_left', exists_eq_left, x_pick, f_pr, f_qd, f_prT, f_qdT, x_pr0, x_pr1, x_qd0, x_qd1, x_qd2, x_qd3, g_pr, g_qd, nl_pr, nl_qd, nl_I, nl_B, nl_N, l_pr, l_qd, l_prs, l_ti, l_li, c_eq_pr, c_ne_pr, c_eq_qd, c_ne_qd, i_pr, i_qd, i_prs, i_ti, i_li, true_and, and_true, sl0, sl1, sl2, sl3, sl4, sl5, sl6, sl7, sl8, sl9, sl10, sl11, sl12, sl13, sl14, mketa, wipe1, shE_cons, shE_nil, shS_sh, shS_ow, shS_none, eq_self, and_self, decide_true, decide_false, reduceCtorEq, false_and, and_false, true_implies, false_implies, implies_true, not_true_eq_false, Bool.not_true, Bool.not_false, Bool.true_and, Bool.false_and, Bool.and_true, Bool.and_false, Bool.or_true, Bool.true_or, Bool.or_false, Bool.false_or, Int.reduceLT, Int.reduceLE, Nat.reduceLT, b_law_size, n_law_size]
  have : max a.1 (0 - a.1) = (a.1.natAbs : Int) := by omega
  rw [this]
  exact hq
theorem frac_fst_le {a b : Int} : (frac a b).1.natAbs ≤ a.natAbs := by
  unfold frac
  exact Int.natAbs_fdiv_le_natAbs _ _
theorem frac_snd_le {a b : Int} : (frac a b).2.natAbs ≤ b.natAbs := by
  unfold frac
  exact Int.natAbs_fdiv_le_natAbs _ _
theorem frac_ne {a b : Int} (hb : b ≠ 0) : (frac a b).2 ≠ 0 := by
  have h2 := gcd_pos (a := a) hb
  have hd : (Int.gcd a b : Int) ∣ b := Int.gcd_dvd_right _ _
  have hs : sgn b (Int.gcd a b) ≠ 0 := by unfold sgn; split <;> omega
  have hd : sgn b (Int.gcd a b) ∣ b := by
    unfold sgn
    split
    · exact Int.neg_dvd.mpr hd
    · exact hd
  intro e
  have e : b.fdiv (sgn b (Int.gcd a b)) = 0 := e
  have := Int.mul_fdiv_cancel' hd
  rw [e, Int.mul_zero] at this
  exact hb this.symm
theorem frac_pos {a b : Int} (hb : 0 < b) : frac a b = (a / Int.gcd a b, b / Int.gcd a b) ∧ 0 < (frac a b).2 := by
  have h2 := gcd_pos (a := a) (Int.ne_of_gt hb)
  have e : frac a b = (a / Int.gcd a b, b / Int.gcd a b) := by
    unfold frac sgn
    rw [if_neg (by omega), Int.fdiv_eq_ediv_of_nonneg _ (by omega), Int.fdiv_eq_ediv_of_nonneg _ (by omega)]
  refine ⟨e, ?_⟩
  rw [e]
  exact Int.ediv_pos_of_pos_of_dvd hb (by omega) (Int.gcd_dvd_right _ _)
/-- below a denominator above 0 both ways of reducing are one -/
theorem frac_red {a b : Int} (hb : 0 < b) : frac a b = red a b := by
  unfold frac red sgn
  rw [if_neg (by omega)]
theorem frac_ok {a b : Int} (hb : 0 < b) : okF (frac a b) = true := by
  have h := frac_pos (a := a) hb
  have h2 := gcd_pos (a := a) (Int.ne_of_gt hb)
  unfold okF
  rw [Bool.and_eq_true, decide_eq_true_eq, decide_eq_true_eq]
  exact ⟨h.2, by rw [h.1]; exact Int.gcd_ediv_gcd_ediv_gcd h2⟩
theorem ZF.frac {n m : Nat} {a b : Int} (h : Z n a) (g : Z m b) : ZF (max n m) (frac a b) :=
  ⟨Z.mono (Nat.le_trans frac_fst_le h) (Nat.le_max_left _ _), Z.mono (Nat.le_trans frac_snd_le g) (Nat.le_max_right _ _)⟩
theorem ZF.mono {n m : Nat} {a : Int × Int} (h : ZF n a) (e : n ≤ m) : ZF m a := ⟨h.1.mono e, h.2.mono e⟩
theorem ZF.mk {n m k : Nat} {a b : Int} (h : Z n a) (g : Z m b) (e1 : n ≤ k) (e2 : m ≤ k) : ZF k (a, b) := ⟨h.mono e1, g.mono e2⟩
theorem ZF.abs {n : Nat} {a : Int × Int} (h : ZF n a) : ZF n (absF a) := ⟨h.1.abs, h.2⟩
theorem ZF.add {n m : Nat} {a b : Int × Int} (h : ZF n a) (g : ZF m b) : ZF (n + m + 1) (addF a b) :=
  (ZF.frac ((h.1.mul g.2).add (g.1.mul h.2)) (h.2.mul g.2)).mono (by omega)
theorem ZF.mulF {n m : Nat} {a b : Int × Int} (h : ZF n a) (g : ZF m b) : ZF (n + m) (mulF a b) :=
  (ZF.frac (h.1.mul g.1) (h.2.mul g.2)).mono (by omega)
/-- a reduced pair stands for its ratio: cross products -/
theorem frac_cross {a b : Int} (hb : b ≠ 0) : (frac a b).1 * b = a * (frac a b).2 := by
  have hd1 : (Int.gcd a b : Int) ∣ a := Int.gcd_dvd_left _ _
  have hd2 : (Int.gcd a b : Int) ∣ b := Int.gcd_dvd_right _ _
  have h2 := gcd_pos (a := a) hb
  have hs1 : sgn b (Int.gcd a b) ∣ a := by
    unfold sgn
    split
    · exact Int.neg_dvd.mpr hd1
    · exact hd1
  have hs2 : sgn b (Int.gcd a b) ∣ b := by
    unfold sgn
    split
    · exact Int.neg_dvd.mpr hd2
    · exact hd2
  unfold frac
  show a.fdiv _ * b = a * b.fdiv _
  have e1 := Int.mul_fdiv_cancel' hs1
  have e2 := Int.mul_fdiv_cancel' hs2
  generalize sgn b (Int.gcd a b) = s at *
  generalize a.fdiv s = p at *
  generalize b.fdiv s = q at *
  subst e1 e2
  grind
theorem fmodp {m : Int} (r : Int) (h : 0 < m) : 0 ≤ r.fmod m ∧ r.fmod m < m := by
  rw [Int.fmod_eq_emod_of_nonneg _ (by omega)]
  exact ⟨Int.emod_nonneg _ (by omega), Int.emod_lt_of_pos _ h⟩
theorem fmod9 (r : Int) : 0 ≤ r.fmod 1009 ∧ r.fmod 1009 < 1009 := fmodp r (by decide)
theorem s_law_stream {Φ : PhiT}  (ds : List D) (Q : D → Prop) (E : Nat → Prop) (h : C_law_stream ds Q E) : ds.length = 1 ∧ wpS Φ exName b_law_stream (initE n_law_stream ds) (endF Q E) := by
  obtain ⟨rfl, hq⟩ := h
  refine ⟨rfl, ?_⟩
  simp only [wpS, wp, getV, getB, initE, endF, bindG, List.map_cons, List.map_nil, List.length_cons, List.length_nil, List.cons_append, List.nil_append, List.append_nil, List.getElem?_cons_zero, List.getElem?_cons_succ, List.set_cons_zero, List.set_cons_succ, partD, k_L, k_T, l_lenT, l_lenL, l_int, l_intB, l_abs, l_max2, l_max3, l_max4, l_min2, l_maxL, l_minL, l_sum, l_all, l_any, l_tupL, l_tupT, l_lisL, l_lisT, r_1, r_2, r_l, i_L, i_T, i_A, if_true, if_false, ite_true, ite_false, not_false_eq_true, not_true_eq_false, Bool.false_eq_true, ite_not, b_add, b_addT, b_addL, b_sub, b_subB, b_mul, b_mulT, b_mulL, b_fdiv, b_mod, b_pow, a_add, a_sub, a_mul, a_fdiv, c_lt, c_le, c_gt, c_ge, c_eqI, c_neI, c_eqB, c_neB, seqP, pysD, Option.map_some, List.replicate_zero, List.replicate_succ, Nat.zero_add, Nat.add_zero, Nat.reduceAdd, Nat.reduceSub, Nat.reduceLeDiff, decide_eq_true_eq, Bool.not_eq_true', decide_eq_false_iff_not, Nat.sub_self, Option.some.injEq, exists_eq_left', exists_eq_left, x_pick, f_pr, f_qd, f_prT, f_qdT, x_pr0, x_pr1, x_qd0, x_qd1, x_qd2, x_qd3, g_pr, g_qd, nl_pr, nl_qd, nl_I, nl_B, nl_N, l_pr, l_qd, l_prs, l_ti, l_li, c_eq_pr, c_ne_pr, c_eq_qd, c_ne_qd, i_pr, i_qd, i_prs, i_ti, i_li, true_and, and_true, sl0, sl1, sl2, sl3, sl4, sl5, sl6, sl7, sl8, sl9, sl10, sl11, sl12, sl13, sl14, mketa, wipe1, shE_cons, shE_nil, shS_sh, shS_ow, shS_none, eq_self, and_self, decide_true, decide_false, reduceCtorEq, false_and, and_false, true_implies, false_implies, implies_true, not_true_eq_false, Bool.not_true, Bool.not_false, Bool.true_and, Bool.false_and, Bool.and_true, Bool.and_false, Bool.or_true, Bool.true_or, Bool.or_false, Bool.false_or, Int.reduceLT, Int.reduceLE, Nat.reduceLT, b_law_stream, n_law_stream]
  refine fun ns hn hb => ?_
  simp only [wpS, wp, getV, getB, initE, endF, bindG, List.map_cons, List.map_nil, List.length_cons, List.length_nil, List.cons_append, List.nil_append, List.append_nil, List.getElem?_cons_zero, List.getElem?_cons_succ, List.set_cons_zero, List.set_cons_succ, partD, k_L, k_T, l_lenT, l_lenL, l_int, l_intB, l_abs, l_max2, l_max3, l_max4, l_min2, l_maxL, l_minL, l_sum, l_all, l_any, l_tupL, l_tupT, l_lisL, l_lisT, r_1, r_2, r_l, i_L, i_T, i_A, if_true, if_false, ite_true, ite_false, not_false_eq_true, not_true_eq_false, Bool.false_eq_true, ite_not, b_add, b_addT, b_addL, b_sub, b_subB, b_mul, b_mulT, b_mulL, b_fdiv, b_mod, b_pow, a_add, a_sub, a_mul, a_fdiv, c_lt, c_le, c_gt, c_ge, c_eqI, c_neI, c_eqB, c_neB, seqP, pysD, Option.map_some, List.replicate_zero, List.replicate_succ, Nat.zero_add, Nat.add_zero, Nat.reduceAdd, Nat.reduceSub, Nat.reduceLeDiff, decide_eq_true_eq, Bool.not_eq_true', decide_eq_false_iff_not, Nat.sub_self, Option.some.injEq, exists_eq_left', exists_eq_left, x_pick, f_pr, f_qd, f_prT, f_qdT, x_pr0, x_pr1, x_qd0, x_qd1, x_qd2, x_qd3, g_pr, g_qd, nl_pr, nl_qd, nl_I, nl_B, nl_N, l_pr, l_qd, l_prs, l_ti, l_li, c_eq_pr, c_ne_pr, c_eq_qd, c_ne_qd, i_pr, i_qd, i_prs, i_ti, i_li, true_and, and_true, sl0, sl1, sl2, sl3, sl4, sl5, sl6, sl7, sl8, sl9, sl10, sl11, sl12, sl13, sl14, mketa, wipe1, shE_cons, shE_nil, shS_sh, shS_ow, shS_none, eq_self, and_self, decide_true, decide_false, reduceCtorEq, false_and, and_false, true_implies, false_implies, implies_true, not_true_eq_false, Bool.not_true, Bool.not_false, Bool.true_and, Bool.false_and, Bool.and_true, Bool.and_false, Bool.or_true, Bool.true_or, Bool.or_false, Bool.false_or, Int.reduceLT, Int.reduceLE, Nat.reduceLT, List.map_map]
  refine forW_rule (fun i ρ => ∃ (ms : List Int) (s2 s3 s4 s5 : Option Sl), ρ = [some (.sh .scr), some (.ow (ms.map PyData.int)), s2, s3, s4, s5] ∧ (∀ z ∈ ms, 0 ≤ z ∧ z < 1009) ∧ ms.length ≤ 60 * i) ⟨[], _, _, _, _, rfl, (fun t h => nomatch h), Nat.le_refl _⟩ ?_ ?_
  · rintro i d ρ K hd ⟨ms, s2, s3, s4, s5, rfl, hm, hl⟩ hK
    rw [List.getElem?_map] at hd
    obtain ⟨x, hx, rfl⟩ := Option.map_eq_some_iff.mp hd
    have hi : i < ns.length := by
      rcases Nat.lt_or_ge i ns.length with z | z
      · exact z
      · rw [List.getElem?_eq_none z] at hx; exact nomatch hx
    simp only [wpS, wp, getV, getB, initE, endF, bindG, List.map_cons, List.map_nil, List.length_cons, List.length_nil, List.cons_append, List.nil_append, List.append_nil, List.getElem?_cons_zero, List.getElem?_cons_succ, List.set_cons_zero, List.set_cons_succ, partD, k_L, k_T, l_lenT, l_lenL, l_int, l_intB, l_abs, l_max2, l_max3, l_max4, l_min2, l_maxL, l_minL, l_sum, l_all, l_any, l_tupL, l_tupT, l_lisL, l_lisT, r_1, r_2, r_l, i_L, i_T, i_A, if_true, if_false, ite_true, ite_false, not_false_eq_true, not_true_eq_false, Bool.false_eq_true, ite_not, b_add, b_addT, b_addL, b_sub, b_subB, b_mul, b_mulT, b_mulL, b_fdiv, b_mod, b_pow, a_add, a_sub, a_mul, a_fdiv, c_lt, c_le, c_gt, c_ge, c_eqI, c_neI, c_eqB, c_neB, seqP, pysD, Option.map_some, List.replicate_zero, List.replicate_succ, Nat.zero_add, Nat.add_zero, Nat.reduceAdd, Nat.reduceSub, Nat.reduceLeDiff, decide_eq_true_eq, Bool.not_eq_true', decide_eq_false_iff_not, Nat.sub_self, Option.some.injEq, exists_eq_left', exists_eq_left, x_pick, f_pr, f_qd, f_prT, f_qdT, x_pr0, x_pr1, x_qd0, x_qd1, x_qd2, x_qd3, g_pr, g_qd, nl_pr, nl_qd, nl_I, nl_B, nl_N, l_pr, l_qd, l_prs, l_ti, l_li, c_eq_pr, c_ne_pr, c_eq_qd, c_ne_qd, i_pr, i_qd, i_prs, i_ti, i_li, true_and, and_true, sl0, sl1, sl2, sl3, sl4, sl5, sl6, sl7, sl8, sl9, sl10, sl11, sl12, sl13, sl14, mketa, wipe1, shE_cons, shE_nil, shS_sh, shS_ow, shS_none, eq_self, and_self, decide_true, decide_false, reduceCtorEq, false_and, and_false, true_implies, false_implies, implies_true, not_true_eq_false, Bool.not_true, Bool.not_false, Bool.true_and, Bool.false_and, Bool.and_true, Bool.and_false, Bool.or_true, Bool.true_or, Bool.or_false, Bool.false_or, Int.reduceLT, Int.reduceLE, Nat.reduceLT, Function.comp, ab]
    refine ⟨by decide, ?_⟩
    have hS : (4000 : Nat) < sizeLine := by decide
    split
    · refine ⟨by decide, ?_⟩
      refine forW_rule (fun j ρ => ∃ (ms : List Int) (r : Int) (s2 s4 s5 : Option Sl), ρ = [some (.sh .scr), some (.ow (ms.map PyData.int)), s2, some (.sh (.I r)), s4, s5] ∧ (∀ z ∈ ms, 0 ≤ z ∧ z < 1009) ∧ ms.length ≤ 60 * i + j) ⟨ms, _, _, _, _, rfl, hm, hl⟩ ?_ ?_
      · rintro j d ρ K' hd ⟨ms, r, s2, s4, s5, rfl, hm, hl⟩ hK'
        obtain ⟨rfl, hj⟩ := rangeD_get hd
        simp only [wpS, wp, getV, getB, initE, endF, bindG, List.map_cons, List.map_nil, List.length_cons, List.length_nil, List.cons_append, List.nil_append, List.append_nil, List.getElem?_cons_zero, List.getElem?_cons_succ, List.set_cons_zero, List.set_cons_succ, partD, k_L, k_T, l_lenT, l_lenL, l_int, l_intB, l_abs, l_max2, l_max3, l_max4, l_min2, l_maxL, l_minL, l_sum, l_all, l_any, l_tupL, l_tupT, l_lisL, l_lisT, r_1, r_2, r_l, i_L, i_T, i_A, if_true, if_false, ite_true, ite_false, not_false_eq_true, not_true_eq_false, Bool.false_eq_true, ite_not, b_add, b_addT, b_addL, b_sub, b_subB, b_mul, b_mulT, b_mulL, b_fdiv, b_mod, b_pow, a_add, a_sub, a_mul, a_fdiv, c_lt, c_le, c_gt, c_ge, c_eqI, c_neI, c_eqB, c_neB, seqP, pysD, Option.map_some, List.replicate_zero, List.replicate_succ, Nat.zero_add, Nat.add_zero, Nat.reduceAdd, Nat.reduceSub, Nat.reduceLeDiff, decide_eq_true_eq, Bool.not_eq_true', decide_eq_false_iff_not, Nat.sub_self, Option.some.injEq, exists_eq_left', exists_eq_left, x_pick, f_pr, f_qd, f_prT, f_qdT, x_pr0, x_pr1, x_qd0, x_qd1, x_qd2, x_qd3, g_pr, g_qd, nl_pr, nl_qd, nl_I, nl_B, nl_N, l_pr, l_qd, l_prs, l_ti, l_li, c_eq_pr, c_ne_pr, c_eq_qd, c_ne_qd, i_pr, i_qd, i_prs, i_ti, i_li, true_and, and_true, sl0, sl1, sl2, sl3, sl4, sl5, sl6, sl7, sl8, sl9, sl10, sl11, sl12, sl13, sl14, mketa, wipe1, shE_cons, shE_nil, shS_sh, shS_ow, shS_none, eq_self, and_self, decide_true, decide_false, reduceCtorEq, false_and, and_false, true_implies, false_implies, implies_true, not_true_eq_false, Bool.not_true, Bool.not_false, Bool.true_and, Bool.false_and, Bool.and_true, Bool.and_false, Bool.or_true, Bool.true_or, Bool.or_false, Bool.false_or, Int.reduceLT, Int.reduceLE, Nat.reduceLT, List.length_map]
        have f1 := fmod9 r
        have hm' : ∀ z ∈ ms ++ [r.fmod 1009], 0 ≤ z ∧ z < 1009 := by
          intro t h
          rcases List.mem_append.mp h with h | h
          · exact hm t h
          · rw [List.mem_singleton.mp h]; exact f1
        have e : ms.map PyData.int ++ [PyData.int (r.fmod 1009)] = (ms ++ [r.fmod 1009]).map PyData.int := by rw [List.map_append]; rfl
        rw [e]
        have hl' : (ms ++ [r.fmod 1009]).length = ms.length + 1 := by rw [List.length_append]; rfl
        refine ⟨by decide, by omega, ⟨by decide, lg (by decide +kernel)⟩, ?_⟩
        split
        · exact hK _ ⟨_, _, _, _, _, rfl, hm', by omega⟩
        · exact hK' _ ⟨_, _, _, _, _, rfl, hm', by omega⟩
      · rintro ρ ⟨ms, r, s2, s4, s5, rfl, hm, hl⟩
        have hn : (rangeD 0 60).length = 60 := rfl
        exact hK _ ⟨ms, _, _, _, _, rfl, hm, by omega⟩
    · refine ⟨by decide, by decide, ?_⟩
      refine forW_rule (fun j ρ => ∃ (ms : List Int) (r : Int) (s2 s3 s4 : Option Sl), ρ = [some (.sh .scr), some (.ow (ms.map PyData.int)), s2, s3, s4, some (.sh (.I r))] ∧ (0 ≤ r ∧ r < 2147483647) ∧ (∀ z ∈ ms, 0 ≤ z ∧ z < 1009) ∧ ms.length ≤ 60 * i + j) ⟨ms, _, _, _, _, rfl, fmodp _ (by decide), hm, hl⟩ ?_ ?_
      · rintro j d ρ K' hd ⟨ms, r, s2, s3, s4, rfl, hr, hm, hl⟩ hK'
        obtain ⟨rfl, hj⟩ := rangeD_get hd
        simp only [wpS, wp, getV, getB, initE, endF, bindG, List.map_cons, List.map_nil, List.length_cons, List.length_nil, List.cons_append, List.nil_append, List.append_nil, List.getElem?_cons_zero, List.getElem?_cons_succ, List.set_cons_zero, List.set_cons_succ, partD, k_L, k_T, l_lenT, l_lenL, l_int, l_intB, l_abs, l_max2, l_max3, l_max4, l_min2, l_maxL, l_minL, l_sum, l_all, l_any, l_tupL, l_tupT, l_lisL, l_lisT, r_1, r_2, r_l, i_L, i_T, i_A, if_true, if_false, ite_true, ite_false, not_false_eq_true, not_true_eq_false, Bool.false_eq_true, ite_not, b_add, b_addT, b_addL, b_sub, b_subB, b_mul, b_mulT, b_mulL, b_fdiv, b_mod, b_pow, a_add, a_sub, a_mul, a_fdiv, c_lt, c_le, c_gt, c_ge, c_eqI, c_neI, c_eqB, c_neB, seqP, pysD, Option.map_some, List.replicate_zero, List.replicate_succ, Nat.zero_add, Nat.add_zero, Nat.reduceAdd, Nat.reduceSub, Nat.reduceLeDiff, decide_eq_true_eq, Bool.not_eq_true', decide_eq_false_iff_not, Nat.sub_self, Option.some.injEq, exists_eq_left', exists_eq_left, x_pick, f_pr, f_qd, f_prT, f_qdT, x_pr0, x_pr1, x_qd0, x_qd1, x_qd2, x_qd3, g_pr, g_qd, nl_pr, nl_qd, nl_I, nl_B, nl_N, l_pr, l_qd, l_prs, l_ti, l_li, c_eq_pr, c_ne_pr, c_eq_qd, c_ne_qd, i_pr, i_qd, i_prs, i_ti, i_li, true_and, and_true, sl0, sl1, sl2, sl3, sl4, sl5, sl6, sl7, sl8, sl9, sl10, sl11, sl12, sl13, sl14, mketa, wipe1, shE_cons, shE_nil, shS_sh, shS_ow, shS_none, eq_self, and_self, decide_true, decide_false, reduceCtorEq, false_and, and_false, true_implies, false_implies, implies_true, not_true_eq_false, Bool.not_true, Bool.not_false, Bool.true_and, Bool.false_and, Bool.and_true, Bool.and_false, Bool.or_true, Bool.true_or, Bool.or_false, Bool.false_or, Int.reduceLT, Int.reduceLE, Nat.reduceLT, List.length_map]
        have hB : 2147483647 ≤ bigI := by decide +kernel
        have f0 := fmodp (m := 2147483647) (r * 48271 + 7 * (0 + (j : Int)) + 11) (by decide)
        generalize hr2 : (r * 48271 + 7 * (0 + (j : Int)) + 11).fmod 2147483647 = r2 at f0
        have f1 := fmod9 ((r2 * 69621 + (0 + (j : Int))).fmod 2147483629)
        generalize hr3 : ((r2 * 69621 + (0 + (j : Int))).fmod 2147483629).fmod 1009 = r3 at f1
        have hm' : ∀ z ∈ ms ++ [r3], 0 ≤ z ∧ z < 1009 := by
          intro t h
          rcases List.mem_append.mp h with h | h
          · exact hm t h
          · rw [List.mem_singleton.mp h]; exact f1
        have e : ms.map PyData.int ++ [PyData.int r3] = (ms ++ [r3]).map PyData.int := by rw [List.map_append]; rfl
        have hl' : (ms ++ [r3]).length = ms.length + 1 := by rw [List.length_append]; rfl
        rw [e]
        refine ⟨cm (by omega) (by omega), cm (by omega) (by omega), by decide, cm (by omega) (by omega), by decide, by decide, by omega, hK' _ ⟨_, _, _, _, _, rfl, f0, hm', by omega⟩⟩
      · rintro ρ ⟨ms, r, s2, s3, s4, rfl, hr, hm, hl⟩
        have hn : (rangeD 0 10).length = 10 := rfl
        exact hK _ ⟨ms, _, _, _, _, rfl, hm, by omega⟩
  · rintro ρ ⟨ms, s2, s3, s4, s5, rfl, hm, hl⟩
    rw [List.length_map] at hl
    simp only [wpS, wp, getV, getB, initE, endF, bindG, List.map_cons, List.map_nil, List.length_cons, List.length_nil, List.cons_append, List.nil_append, List.append_nil, List.getElem?_cons_zero, List.getElem?_cons_succ, List.set_cons_zero, List.set_cons_succ, partD, k_L, k_T, l_lenT, l_lenL, l_int, l_intB, l_abs, l_max2, l_max3, l_max4, l_min2, l_maxL, l_minL, l_sum, l_all, l_any, l_tupL, l_tupT, l_lisL, l_lisT, r_1, r_2, r_l, i_L, i_T, i_A, if_true, if_false, ite_true, ite_false, not_false_eq_true, not_true_eq_false, Bool.false_eq_true, ite_not, b_add, b_addT, b_addL, b_sub, b_subB, b_mul, b_mulT, b_mulL, b_fdiv, b_mod, b_pow, a_add, a_sub, a_mul, a_fdiv, c_lt, c_le, c_gt, c_ge, c_eqI, c_neI, c_eqB, c_neB, seqP, pysD, Option.map_some, List.replicate_zero, List.replicate_succ, Nat.zero_add, Nat.add_zero, Nat.reduceAdd, Nat.reduceSub, Nat.reduceLeDiff, decide_eq_true_eq, Bool.not_eq_true', decide_eq_false_iff_not, Nat.sub_self, Option.some.injEq, exists_eq_left', exists_eq_left, x_pick, f_pr, f_qd, f_prT, f_qdT, x_pr0, x_pr1, x_qd0, x_qd1, x_qd2, x_qd3, g_pr, g_qd, nl_pr, nl_qd, nl_I, nl_B, nl_N, l_pr, l_qd, l_prs, l_ti, l_li, c_eq_pr, c_ne_pr, c_eq_qd, c_ne_qd, i_pr, i_qd, i_prs, i_ti, i_li, true_and, and_true, sl0, sl1, sl2, sl3, sl4, sl5, sl6, sl7, sl8, sl9, sl10, sl11, sl12, sl13, sl14, mketa, wipe1, shE_cons, shE_nil, shS_sh, shS_ow, shS_none, eq_self, and_self, decide_true, decide_false, reduceCtorEq, false_and, and_false, true_implies, false_implies, implies_true, not_true_eq_false, Bool.not_true, Bool.not_false, Bool.true_and, Bool.false_and, Bool.and_true, Bool.and_false, Bool.or_true, Bool.true_or, Bool.or_false, Bool.false_or, Int.reduceLT, Int.reduceLE, Nat.reduceLT, List.length_map]
    split
    · rename_i h
      have : ms = [] := List.length_eq_zero_iff.mp (by omega)
      subst this
      exact ⟨by decide, hq [0] (by decide) (by decide) (by intro z h; rw [List.mem_singleton.mp h]; decide)⟩
    · rename_i h
      exact hq ms (by omega) (by omega) hm
end Y

/-! part ST -/
set_option Elab.async false
set_option linter.all false
set_option maxRecDepth 100000
set_option maxHeartbeats 2000000
set_option exponentiation.threshold 5000
/-! ST: turns: shares, bounds, windows. -/
namespace Y
open PySem PySem.Spec
def n_whole_of : List Str := ["shares", "found", "_", "below"]
/-- whole_of: number 14 -/
def b_whole_of : S := (.seq (.asg 1 (.lit (.int 1))) (.seq (.for_ (.tup (.cons (.var 2) (.cons (.var 3) .nil))) (.var 0) (.seq (.asg 1 (.bin .mul (.var 1) (.ix (.call 12 (.cons (.var 3) (.cons (.var 1) .nil))) (.lit (.int 0))))) .nil)) (.seq (.ret (.var 1)) .nil)))
def n_check_shares : List Str := ["shares", "total", "share"]
/-- check_shares: number 16 -/
def b_check_shares : S := (.seq (.ite (.or (.not (.chain .LtE .LtE (.lit (.int 1)) (.bi .len (.cons (.var 0) .nil)) (.glob (.int 8)))) (.not (.bi .all (.cons (.comp [("share", 2)] (.and (.call 15 (.cons (.var 2) .nil)) (.cmp .Gt (.ix (.var 2) (.lit (.int 0))) (.lit (.int 0)))) (.var 2) (.var 0) (.lit (.bool true))) .nil)))) (.seq (.raise 0 .nil) .nil) .nil) (.seq (.asg 1 (.tup (.cons (.lit (.int 0)) (.cons (.lit (.int 1)) .nil)))) (.seq (.for_ (.var 2) (.var 0) (.seq (.asg 1 (.call 13 (.cons (.var 1) (.cons (.var 2) .nil)))) .nil)) (.seq (.ite (.or (.cmp .NotEq (.var 1) (.tup (.cons (.lit (.int 1)) (.cons (.lit (.int 1)) .nil)))) (.cmp .Gt (.call 14 (.cons (.var 0) .nil)) (.glob (.int 60)))) (.seq (.raise 0 .nil) .nil) .nil) .nil))))
def n_check_bound : List Str := ["bound"]
/-- check_bound: number 17 -/
def b_check_bound : S := (.seq (.ite (.or (.not (.call 15 (.cons (.var 0) .nil))) (.cmp .Lt (.ix (.var 0) (.lit (.int 0))) (.lit (.int 0)))) (.seq (.raise 0 .nil) .nil) .nil) .nil)
def n_quotient : List Str := ["first", "second"]
/-- quotient: number 18 -/
def b_quotient : S := (.seq (.ret (.bin .fdiv (.bin .mul (.ix (.var 0) (.lit (.int 0))) (.ix (.var 1) (.lit (.int 1)))) (.bin .mul (.ix (.var 0) (.lit (.int 1))) (.ix (.var 1) (.lit (.int 0)))))) .nil)
def n_window : List Str := ["shares", "bound", "one", "count", "share", "early", "late"]
/-- window: number 19 -/
def b_window : S := (.seq (.asg 4 (.ix (.var 0) (.var 2))) (.seq (.asg 5 (.neg (.call 18 (.cons (.call 13 (.cons (.var 1) (.cons (.tup (.cons (.neg (.var 3)) (.cons (.lit (.int 1)) .nil))) .nil))) (.cons (.var 4) .nil))))) (.seq (.asg 6 (.bin .add (.call 18 (.cons (.call 13 (.cons (.var 1) (.cons (.tup (.cons (.bin .sub (.var 3) (.lit (.int 1))) (.cons (.lit (.int 1)) .nil))) .nil))) (.cons (.var 4) .nil))) (.lit (.int 1)))) (.seq (.ret (.tup (.cons (.bi .max (.cons (.lit (.int 1)) (.cons (.var 5) .nil))) (.cons (.var 6) .nil)))) .nil))))
def n_law_shares : List Str := ["state", "whole", "left", "tops", "k", "at", "top"]
/-- law_shares: number 4 -/
def b_law_shares : S := (.seq (.asg 1 (.ix (.lst (.cons (.bin .add (.lit (.int 1)) (.call 1 (.cons (.var 0) (.cons (.lit (.int 12)) .nil)))) (.cons (.bin .add (.lit (.int 1)) (.call 1 (.cons (.var 0) (.cons (.lit (.int 24)) .nil)))) (.cons (.lit (.int 60)) (.cons (.lit (.int 30)) .nil))))) (.ix (.lst (.cons (.lit (.int 0)) (.cons (.lit (.int 0)) (.cons (.lit (.int 0)) (.cons (.lit (.int 1)) (.cons (.lit (.int 1)) (.cons (.lit (.int 2)) (.cons (.lit (.int 3)) .nil)))))))) (.call 1 (.cons (.var 0) (.cons (.lit (.int 7)) .nil)))))) (.seq (.asg 2 (.var 1)) (.seq (.asgL 3 (.lst (.nil))) (.seq (.for_ (.var 4) (.rng (.cons (.call 1 (.cons (.var 0) (.cons (.lit (.int 8)) .nil))) .nil)) (.seq (.ite (.cmp .Gt (.var 2) (.lit (.int 1))) (.seq (.asg 6 (.bin .add (.lit (.int 1)) (.ix (.lst (.cons (.call 1 (.cons (.var 0) (.cons (.bin .sub (.var 2) (.lit (.int 1))) .nil))) (.cons (.call 1 (.cons (.var 0) (.cons (.bi .max (.cons (.lit (.int 1)) (.cons (.bin .fdiv (.var 2) (.lit (.int 3))) .nil))) .nil))) .nil))) (.call 1 (.cons (.var 0) (.cons (.lit (.int 2)) .nil)))))) (.seq (.app 3 (.var 6)) (.seq (.asg 2 (.bin .sub (.var 2) (.var 6))) .nil))) .nil) .nil)) (.seq (.app 3 (.var 2)) (.seq (.asg 5 (.call 1 (.cons (.var 0) (.cons (.bi .len (.cons (.bvar 3) .nil)) .nil)))) (.seq (.asgL 3 (.bin .add (.slc (.bvar 3) (.var 5) .nil) (.slc (.bvar 3) .nil (.var 5)))) (.seq (.ret (.bi .tuple (.cons (.comp [("top", 6)] (.call 3 (.cons (.var 6) (.cons (.var 1) .nil))) (.var 6) (.bvar 3) (.lit (.bool true))) .nil))) .nil))))))))
def n_law_whole : List Str := ["shares", "whole", "top", "below"]
/-- law_whole: number 5 -/
def b_law_whole : S := (.seq (.asg 1 (.lit (.int 1))) (.seq (.for_ (.tup (.cons (.var 2) (.cons (.var 3) .nil))) (.var 0) (.seq (.asg 1 (.bin .fdiv (.bin .mul (.var 1) (.var 3)) (.call 2 (.cons (.var 1) (.cons (.var 3) .nil))))) .nil)) (.seq (.ret (.var 1)) .nil)))
def n_law_bound : List Str := ["state", "shares", "whole"]
/-- law_bound: number 6 -/
def b_law_bound : S := (.seq (.asg 2 (.call 5 (.cons (.var 1) .nil))) (.seq (.ret (.ix (.lst (.cons (.call 3 (.cons (.call 1 (.cons (.var 0) (.cons (.bin .add (.var 2) (.lit (.int 1))) .nil))) (.cons (.var 2) .nil))) (.cons (.call 3 (.cons (.call 1 (.cons (.var 0) (.cons (.lit (.int 9)) .nil))) (.cons (.bin .add (.lit (.int 1)) (.call 1 (.cons (.var 0) (.cons (.lit (.int 8)) .nil)))) .nil))) (.cons (.tup (.cons (.lit (.int 1)) (.cons (.lit (.int 1)) .nil))) (.cons (.tup (.cons (.lit (.int 1)) (.cons (.lit (.int 2)) .nil))) .nil))))) (.ix (.lst (.cons (.lit (.int 0)) (.cons (.lit (.int 0)) (.cons (.lit (.int 0)) (.cons (.lit (.int 1)) (.cons (.lit (.int 2)) (.cons (.lit (.int 3)) .nil))))))) (.call 1 (.cons (.var 0) (.cons (.lit (.int 6)) .nil)))))) .nil))
def n_law_window : List Str := ["shares", "bound", "one", "count", "early", "late", "top", "below"]
/-- law_window: number 7 -/
def b_law_window : S := (.seq (.unp (.tup (.cons (.var 6) (.cons (.var 7) .nil))) (.ix (.var 0) (.var 2))) (.seq (.asg 4 (.bin .sub (.lit (.int 0)) (.bin .fdiv (.bin .mul (.bin .sub (.ix (.var 1) (.lit (.int 0))) (.bin .mul (.var 3) (.ix (.var 1) (.lit (.int 1))))) (.var 7)) (.bin .mul (.ix (.var 1) (.lit (.int 1))) (.var 6))))) (.seq (.asg 5 (.bin .add (.bin .fdiv (.bin .mul (.bin .add (.ix (.var 1) (.lit (.int 0))) (.bin .mul (.bin .sub (.var 3) (.lit (.int 1))) (.ix (.var 1) (.lit (.int 1))))) (.var 7)) (.bin .mul (.ix (.var 1) (.lit (.int 1))) (.var 6))) (.lit (.int 1)))) (.seq (.ret (.tup (.cons (.bi .max (.cons (.lit (.int 1)) (.cons (.var 4) .nil))) (.cons (.var 5) .nil)))) .nil))))
def n_law_wrong_shares : List Str := ["state", "shares", "bad"]
/-- law_wrong_shares: number 8 -/
def b_law_wrong_shares : S := (.seq (.asg 2 (.lst (.cons (.tup .nil) (.cons (.tup (.cons (.tup (.cons (.lit (.int 1)) (.cons (.lit (.int 2)) .nil))) .nil)) (.cons (.tup (.cons (.tup (.cons (.lit (.int 1)) (.cons (.lit (.int 2)) .nil))) (.cons (.tup (.cons (.lit (.int 1)) (.cons (.lit (.int 2)) .nil))) (.cons (.tup (.cons (.lit (.int 1)) (.cons (.lit (.int 2)) .nil))) .nil)))) (.cons (.tup (.cons (.tup (.cons (.lit (.int 0)) (.cons (.lit (.int 1)) .nil))) (.cons (.tup (.cons (.lit (.int 1)) (.cons (.lit (.int 1)) .nil))) .nil))) (.cons (.tup (.cons (.tup (.cons (.lit (.int 2)) (.cons (.lit (.int 4)) .nil))) (.cons (.tup (.cons (.lit (.int 1)) (.cons (.lit (.int 2)) .nil))) .nil))) (.cons (.tup (.cons (.tup (.cons (.lit (.int 3)) (.cons (.lit (.int 2)) .nil))) (.cons (.tup (.cons (.neg (.lit (.int 1))) (.cons (.lit (.int 2)) .nil))) .nil))) (.cons (.tup (.cons (.tup (.cons (.lit (.int 1)) (.cons (.lit (.int 61)) .nil))) (.cons (.tup (.cons (.lit (.int 60)) (.cons (.lit (.int 61)) .nil))) .nil))) (.cons (.bin .mul (.tup (.cons (.tup (.cons (.lit (.int 1)) (.cons (.lit (.int 9)) .nil))) .nil)) (.lit (.int 9))) (.cons (.tup (.cons (.tup (.cons (.lit (.int 1)) (.cons (.lit (.int 7)) .nil))) (.cons (.tup (.cons (.lit (.int 6)) (.cons (.lit (.int 7)) .nil))) (.cons (.tup (.cons (.lit (.int 1)) (.cons (.lit (.int 7)) .nil))) .nil)))) .nil))))))))))) (.seq (.ret (.ix (.var 2) (.call 1 (.cons (.var 0) (.cons (.lit (.int 9)) .nil))))) .nil))
def tot (l : List (Int × Int)) : Int × Int := l.foldl (fun t x => addF t x) (0, 1)
def wf (l : List (Int × Int)) : Int := l.foldl (fun f x => f * (frac x.2 f).1) 1
def okSh (l : List (Int × Int)) : Bool := (decide (1 ≤ l.length ∧ l.length ≤ 8) && l.all fun x => okF x && decide (0 < x.1)) && (decide (tot l = (1, 1)) && decide (wf l ≤ 60))
def quo (a b : Int × Int) : Int := (a.1 * b.2).fdiv (a.2 * b.1)
def win (x b : Int × Int) (c : Int) : Int × Int := (max 1 (0 - ((b.1 - c * b.2) * x.2).fdiv (b.2 * x.1)), ((b.1 + (c - 1) * b.2) * x.2).fdiv (b.2 * x.1) + 1)
def winP (x b : Int × Int) (c : Int) : Int × Int := (max 1 (-quo (addF b (-c, 1)) x), quo (addF b (c - 1, 1)) x + 1)
/-- what _law_shares gives -/
def Good (l : List (Int × Int)) : Prop := ∃ (w : Int) (ts : List Int), 1 ≤ w ∧ w ≤ 60 ∧ (∀ t ∈ ts, 1 ≤ t) ∧ ts.sum = w ∧ 1 ≤ ts.length ∧ ts.length ≤ 8 ∧ l = ts.map fun t => red t w
def BdOk (b : Int × Int) : Prop := 0 ≤ b.1 ∧ 1 ≤ b.2 ∧ b.1 ≤ 61 ∧ b.2 ≤ 61 ∧ Int.gcd b.1 b.2 = 1
def wrongs : List (List (Int × Int)) := [[], [(1, 2)], [(1, 2), (1, 2), (1, 2)], [(0, 1), (1, 1)], [(2, 4), (1, 2)], [(3, 2), (-1, 2)], [(1, 61), (60, 61)], List.replicate 9 (1, 9), [(1, 7), (6, 7), (1, 7)]]
def C_whole_of : Ct := fun ds Q E => ∃ (l : List (Int × Int)), ds = [.py (prs l)] ∧ (l.length ≤ 8 ∧ (∀ x ∈ l, 1 ≤ x.2 ∧ ZF 8 x) ∧ Q (.I (wf l)))
theorem p_whole_of {l : List (Int × Int)} {Q : D → Prop} {E : Nat → Prop} : C_whole_of [.py (prs l)] Q E ↔ (l.length ≤ 8 ∧ (∀ x ∈ l, 1 ≤ x.2 ∧ ZF 8 x) ∧ Q (.I (wf l))) := ⟨fun ⟨l', e, h⟩ => by simp only [List.cons.injEq, D.py.injEq, PyData.int.injEq, PyData.bool.injEq, PyData.str.injEq, pr_inj, qd_inj, prs_inj, ti_inj, li_inj, and_true, true_and] at e; obtain rfl := e; exact h, fun h => ⟨_, rfl, h⟩⟩
def C_check_shares : Ct := fun ds Q E => ∃ (l : List (Int × Int)), ds = [.py (prs l)] ∧ ((∀ x ∈ l, ZF 8 x) ∧ l.length ≤ 1000 ∧ (okSh l = true → Q .N) ∧ (okSh l = false → E 0))
theorem p_check_shares {l : List (Int × Int)} {Q : D → Prop} {E : Nat → Prop} : C_check_shares [.py (prs l)] Q E ↔ ((∀ x ∈ l, ZF 8 x) ∧ l.length ≤ 1000 ∧ (okSh l = true → Q .N) ∧ (okSh l = false → E 0)) := ⟨fun ⟨l', e, h⟩ => by simp only [List.cons.injEq, D.py.injEq, PyData.int.injEq, PyData.bool.injEq, PyData.str.injEq, pr_inj, qd_inj, prs_inj, ti_inj, li_inj, and_true, true_and] at e; obtain rfl := e; exact h, fun h => ⟨_, rfl, h⟩⟩
def C_check_bound : Ct := fun ds Q E => ∃ (b : Int × Int), ds = [.py (pr b)] ∧ ((okF b = true ∧ 0 ≤ b.1 → Q .N) ∧ (¬ (okF b = true ∧ 0 ≤ b.1) → E 0))
theorem p_check_bound {b : Int × Int} {Q : D → Prop} {E : Nat → Prop} : C_check_bound [.py (pr b)] Q E ↔ ((okF b = true ∧ 0 ≤ b.1 → Q .N) ∧ (¬ (okF b = true ∧ 0 ≤ b.1) → E 0)) := ⟨fun ⟨b', e, h⟩ => by simp only [List.cons.injEq, D.py.injEq, PyData.int.injEq, PyData.bool.injEq, PyData.str.injEq, pr_inj, qd_inj, prs_inj, ti_inj, li_inj, and_true, true_and] at e; obtain rfl := e; exact h, fun h => ⟨_, rfl, h⟩⟩
def C_quotient : Ct := fun ds Q E => ∃ (a : Int × Int) (b : Int × Int), ds = [.py (pr a), .py (pr b)] ∧ (ZF 900 a ∧ ZF 900 b ∧ a.2 * b.1 ≠ 0 ∧ Q (.I (quo a b)))
theorem p_quotient {a : Int × Int} {b : Int × Int} {Q : D → Prop} {E : Nat → Prop} : C_quotient [.py (pr a), .py (pr b)] Q E ↔ (ZF 900 a ∧ ZF 900 b ∧ a.2 * b.1 ≠ 0 ∧ Q (.I (quo a b))) := ⟨fun ⟨a', b', e, h⟩ => by simp only [List.cons.injEq, D.py.injEq, PyData.int.injEq, PyData.bool.injEq, PyData.str.injEq, pr_inj, qd_inj, prs_inj, ti_inj, li_inj, and_true, true_and] at e; obtain ⟨rfl, rfl⟩ := e; exact h, fun h => ⟨_, _, rfl, h⟩⟩
def C_window : Ct := fun ds Q E => ∃ (l : List (Int × Int)) (b : Int × Int) (i : Int) (c : Int), ds = [.py (prs l), .py (pr b), .I i, .I c] ∧ (∃ x, 0 ≤ i ∧ l[i.toNat]? = some x ∧ ZF 64 x ∧ ZF 64 b ∧ Z 64 c ∧ x.1 ≠ 0 ∧ b.2 ≠ 0 ∧ Q (.py (pr (winP x b c))))
theorem p_window {l : List (Int × Int)} {b : Int × Int} {i : Int} {c : Int} {Q : D → Prop} {E : Nat → Prop} : C_window [.py (prs l), .py (pr b), .I i, .I c] Q E ↔ (∃ x, 0 ≤ i ∧ l[i.toNat]? = some x ∧ ZF 64 x ∧ ZF 64 b ∧ Z 64 c ∧ x.1 ≠ 0 ∧ b.2 ≠ 0 ∧ Q (.py (pr (winP x b c)))) := ⟨fun ⟨l', b', i', c', e, h⟩ => by simp only [List.cons.injEq, D.py.injEq, PyData.int.injEq, PyData.bool.injEq, PyData.str.injEq, pr_inj, qd_inj, prs_inj, ti_inj, li_inj, and_true, true_and] at e; obtain ⟨rfl, rfl, rfl, rfl⟩ := e; exact h, fun h => ⟨_, _, _, _, rfl, h⟩⟩
def C_law_shares : Ct := fun ds Q E => ds = [.st] ∧ (∀ l, Good l → Q (.py (prs l)))
theorem p_law_shares  {Q : D → Prop} {E : Nat → Prop} : C_law_shares [.st] Q E ↔ (∀ l, Good l → Q (.py (prs l))) := ⟨fun ⟨e, h⟩ => by exact h, fun h => ⟨rfl, h⟩⟩
def C_law_whole : Ct := fun ds Q E => ∃ (l : List (Int × Int)), ds = [.py (prs l)] ∧ (Good l ∧ Q (.I (wf l)))
theorem p_law_whole {l : List (Int × Int)} {Q : D → Prop} {E : Nat → Prop} : C_law_whole [.py (prs l)] Q E ↔ (Good l ∧ Q (.I (wf l))) := ⟨fun ⟨l', e, h⟩ => by simp only [List.cons.injEq, D.py.injEq, PyData.int.injEq, PyData.bool.injEq, PyData.str.injEq, pr_inj, qd_inj, prs_inj, ti_inj, li_inj, and_true, true_and] at e; obtain rfl := e; exact h, fun h => ⟨_, rfl, h⟩⟩
def C_law_bound : Ct := fun ds Q E => ∃ (l : List (Int × Int)), ds = [.st, .py (prs l)] ∧ (Good l ∧ ∀ b, BdOk b → Q (.py (pr b)))
theorem p_law_bound {l : List (Int × Int)} {Q : D → Prop} {E : Nat → Prop} : C_law_bound [.st, .py (prs l)] Q E ↔ (Good l ∧ ∀ b, BdOk b → Q (.py (pr b))) := ⟨fun ⟨l', e, h⟩ => by simp only [List.cons.injEq, D.py.injEq, PyData.int.injEq, PyData.bool.injEq, PyData.str.injEq, pr_inj, qd_inj, prs_inj, ti_inj, li_inj, and_true, true_and] at e; obtain rfl := e; exact h, fun h => ⟨_, rfl, h⟩⟩
def C_law_window : Ct := fun ds Q E => ∃ (l : List (Int × Int)) (b : Int × Int) (i : Int) (c : Int), ds = [.py (prs l), .py (pr b), .I i, .I c] ∧ (∃ x, 0 ≤ i ∧ l[i.toNat]? = some x ∧ ZF 64 x ∧ ZF 64 b ∧ Z 64 c ∧ x.1 ≠ 0 ∧ b.2 ≠ 0 ∧ Q (.py (pr (win x b c))))
theorem p_law_window {l : List (Int × Int)} {b : Int × Int} {i : Int} {c : Int} {Q : D → Prop} {E : Nat → Prop} : C_law_window [.py (prs l), .py (pr b), .I i, .I c] Q E ↔ (∃ x, 0 ≤ i ∧ l[i.toNat]? = some x ∧ ZF 64 x ∧ ZF 64 b ∧ Z 64 c ∧ x.1 ≠ 0 ∧ b.2 ≠ 0 ∧ Q (.py (pr (win x b c)))) := ⟨fun ⟨l', b', i', c', e, h⟩ => by simp only [List.cons.injEq, D.py.injEq, PyData.int.injEq, PyData.bool.injEq, PyData.str.injEq, pr_inj, qd_inj, prs_inj, ti_inj, li_inj, and_true, true_and] at e; obtain ⟨rfl, rfl, rfl, rfl⟩ := e; exact h, fun h => ⟨_, _, _, _, rfl, h⟩⟩
def C_law_wrong_shares : Ct := fun ds Q E => ∃ (d : D), ds = [.st, d] ∧ (∀ l ∈ wrongs, Q (.py (prs l)))
theorem p_law_wrong_shares {d : D} {Q : D → Prop} {E : Nat → Prop} : C_law_wrong_shares [.st, d] Q E ↔ (∀ l ∈ wrongs, Q (.py (prs l))) := ⟨fun ⟨d', e, h⟩ => by simp only [List.cons.injEq, D.py.injEq, PyData.int.injEq, PyData.bool.injEq, PyData.str.injEq, pr_inj, qd_inj, prs_inj, ti_inj, li_inj, and_true, true_and] at e; obtain rfl := e; exact h, fun h => ⟨_, rfl, h⟩⟩
theorem s_quotient {Φ : PhiT}  (ds : List D) (Q : D → Prop) (E : Nat → Prop) (h : C_quotient ds Q E) : ds.length = 2 ∧ wpS Φ exName b_quotient (initE n_quotient ds) (endF Q E) := by
  obtain ⟨a, b, rfl, ha, hb, h0, hq⟩ := h
  refine ⟨rfl, ?_⟩
  simp only [wpS, wp, getV, getB, initE, endF, bindG, List.map_cons, List.map_nil, List.length_cons, List.length_nil, List.cons_append, List.nil_append, List.append_nil, List.getElem?_cons_zero, List.getElem?_cons_succ, List.set_cons_zero, List.set_cons_succ, partD, k_L, k_T, l_lenT, l_lenL, l_int, l_intB, l_abs, l_max2, l_max3, l_max4, l_min2, l_maxL, l_minL, l_sum, l_all, l_any, l_tupL, l_tupT, l_lisL, l_lisT, r_1, r_2, r_l, i_L, i_T, i_A, if_true, if_false, ite_true, ite_false, not_false_eq_true, not_true_eq_false, Bool.false_eq_true, ite_not, b_add, b_addT, b_addL, b_sub, b_subB, b_mul, b_mulT, b_mulL, b_fdiv, b_mod, b_pow, a_add, a_sub, a_mul, a_fdiv, c_lt, c_le, c_gt, c_ge, c_eqI, c_neI, c_eqB, c_neB, seqP, pysD, Option.map_some, List.replicate_zero, List.replicate_succ, Nat.zero_add, Nat.add_zero, Nat.reduceAdd, Nat.reduceSub, Nat.reduceLeDiff, decide_eq_true_eq, Bool.not_eq_true', decide_eq_false_iff_not, Nat.sub_self, Option.some.injEq, exists_eq_left', exists_eq_left, x_pick, f_pr, f_qd, f_prT, f_qdT, x_pr0, x_pr1, x_qd0, x_qd1, x_qd2, x_qd3, g_pr, g_qd, nl_pr, nl_qd, nl_I, nl_B, nl_N, l_pr, l_qd, l_prs, l_ti, l_li, c_eq_pr, c_ne_pr, c_eq_qd, c_ne_qd, i_pr, i_qd, i_prs, i_ti, i_li, true_and, and_true, sl0, sl1, sl2, sl3, sl4, sl5, sl6, sl7, sl8, sl9, sl10, sl11, sl12, sl13, sl14, mketa, wipe1, shE_cons, shE_nil, shS_sh, shS_ow, shS_none, eq_self, and_self, decide_true, decide_false, reduceCtorEq, false_and, and_false, true_implies, false_implies, implies_true, not_true_eq_false, Bool.not_true, Bool.not_false, Bool.true_and, Bool.false_and, Bool.and_true, Bool.and_false, Bool.or_true, Bool.true_or, Bool.or_false, Bool.false_or, Int.reduceLT, Int.reduceLE, Nat.reduceLT, b_quotient, n_quotient]
  obtain ⟨ha1, ha2⟩ := ha
  obtain ⟨hb1, hb2⟩ := hb
  exact ⟨cmz ha1 hb2 (by decide) (by decide), cmz ha2 hb1 (by decide) (by decide), dvz (ha2.mul hb1) (by decide) h0, hq⟩
theorem s_check_bound {Φ : PhiT} (h_is_fraction : Φ 15 = C_is_fraction) (ds : List D) (Q : D → Prop) (E : Nat → Prop) (h : C_check_bound ds Q E) : ds.length = 1 ∧ wpS Φ exName b_check_bound (initE n_check_bound ds) (endF Q E) := by
  obtain ⟨a, rfl, hq, he⟩ := h
  refine ⟨rfl, ?_⟩
  simp only [wpS, wp, getV, getB, initE, endF, bindG, List.map_cons, List.map_nil, List.length_cons, List.length_nil, List.cons_append, List.nil_append, List.append_nil, List.getElem?_cons_zero, List.getElem?_cons_succ, List.set_cons_zero, List.set_cons_succ, partD, k_L, k_T, l_lenT, l_lenL, l_int, l_intB, l_abs, l_max2, l_max3, l_max4, l_min2, l_maxL, l_minL, l_sum, l_all, l_any, l_tupL, l_tupT, l_lisL, l_lisT, r_1, r_2, r_l, i_L, i_T, i_A, if_true, if_false, ite_true, ite_false, not_false_eq_true, not_true_eq_false, Bool.false_eq_true, ite_not, b_add, b_addT, b_addL, b_sub, b_subB, b_mul, b_mulT, b_mulL, b_fdiv, b_mod, b_pow, a_add, a_sub, a_mul, a_fdiv, c_lt, c_le, c_gt, c_ge, c_eqI, c_neI, c_eqB, c_neB, seqP, pysD, Option.map_some, List.replicate_zero, List.replicate_succ, Nat.zero_add, Nat.add_zero, Nat.reduceAdd, Nat.reduceSub, Nat.reduceLeDiff, decide_eq_true_eq, Bool.not_eq_true', decide_eq_false_iff_not, Nat.sub_self, Option.some.injEq, exists_eq_left', exists_eq_left, x_pick, f_pr, f_qd, f_prT, f_qdT, x_pr0, x_pr1, x_qd0, x_qd1, x_qd2, x_qd3, g_pr, g_qd, nl_pr, nl_qd, nl_I, nl_B, nl_N, l_pr, l_qd, l_prs, l_ti, l_li, c_eq_pr, c_ne_pr, c_eq_qd, c_ne_qd, i_pr, i_qd, i_prs, i_ti, i_li, true_and, and_true, sl0, sl1, sl2, sl3, sl4, sl5, sl6, sl7, sl8, sl9, sl10, sl11, sl12, sl13, sl14, mketa, wipe1, shE_cons, shE_nil, shS_sh, shS_ow, shS_none, eq_self, and_self, decide_true, decide_false, reduceCtorEq, false_and, and_false, true_implies, false_implies, implies_true, not_true_eq_false, Bool.not_true, Bool.not_false, Bool.true_and, Bool.false_and, Bool.and_true, Bool.and_false, Bool.or_true, Bool.true_or, Bool.or_false, Bool.false_or, Int.reduceLT, Int.reduceLE, Nat.reduceLT, h_is_fraction, p_is_fraction, b_check_bound, n_check_bound]
  rcases h : okF a with _ | _
  · rw [if_pos rfl]
    exact he (by rw [h]; exact fun z => nomatch z.1)
  · rw [if_neg (by decide)]
    split
    · exact he (by omega)
    · exact hq ⟨h, by omega⟩
theorem wf_pre : ∀ {l : List (Int × Int)}, (∀ x ∈ l, 1 ≤ x.2 ∧ ZF 8 x) → ∀ (f : Int) (m : Nat), 0 < f → Z m f → 0 < l.foldl (fun f x => f * (frac x.2 f).1) f ∧ Z (m + 8 * l.length) (l.foldl (fun f x => f * (frac x.2 f).1) f)
  | [], _, f, m, h, hm => ⟨h, hm⟩
  | x :: l, hx, f, m, h, hm => by
    have hx1 := hx x List.mem_cons_self
    have h1 : 0 < (frac x.2 f).1 := by
      rw [(frac_pos h).1]
      exact Int.ediv_pos_of_pos_of_dvd (by omega) (by omega) (Int.gcd_dvd_left _ _)
    have h2 : Z (m + 8) (f * (frac x.2 f).1) := hm.mul (Nat.le_trans frac_fst_le hx1.2.2)
    have := wf_pre (l := l) (fun y hy => hx y (List.mem_cons_of_mem _ hy)) (f * (frac x.2 f).1) (m + 8) (Int.mul_pos h h1) h2
    refine ⟨this.1, this.2.mono ?_⟩
    rw [List.length_cons]
    omega
theorem s_whole_of {Φ : PhiT} (h_fraction : Φ 12 = C_fraction) (ds : List D) (Q : D → Prop) (E : Nat → Prop) (h : C_whole_of ds Q E) : ds.length = 1 ∧ wpS Φ exName b_whole_of (initE n_whole_of ds) (endF Q E) := by
  obtain ⟨l, rfl, hl, hx, hq⟩ := h
  refine ⟨rfl, ?_⟩
  simp only [wpS, wp, getV, getB, initE, endF, bindG, List.map_cons, List.map_nil, List.length_cons, List.length_nil, List.cons_append, List.nil_append, List.append_nil, List.getElem?_cons_zero, List.getElem?_cons_succ, List.set_cons_zero, List.set_cons_succ, partD, k_L, k_T, l_lenT, l_lenL, l_int, l_intB, l_abs, l_max2, l_max3, l_max4, l_min2, l_maxL, l_minL, l_sum, l_all, l_any, l_tupL, l_tupT, l_lisL, l_lisT, r_1, r_2, r_l, i_L, i_T, i_A, if_true, if_false, ite_true, ite_false, not_false_eq_true, not_true_eq_false, Bool.false_eq_true, ite_not, b_add, b_addT, b_addL, b_sub, b_subB, b_mul, b_mulT, b_mulL, b_fdiv, b_mod, b_pow, a_add, a_sub, a_mul, a_fdiv, c_lt, c_le, c_gt, c_ge, c_eqI, c_neI, c_eqB, c_neB, seqP, pysD, Option.map_some, List.replicate_zero, List.replicate_succ, Nat.zero_add, Nat.add_zero, Nat.reduceAdd, Nat.reduceSub, Nat.reduceLeDiff, decide_eq_true_eq, Bool.not_eq_true', decide_eq_false_iff_not, Nat.sub_self, Option.some.injEq, exists_eq_left', exists_eq_left, x_pick, f_pr, f_qd, f_prT, f_qdT, x_pr0, x_pr1, x_qd0, x_qd1, x_qd2, x_qd3, g_pr, g_qd, nl_pr, nl_qd, nl_I, nl_B, nl_N, l_pr, l_qd, l_prs, l_ti, l_li, c_eq_pr, c_ne_pr, c_eq_qd, c_ne_qd, i_pr, i_qd, i_prs, i_ti, i_li, true_and, and_true, sl0, sl1, sl2, sl3, sl4, sl5, sl6, sl7, sl8, sl9, sl10, sl11, sl12, sl13, sl14, mketa, wipe1, shE_cons, shE_nil, shS_sh, shS_ow, shS_none, eq_self, and_self, decide_true, decide_false, reduceCtorEq, false_and, and_false, true_implies, false_implies, implies_true, not_true_eq_false, Bool.not_true, Bool.not_false, Bool.true_and, Bool.false_and, Bool.and_true, Bool.and_false, Bool.or_true, Bool.true_or, Bool.or_false, Bool.false_or, Int.reduceLT, Int.reduceLE, Nat.reduceLT, h_fraction, p_fraction, b_whole_of, n_whole_of]
  refine forW_fold (g := fun f x => f * (frac x.2 f).1) (b0 := (1 : Int)) (fun f ρ => ∃ s3 s4, ρ = [some (.sh (.py (prs l))), some (.sh (.I f)), s3, s4]) ⟨_, _, rfl⟩ ?_ ?_
  · rintro l1 x l2 ρ K e ⟨s3, s4, rfl⟩ hK
    simp only [wpS, wp, getV, getB, initE, endF, bindG, List.map_cons, List.map_nil, List.length_cons, List.length_nil, List.cons_append, List.nil_append, List.append_nil, List.getElem?_cons_zero, List.getElem?_cons_succ, List.set_cons_zero, List.set_cons_succ, partD, k_L, k_T, l_lenT, l_lenL, l_int, l_intB, l_abs, l_max2, l_max3, l_max4, l_min2, l_maxL, l_minL, l_sum, l_all, l_any, l_tupL, l_tupT, l_lisL, l_lisT, r_1, r_2, r_l, i_L, i_T, i_A, if_true, if_false, ite_true, ite_false, not_false_eq_true, not_true_eq_false, Bool.false_eq_true, ite_not, b_add, b_addT, b_addL, b_sub, b_subB, b_mul, b_mulT, b_mulL, b_fdiv, b_mod, b_pow, a_add, a_sub, a_mul, a_fdiv, c_lt, c_le, c_gt, c_ge, c_eqI, c_neI, c_eqB, c_neB, seqP, pysD, Option.map_some, List.replicate_zero, List.replicate_succ, Nat.zero_add, Nat.add_zero, Nat.reduceAdd, Nat.reduceSub, Nat.reduceLeDiff, decide_eq_true_eq, Bool.not_eq_true', decide_eq_false_iff_not, Nat.sub_self, Option.some.injEq, exists_eq_left', exists_eq_left, x_pick, f_pr, f_qd, f_prT, f_qdT, x_pr0, x_pr1, x_qd0, x_qd1, x_qd2, x_qd3, g_pr, g_qd, nl_pr, nl_qd, nl_I, nl_B, nl_N, l_pr, l_qd, l_prs, l_ti, l_li, c_eq_pr, c_ne_pr, c_eq_qd, c_ne_qd, i_pr, i_qd, i_prs, i_ti, i_li, true_and, and_true, sl0, sl1, sl2, sl3, sl4, sl5, sl6, sl7, sl8, sl9, sl10, sl11, sl12, sl13, sl14, mketa, wipe1, shE_cons, shE_nil, shS_sh, shS_ow, shS_none, eq_self, and_self, decide_true, decide_false, reduceCtorEq, false_and, and_false, true_implies, false_implies, implies_true, not_true_eq_false, Bool.not_true, Bool.not_false, Bool.true_and, Bool.false_and, Bool.and_true, Bool.and_false, Bool.or_true, Bool.true_or, Bool.or_false, Bool.false_or, Int.reduceLT, Int.reduceLE, Nat.reduceLT, h_fraction, p_fraction]
    have hp := wf_pre (l := l1) (fun y hy => hx y (by rw [e]; exact List.mem_append_left _ hy)) 1 1 (by omega) (by decide)
    have hx1 := hx x (by rw [e]; exact List.mem_append_right _ List.mem_cons_self)
    have hl1 : l1.length ≤ 8 := by
      have := congrArg List.length e
      rw [List.length_append] at this
      omega
    generalize List.foldl (fun f x => f * (frac x.snd f).fst) 1 l1 = f at hp hK ⊢
    have hf : Z 65 f := hp.2.mono (by omega)
    exact ⟨hf.big (by decide), fun z => absurd z (by omega), fun _ => ⟨cmz hf (Nat.le_trans frac_fst_le hx1.2.2) (by decide) (by decide), hK _ ⟨_, _, rfl⟩⟩⟩
  · rintro ρ ⟨s3, s4, rfl⟩
    simp only [wpS, wp, getV, getB, initE, endF, bindG, List.map_cons, List.map_nil, List.length_cons, List.length_nil, List.cons_append, List.nil_append, List.append_nil, List.getElem?_cons_zero, List.getElem?_cons_succ, List.set_cons_zero, List.set_cons_succ, partD, k_L, k_T, l_lenT, l_lenL, l_int, l_intB, l_abs, l_max2, l_max3, l_max4, l_min2, l_maxL, l_minL, l_sum, l_all, l_any, l_tupL, l_tupT, l_lisL, l_lisT, r_1, r_2, r_l, i_L, i_T, i_A, if_true, if_false, ite_true, ite_false, not_false_eq_true, not_true_eq_false, Bool.false_eq_true, ite_not, b_add, b_addT, b_addL, b_sub, b_subB, b_mul, b_mulT, b_mulL, b_fdiv, b_mod, b_pow, a_add, a_sub, a_mul, a_fdiv, c_lt, c_le, c_gt, c_ge, c_eqI, c_neI, c_eqB, c_neB, seqP, pysD, Option.map_some, List.replicate_zero, List.replicate_succ, Nat.zero_add, Nat.add_zero, Nat.reduceAdd, Nat.reduceSub, Nat.reduceLeDiff, decide_eq_true_eq, Bool.not_eq_true', decide_eq_false_iff_not, Nat.sub_self, Option.some.injEq, exists_eq_left', exists_eq_left, x_pick, f_pr, f_qd, f_prT, f_qdT, x_pr0, x_pr1, x_qd0, x_qd1, x_qd2, x_qd3, g_pr, g_qd, nl_pr, nl_qd, nl_I, nl_B, nl_N, l_pr, l_qd, l_prs, l_ti, l_li, c_eq_pr, c_ne_pr, c_eq_qd, c_ne_qd, i_pr, i_qd, i_prs, i_ti, i_li, true_and, and_true, sl0, sl1, sl2, sl3, sl4, sl5, sl6, sl7, sl8, sl9, sl10, sl11, sl12, sl13, sl14, mketa, wipe1, shE_cons, shE_nil, shS_sh, shS_ow, shS_none, eq_self, and_self, decide_true, decide_false, reduceCtorEq, false_and, and_false, true_implies, false_implies, implies_true, not_true_eq_false, Bool.not_true, Bool.not_false, Bool.true_and, Bool.false_and, Bool.and_true, Bool.and_false, Bool.or_true, Bool.true_or, Bool.or_false, Bool.false_or, Int.reduceLT, Int.reduceLE, Nat.reduceLT, h_fraction, p_fraction]
    exact hq
theorem s_window {Φ : PhiT} (h_quotient : Φ 18 = C_quotient) (h_added : Φ 13 = C_added) (ds : List D) (Q : D → Prop) (E : Nat → Prop) (h : C_window ds Q E) : ds.length = 4 ∧ wpS Φ exName b_window (initE n_window ds) (endF Q E) := by
  obtain ⟨l, b, c, i, rfl, x, hi, hx, fx, fb, hc, x0, b0, hq⟩ := h
  refine ⟨rfl, ?_⟩
  simp only [wpS, wp, getV, getB, initE, endF, bindG, List.map_cons, List.map_nil, List.length_cons, List.length_nil, List.cons_append, List.nil_append, List.append_nil, List.getElem?_cons_zero, List.getElem?_cons_succ, List.set_cons_zero, List.set_cons_succ, partD, k_L, k_T, l_lenT, l_lenL, l_int, l_intB, l_abs, l_max2, l_max3, l_max4, l_min2, l_maxL, l_minL, l_sum, l_all, l_any, l_tupL, l_tupT, l_lisL, l_lisT, r_1, r_2, r_l, i_L, i_T, i_A, if_true, if_false, ite_true, ite_false, not_false_eq_true, not_true_eq_false, Bool.false_eq_true, ite_not, b_add, b_addT, b_addL, b_sub, b_subB, b_mul, b_mulT, b_mulL, b_fdiv, b_mod, b_pow, a_add, a_sub, a_mul, a_fdiv, c_lt, c_le, c_gt, c_ge, c_eqI, c_neI, c_eqB, c_neB, seqP, pysD, Option.map_some, List.replicate_zero, List.replicate_succ, Nat.zero_add, Nat.add_zero, Nat.reduceAdd, Nat.reduceSub, Nat.reduceLeDiff, decide_eq_true_eq, Bool.not_eq_true', decide_eq_false_iff_not, Nat.sub_self, Option.some.injEq, exists_eq_left', exists_eq_left, x_pick, f_pr, f_qd, f_prT, f_qdT, x_pr0, x_pr1, x_qd0, x_qd1, x_qd2, x_qd3, g_pr, g_qd, nl_pr, nl_qd, nl_I, nl_B, nl_N, l_pr, l_qd, l_prs, l_ti, l_li, c_eq_pr, c_ne_pr, c_eq_qd, c_ne_qd, i_pr, i_qd, i_prs, i_ti, i_li, true_and, and_true, sl0, sl1, sl2, sl3, sl4, sl5, sl6, sl7, sl8, sl9, sl10, sl11, sl12, sl13, sl14, mketa, wipe1, shE_cons, shE_nil, shS_sh, shS_ow, shS_none, eq_self, and_self, decide_true, decide_false, reduceCtorEq, false_and, and_false, true_implies, false_implies, implies_true, not_true_eq_false, Bool.not_true, Bool.not_false, Bool.true_and, Bool.false_and, Bool.and_true, Bool.and_false, Bool.or_true, Bool.true_or, Bool.or_false, Bool.false_or, Int.reduceLT, Int.reduceLE, Nat.reduceLT, h_quotient, h_added, p_quotient, p_added, b_window, n_window]
  refine ix_prs hi hx ?_
  simp only [wpS, wp, getV, getB, initE, endF, bindG, List.map_cons, List.map_nil, List.length_cons, List.length_nil, List.cons_append, List.nil_append, List.append_nil, List.getElem?_cons_zero, List.getElem?_cons_succ, List.set_cons_zero, List.set_cons_succ, partD, k_L, k_T, l_lenT, l_lenL, l_int, l_intB, l_abs, l_max2, l_max3, l_max4, l_min2, l_maxL, l_minL, l_sum, l_all, l_any, l_tupL, l_tupT, l_lisL, l_lisT, r_1, r_2, r_l, i_L, i_T, i_A, if_true, if_false, ite_true, ite_false, not_false_eq_true, not_true_eq_false, Bool.false_eq_true, ite_not, b_add, b_addT, b_addL, b_sub, b_subB, b_mul, b_mulT, b_mulL, b_fdiv, b_mod, b_pow, a_add, a_sub, a_mul, a_fdiv, c_lt, c_le, c_gt, c_ge, c_eqI, c_neI, c_eqB, c_neB, seqP, pysD, Option.map_some, List.replicate_zero, List.replicate_succ, Nat.zero_add, Nat.add_zero, Nat.reduceAdd, Nat.reduceSub, Nat.reduceLeDiff, decide_eq_true_eq, Bool.not_eq_true', decide_eq_false_iff_not, Nat.sub_self, Option.some.injEq, exists_eq_left', exists_eq_left, x_pick, f_pr, f_qd, f_prT, f_qdT, x_pr0, x_pr1, x_qd0, x_qd1, x_qd2, x_qd3, g_pr, g_qd, nl_pr, nl_qd, nl_I, nl_B, nl_N, l_pr, l_qd, l_prs, l_ti, l_li, c_eq_pr, c_ne_pr, c_eq_qd, c_ne_qd, i_pr, i_qd, i_prs, i_ti, i_li, true_and, and_true, sl0, sl1, sl2, sl3, sl4, sl5, sl6, sl7, sl8, sl9, sl10, sl11, sl12, sl13, sl14, mketa, wipe1, shE_cons, shE_nil, shS_sh, shS_ow, shS_none, eq_self, and_self, decide_true, decide_false, reduceCtorEq, false_and, and_false, true_implies, false_implies, implies_true, not_true_eq_false, Bool.not_true, Bool.not_false, Bool.true_and, Bool.false_and, Bool.and_true, Bool.and_false, Bool.or_true, Bool.true_or, Bool.or_false, Bool.false_or, Int.reduceLT, Int.reduceLE, Nat.reduceLT, h_quotient, h_added, p_quotient, p_added]
  have n0 : b.2 * 1 ≠ 0 := by omega
  have fb9 := fb.mono (m := 900) (by decide)
  have fx9 := fx.mono (m := 900) (by decide)
  have cc : ZF 64 (-i, 1) := ZF.mk hc.neg (m := 0) (by decide) (by decide) (by decide)
  have cd : ZF 66 (i - 1, 1) := ZF.mk (hc.sub (m := 0) (by decide)) (m := 0) (by decide) (by decide) (by decide)
  have a1 : ZF 900 (addF b (-i, 1)) := (fb.add cc).mono (by decide)
  have a2 : ZF 900 (addF b (i - 1, 1)) := (fb.add cd).mono (by decide)
  have q1 : (addF b (-i, 1)).2 * x.1 ≠ 0 := Int.mul_ne_zero (frac_ne n0) x0
  have q2 : (addF b (i - 1, 1)).2 * x.1 ≠ 0 := Int.mul_ne_zero (frac_ne n0) x0
  exact ⟨fb9, cc.mono (by decide), fun z => absurd z n0, fun _ => ⟨a1, fx9, q1, fb9, cd.mono (by decide), fun z => absurd z n0, fun _ => ⟨a2, fx9, q2, hq⟩⟩⟩
theorem s_law_window {Φ : PhiT}  (ds : List D) (Q : D → Prop) (E : Nat → Prop) (h : C_law_window ds Q E) : ds.length = 4 ∧ wpS Φ exName b_law_window (initE n_law_window ds) (endF Q E) := by
  obtain ⟨l, b, c, i, rfl, x, hi, hx, fx, fb, hc, x0, b0, hq⟩ := h
  refine ⟨rfl, ?_⟩
  simp only [wpS, wp, getV, getB, initE, endF, bindG, List.map_cons, List.map_nil, List.length_cons, List.length_nil, List.cons_append, List.nil_append, List.append_nil, List.getElem?_cons_zero, List.getElem?_cons_succ, List.set_cons_zero, List.set_cons_succ, partD, k_L, k_T, l_lenT, l_lenL, l_int, l_intB, l_abs, l_max2, l_max3, l_max4, l_min2, l_maxL, l_minL, l_sum, l_all, l_any, l_tupL, l_tupT, l_lisL, l_lisT, r_1, r_2, r_l, i_L, i_T, i_A, if_true, if_false, ite_true, ite_false, not_false_eq_true, not_true_eq_false, Bool.false_eq_true, ite_not, b_add, b_addT, b_addL, b_sub, b_subB, b_mul, b_mulT, b_mulL, b_fdiv, b_mod, b_pow, a_add, a_sub, a_mul, a_fdiv, c_lt, c_le, c_gt, c_ge, c_eqI, c_neI, c_eqB, c_neB, seqP, pysD, Option.map_some, List.replicate_zero, List.replicate_succ, Nat.zero_add, Nat.add_zero, Nat.reduceAdd, Nat.reduceSub, Nat.reduceLeDiff, decide_eq_true_eq, Bool.not_eq_true', decide_eq_false_iff_not, Nat.sub_self, Option.some.injEq, exists_eq_left', exists_eq_left, x_pick, f_pr, f_qd, f_prT, f_qdT, x_pr0, x_pr1, x_qd0, x_qd1, x_qd2, x_qd3, g_pr, g_qd, nl_pr, nl_qd, nl_I, nl_B, nl_N, l_pr, l_qd, l_prs, l_ti, l_li, c_eq_pr, c_ne_pr, c_eq_qd, c_ne_qd, i_pr, i_qd, i_prs, i_ti, i_li, true_and, and_true, sl0, sl1, sl2, sl3, sl4, sl5, sl6, sl7, sl8, sl9, sl10, sl11, sl12, sl13, sl14, mketa, wipe1, shE_cons, shE_nil, shS_sh, shS_ow, shS_none, eq_self, and_self, decide_true, decide_false, reduceCtorEq, false_and, and_false, true_implies, false_implies, implies_true, not_true_eq_false, Bool.not_true, Bool.not_false, Bool.true_and, Bool.false_and, Bool.and_true, Bool.and_false, Bool.or_true, Bool.true_or, Bool.or_false, Bool.false_or, Int.reduceLT, Int.reduceLE, Nat.reduceLT, b_law_window, n_law_window]
  refine ix_prs hi hx ?_
  simp only [wpS, wp, getV, getB, initE, endF, bindG, List.map_cons, List.map_nil, List.length_cons, List.length_nil, List.cons_append, List.nil_append, List.append_nil, List.getElem?_cons_zero, List.getElem?_cons_succ, List.set_cons_zero, List.set_cons_succ, partD, k_L, k_T, l_lenT, l_lenL, l_int, l_intB, l_abs, l_max2, l_max3, l_max4, l_min2, l_maxL, l_minL, l_sum, l_all, l_any, l_tupL, l_tupT, l_lisL, l_lisT, r_1, r_2, r_l, i_L, i_T, i_A, if_true, if_false, ite_true, ite_false, not_false_eq_true, not_true_eq_false, Bool.false_eq_true, ite_not, b_add, b_addT, b_addL, b_sub, b_subB, b_mul, b_mulT, b_mulL, b_fdiv, b_mod, b_pow, a_add, a_sub, a_mul, a_fdiv, c_lt, c_le, c_gt, c_ge, c_eqI, c_neI, c_eqB, c_neB, seqP, pysD, Option.map_some, List.replicate_zero, List.replicate_succ, Nat.zero_add, Nat.add_zero, Nat.reduceAdd, Nat.reduceSub, Nat.reduceLeDiff, decide_eq_true_eq, Bool.not_eq_true', decide_eq_false_iff_not, Nat.sub_self, Option.some.injEq, exists_eq_left', exists_eq_left, x_pick, f_pr, f_qd, f_prT, f_qdT, x_pr0, x_pr1, x_qd0, x_qd1, x_qd2, x_qd3, g_pr, g_qd, nl_pr, nl_qd, nl_I, nl_B, nl_N, l_pr, l_qd, l_prs, l_ti, l_li, c_eq_pr, c_ne_pr, c_eq_qd, c_ne_qd, i_pr, i_qd, i_prs, i_ti, i_li, true_and, and_true, sl0, sl1, sl2, sl3, sl4, sl5, sl6, sl7, sl8, sl9, sl10, sl11, sl12, sl13, sl14, mketa, wipe1, shE_cons, shE_nil, shS_sh, shS_ow, shS_none, eq_self, and_self, decide_true, decide_false, reduceCtorEq, false_and, and_false, true_implies, false_implies, implies_true, not_true_eq_false, Bool.not_true, Bool.not_false, Bool.true_and, Bool.false_and, Bool.and_true, Bool.and_false, Bool.or_true, Bool.true_or, Bool.or_false, Bool.false_or, Int.reduceLT, Int.reduceLE, Nat.reduceLT]
  obtain ⟨fb1, fb2⟩ := fb
  obtain ⟨fx1, fx2⟩ := fx
  have d0 := Int.mul_ne_zero b0 x0
  have hc1 : Z 65 (i - 1) := hc.sub (m := 0) (by decide)
  exact ⟨cmz hc fb2 (by decide) (by decide), cmz (fb1.sub (hc.mul fb2)) fx2 (by decide) (by decide), cmz fb2 fx1 (by decide) (by decide), dvz (fb2.mul fx1) (by decide) d0,
    cmz hc1 fb2 (by decide) (by decide), cmz (fb1.add (hc1.mul fb2)) fx2 (by decide) (by decide), cmz fb2 fx1 (by decide) (by decide), dvz (fb2.mul fx1) (by decide) d0, hq⟩
theorem tot_pre : ∀ {l : List (Int × Int)}, (∀ x ∈ l, 1 ≤ x.2 ∧ ZF 8 x) → ∀ (f : Int × Int) (m : Nat), 0 < f.2 → ZF m f → 0 < (l.foldl (fun t x => addF t x) f).2 ∧ ZF (m + 9 * l.length) (l.foldl (fun t x => addF t x) f)
  | [], _, f, m, h, hm => ⟨h, hm⟩
  | x :: l, hx, f, m, h, hm => by
    have hx1 := hx x List.mem_cons_self
    have hp : 0 < f.2 * x.2 := Int.mul_pos h (by omega)
    have := tot_pre (l := l) (fun y hy => hx y (List.mem_cons_of_mem _ hy)) (addF f x) (m + 9) (frac_pos hp).2 (hm.add hx1.2)
    refine ⟨this.1, this.2.mono ?_⟩
    rw [List.length_cons]
    omega
theorem s_check_shares {Φ : PhiT} (h_added : Φ 13 = C_added) (h_whole_of : Φ 14 = C_whole_of) (h_is_fraction : Φ 15 = C_is_fraction) (ds : List D) (Q : D → Prop) (E : Nat → Prop) (h : C_check_shares ds Q E) : ds.length = 1 ∧ wpS Φ exName b_check_shares (initE n_check_shares ds) (endF Q E) := by
  obtain ⟨l, rfl, hx, hl, hq, he⟩ := h
  refine ⟨rfl, ?_⟩
  simp only [wpS, wp, getV, getB, initE, endF, bindG, List.map_cons, List.map_nil, List.length_cons, List.length_nil, List.cons_append, List.nil_append, List.append_nil, List.getElem?_cons_zero, List.getElem?_cons_succ, List.set_cons_zero, List.set_cons_succ, partD, k_L, k_T, l_lenT, l_lenL, l_int, l_intB, l_abs, l_max2, l_max3, l_max4, l_min2, l_maxL, l_minL, l_sum, l_all, l_any, l_tupL, l_tupT, l_lisL, l_lisT, r_1, r_2, r_l, i_L, i_T, i_A, if_true, if_false, ite_true, ite_false, not_false_eq_true, not_true_eq_false, Bool.false_eq_true, ite_not, b_add, b_addT, b_addL, b_sub, b_subB, b_mul, b_mulT, b_mulL, b_fdiv, b_mod, b_pow, a_add, a_sub, a_mul, a_fdiv, c_lt, c_le, c_gt, c_ge, c_eqI, c_neI, c_eqB, c_neB, seqP, pysD, Option.map_some, List.replicate_zero, List.replicate_succ, Nat.zero_add, Nat.add_zero, Nat.reduceAdd, Nat.reduceSub, Nat.reduceLeDiff, decide_eq_true_eq, Bool.not_eq_true', decide_eq_false_iff_not, Nat.sub_self, Option.some.injEq, exists_eq_left', exists_eq_left, x_pick, f_pr, f_qd, f_prT, f_qdT, x_pr0, x_pr1, x_qd0, x_qd1, x_qd2, x_qd3, g_pr, g_qd, nl_pr, nl_qd, nl_I, nl_B, nl_N, l_pr, l_qd, l_prs, l_ti, l_li, c_eq_pr, c_ne_pr, c_eq_qd, c_ne_qd, i_pr, i_qd, i_prs, i_ti, i_li, true_and, and_true, sl0, sl1, sl2, sl3, sl4, sl5, sl6, sl7, sl8, sl9, sl10, sl11, sl12, sl13, sl14, mketa, wipe1, shE_cons, shE_nil, shS_sh, shS_ow, shS_none, eq_self, and_self, decide_true, decide_false, reduceCtorEq, false_and, and_false, true_implies, false_implies, implies_true, not_true_eq_false, Bool.not_true, Bool.not_false, Bool.true_and, Bool.false_and, Bool.and_true, Bool.and_false, Bool.or_true, Bool.true_or, Bool.or_false, Bool.false_or, Int.reduceLT, Int.reduceLE, Nat.reduceLT, h_added, h_whole_of, h_is_fraction, p_added, p_whole_of, p_is_fraction, b_check_shares, n_check_shares]
  rcases Decidable.em (1 ≤ l.length ∧ l.length ≤ 8) with hz | hz
  · rw [if_pos (by omega : (1 : Int) ≤ l.length), if_pos (by omega : (l.length : Int) ≤ 8)]
    have hS : l.length ≤ sizeLine := Nat.le_trans hl (by decide)
    refine compW_map (g := fun x => .bool (okF x && decide (0 < x.1))) hS ?_ ⟨_, boolsP_map _ _, ?_⟩
    · intro x hx K hK
      simp only [wpS, wp, getV, getB, initE, endF, bindG, List.map_cons, List.map_nil, List.length_cons, List.length_nil, List.cons_append, List.nil_append, List.append_nil, List.getElem?_cons_zero, List.getElem?_cons_succ, List.set_cons_zero, List.set_cons_succ, partD, k_L, k_T, l_lenT, l_lenL, l_int, l_intB, l_abs, l_max2, l_max3, l_max4, l_min2, l_maxL, l_minL, l_sum, l_all, l_any, l_tupL, l_tupT, l_lisL, l_lisT, r_1, r_2, r_l, i_L, i_T, i_A, if_true, if_false, ite_true, ite_false, not_false_eq_true, not_true_eq_false, Bool.false_eq_true, ite_not, b_add, b_addT, b_addL, b_sub, b_subB, b_mul, b_mulT, b_mulL, b_fdiv, b_mod, b_pow, a_add, a_sub, a_mul, a_fdiv, c_lt, c_le, c_gt, c_ge, c_eqI, c_neI, c_eqB, c_neB, seqP, pysD, Option.map_some, List.replicate_zero, List.replicate_succ, Nat.zero_add, Nat.add_zero, Nat.reduceAdd, Nat.reduceSub, Nat.reduceLeDiff, decide_eq_true_eq, Bool.not_eq_true', decide_eq_false_iff_not, Nat.sub_self, Option.some.injEq, exists_eq_left', exists_eq_left, x_pick, f_pr, f_qd, f_prT, f_qdT, x_pr0, x_pr1, x_qd0, x_qd1, x_qd2, x_qd3, g_pr, g_qd, nl_pr, nl_qd, nl_I, nl_B, nl_N, l_pr, l_qd, l_prs, l_ti, l_li, c_eq_pr, c_ne_pr, c_eq_qd, c_ne_qd, i_pr, i_qd, i_prs, i_ti, i_li, true_and, and_true, sl0, sl1, sl2, sl3, sl4, sl5, sl6, sl7, sl8, sl9, sl10, sl11, sl12, sl13, sl14, mketa, wipe1, shE_cons, shE_nil, shS_sh, shS_ow, shS_none, eq_self, and_self, decide_true, decide_false, reduceCtorEq, false_and, and_false, true_implies, false_implies, implies_true, not_true_eq_false, Bool.not_true, Bool.not_false, Bool.true_and, Bool.false_and, Bool.and_true, Bool.and_false, Bool.or_true, Bool.true_or, Bool.or_false, Bool.false_or, Int.reduceLT, Int.reduceLE, Nat.reduceLT, h_added, h_whole_of, h_is_fraction, p_added, p_whole_of, p_is_fraction, wipeE]
      rcases ho : okF x with _ | _
      · rw [ho] at hK
        exact hK
      · rw [ho] at hK
        exact hK
    · have ea : (l.map fun x => okF x && decide (0 < x.1)).all id = l.all fun x => okF x && decide (0 < x.1) := by rw [List.all_map]; rfl
      rw [ea]
      rcases hA : l.all fun x => okF x && decide (0 < x.1) with _ | _
      · have : okSh l = false := by unfold okSh; rw [hA, Bool.and_false, Bool.false_and]
        exact he this
      · have hB : ∀ x ∈ l, 1 ≤ x.2 ∧ ZF 8 x := fun x h => ⟨by
          have := (List.all_eq_true.mp hA) x h
          rw [Bool.and_eq_true] at this
          unfold okF at this
          have := this.1
          rw [Bool.and_eq_true] at this
          exact of_decide_eq_true this.1, hx x h⟩
        refine forW_fold (g := fun t x => addF t x) (b0 := ((0, 1) : Int × Int)) (fun t ρ => ∃ s2, ρ = [some (.sh (.py (prs l))), some (.sh (.py (pr t))), s2]) ⟨_, rfl⟩ ?_ ?_
        · rintro l1 x l2 ρ K e ⟨s2, rfl⟩ hK
          have hp := tot_pre (l := l1) (fun y hy => hB y (by rw [e]; exact List.mem_append_left _ hy)) (0, 1) 1 (by decide) ⟨by decide, by decide⟩
          have hx1 := hB x (by rw [e]; exact List.mem_append_right _ List.mem_cons_self)
          have hl1 : l1.length ≤ 8 := by
            have := congrArg List.length e
            rw [List.length_append] at this
            omega
          generalize List.foldl (fun t x => addF t x) (0, 1) l1 = f at hp hK ⊢
          simp only [wpS, wp, getV, getB, initE, endF, bindG, List.map_cons, List.map_nil, List.length_cons, List.length_nil, List.cons_append, List.nil_append, List.append_nil, List.getElem?_cons_zero, List.getElem?_cons_succ, List.set_cons_zero, List.set_cons_succ, partD, k_L, k_T, l_lenT, l_lenL, l_int, l_intB, l_abs, l_max2, l_max3, l_max4, l_min2, l_maxL, l_minL, l_sum, l_all, l_any, l_tupL, l_tupT, l_lisL, l_lisT, r_1, r_2, r_l, i_L, i_T, i_A, if_true, if_false, ite_true, ite_false, not_false_eq_true, not_true_eq_false, Bool.false_eq_true, ite_not, b_add, b_addT, b_addL, b_sub, b_subB, b_mul, b_mulT, b_mulL, b_fdiv, b_mod, b_pow, a_add, a_sub, a_mul, a_fdiv, c_lt, c_le, c_gt, c_ge, c_eqI, c_neI, c_eqB, c_neB, seqP, pysD, Option.map_some, List.replicate_zero, List.replicate_succ, Nat.zero_add, Nat.add_zero, Nat.reduceAdd, Nat.reduceSub, Nat.reduceLeDiff, decide_eq_true_eq, Bool.not_eq_true', decide_eq_false_iff_not, Nat.sub_self, Option.some.injEq, exists_eq_left', exists_eq_left, x_pick, f_pr, f_qd, f_prT, f_qdT, x_pr0, x_pr1, x_qd0, x_qd1, x_qd2, x_qd3, g_pr, g_qd, nl_pr, nl_qd, nl_I, nl_B, nl_N, l_pr, l_qd, l_prs, l_ti, l_li, c_eq_pr, c_ne_pr, c_eq_qd, c_ne_qd, i_pr, i_qd, i_prs, i_ti, i_li, true_and, and_true, sl0, sl1, sl2, sl3, sl4, sl5, sl6, sl7, sl8, sl9, sl10, sl11, sl12, sl13, sl14, mketa, wipe1, shE_cons, shE_nil, shS_sh, shS_ow, shS_none, eq_self, and_self, decide_true, decide_false, reduceCtorEq, false_and, and_false, true_implies, false_implies, implies_true, not_true_eq_false, Bool.not_true, Bool.not_false, Bool.true_and, Bool.false_and, Bool.and_true, Bool.and_false, Bool.or_true, Bool.true_or, Bool.or_false, Bool.false_or, Int.reduceLT, Int.reduceLE, Nat.reduceLT, h_added, h_whole_of, h_is_fraction, p_added, p_whole_of, p_is_fraction]
          exact ⟨hp.2.mono (by omega), hx1.2.mono (by decide), fun z => absurd z (Int.mul_ne_zero (by omega) (by omega)), fun _ => hK _ ⟨_, rfl⟩⟩
        · rintro ρ ⟨s2, rfl⟩
          have ht : List.foldl (fun t x => addF t x) (0, 1) l = tot l := rfl
          rw [ht]
          simp only [wpS, wp, getV, getB, initE, endF, bindG, List.map_cons, List.map_nil, List.length_cons, List.length_nil, List.cons_append, List.nil_append, List.append_nil, List.getElem?_cons_zero, List.getElem?_cons_succ, List.set_cons_zero, List.set_cons_succ, partD, k_L, k_T, l_lenT, l_lenL, l_int, l_intB, l_abs, l_max2, l_max3, l_max4, l_min2, l_maxL, l_minL, l_sum, l_all, l_any, l_tupL, l_tupT, l_lisL, l_lisT, r_1, r_2, r_l, i_L, i_T, i_A, if_true, if_false, ite_true, ite_false, not_false_eq_true, not_true_eq_false, Bool.false_eq_true, ite_not, b_add, b_addT, b_addL, b_sub, b_subB, b_mul, b_mulT, b_mulL, b_fdiv, b_mod, b_pow, a_add, a_sub, a_mul, a_fdiv, c_lt, c_le, c_gt, c_ge, c_eqI, c_neI, c_eqB, c_neB, seqP, pysD, Option.map_some, List.replicate_zero, List.replicate_succ, Nat.zero_add, Nat.add_zero, Nat.reduceAdd, Nat.reduceSub, Nat.reduceLeDiff, decide_eq_true_eq, Bool.not_eq_true', decide_eq_false_iff_not, Nat.sub_self, Option.some.injEq, exists_eq_left', exists_eq_left, x_pick, f_pr, f_qd, f_prT, f_qdT, x_pr0, x_pr1, x_qd0, x_qd1, x_qd2, x_qd3, g_pr, g_qd, nl_pr, nl_qd, nl_I, nl_B, nl_N, l_pr, l_qd, l_prs, l_ti, l_li, c_eq_pr, c_ne_pr, c_eq_qd, c_ne_qd, i_pr, i_qd, i_prs, i_ti, i_li, true_and, and_true, sl0, sl1, sl2, sl3, sl4, sl5, sl6, sl7, sl8, sl9, sl10, sl11, sl12, sl13, sl14, mketa, wipe1, shE_cons, shE_nil, shS_sh, shS_ow, shS_none, eq_self, and_self, decide_true, decide_false, reduceCtorEq, false_and, and_false, true_implies, false_implies, implies_true, not_true_eq_false, Bool.not_true, Bool.not_false, Bool.true_and, Bool.false_and, Bool.and_true, Bool.and_false, Bool.or_true, Bool.true_or, Bool.or_false, Bool.false_or, Int.reduceLT, Int.reduceLE, Nat.reduceLT, h_added, h_whole_of, h_is_fraction, p_added, p_whole_of, p_is_fraction]
          have hO : okSh l = (decide (tot l = (1, 1)) && decide (wf l ≤ 60)) := by
            unfold okSh
            rw [hA, decide_eq_true hz, Bool.true_and, Bool.true_and]
          rw [hO] at hq he
          split
          · rename_i h
            rw [decide_eq_true h, Bool.true_and] at hq he
            refine ⟨hz.2, hB, ?_⟩
            split
            · exact he (decide_eq_false (by omega))
            · exact hq (decide_eq_true (by omega))
          · rename_i h
            rw [decide_eq_false h, Bool.false_and] at he
            exact he rfl
  · have : okSh l = false := by unfold okSh; rw [decide_eq_false hz, Bool.false_and, Bool.false_and]
    rcases Decidable.em (1 ≤ l.length) with h1 | h1
    · rw [if_pos (by omega : (1 : Int) ≤ l.length), if_neg (by omega : ¬ (l.length : Int) ≤ 8)]
      exact he this
    · rw [if_neg (by omega : ¬ (1 : Int) ≤ l.length)]
      exact he this
end Y

/-! part SU -/
set_option Elab.async false
set_option linter.all false
set_option maxRecDepth 100000
set_option maxHeartbeats 2000000
set_option exponentiation.threshold 5000
/-! SU: turns: what the law draws. -/
namespace Y
open PySem PySem.Spec
theorem le_sum : ∀ {ts : List Int}, (∀ t ∈ ts, 1 ≤ t) → ∀ t ∈ ts, t ≤ ts.sum
  | [], _, t, h => nomatch h
  | x :: l, hx, t, h => by
    have hp : ∀ {l : List Int}, (∀ t ∈ l, 1 ≤ t) → 0 ≤ l.sum := fun {l} => by
      induction l with
      | nil => exact fun _ => Int.le_refl _
      | cons y l ih =>
        intro hy
        have h1 := hy y List.mem_cons_self
        have h2 := ih fun t ht => hy t (List.mem_cons_of_mem _ ht)
        rw [List.sum_cons]
        omega
    rw [List.sum_cons]
    rcases List.mem_cons.mp h with rfl | h
    · have := hp fun t ht => hx t (List.mem_cons_of_mem _ ht)
      omega
    · have := le_sum (fun t ht => hx t (List.mem_cons_of_mem _ ht)) t h
      have := hx x List.mem_cons_self
      omega
theorem good_mem {l : List (Int × Int)} (h : Good l) : ∀ x ∈ l, (1 ≤ x.1 ∧ x.1 ≤ 60) ∧ (1 ≤ x.2 ∧ x.2 ≤ 60) ∧ Int.gcd x.1 x.2 = 1 := by
  obtain ⟨w, ts, hw, hw2, ht, hs, hl, hl2, rfl⟩ := h
  intro x hx
  obtain ⟨t, hm, rfl⟩ := List.mem_map.mp hx
  have h1 := ht t hm
  have h2 : t ≤ w := by rw [← hs]; exact le_sum ht t hm
  have gp := gcd_pos (a := t) (b := w) (by omega)
  have e1 : (red t w).1 = t / Int.gcd t w := Int.fdiv_eq_ediv_of_nonneg _ (by omega)
  have e2 : (red t w).2 = w / Int.gcd t w := Int.fdiv_eq_ediv_of_nonneg _ (by omega)
  rw [e1, e2]
  refine ⟨⟨Int.ediv_pos_of_pos_of_dvd (by omega) (by omega) (Int.gcd_dvd_left _ _), ?_⟩, ⟨Int.ediv_pos_of_pos_of_dvd (by omega) (by omega) (Int.gcd_dvd_right _ _), ?_⟩, Int.gcd_ediv_gcd_ediv_gcd gp⟩
  · exact Int.le_trans (Int.ediv_le_self _ (by omega)) (by omega)
  · exact Int.le_trans (Int.ediv_le_self _ (by omega)) (by omega)
theorem good_len {l : List (Int × Int)} (h : Good l) : 1 ≤ l.length ∧ l.length ≤ 8 := by
  obtain ⟨w, ts, hw, hw2, ht, hs, hl, hl2, rfl⟩ := h
  rw [List.length_map]
  exact ⟨hl, hl2⟩
theorem tot_fold : ∀ {w : Int} {ts : List Int}, 1 ≤ w → (∀ t ∈ ts, 1 ≤ t) → ∀ (f : Int × Int) (s : Int), 0 < f.2 → Int.gcd f.1 f.2 = 1 → f.1 * w = s * f.2 →
    let r := (ts.map fun t => red t w).foldl (fun t x => addF t x) f
    0 < r.2 ∧ Int.gcd r.1 r.2 = 1 ∧ r.1 * w = (s + ts.sum) * r.2
  | w, [], _, _, f, s, h1, h2, h3 => ⟨h1, h2, by rw [List.sum_nil, Int.add_zero]; exact h3⟩
  | w, t :: ts, hw, ht, f, s, h1, h2, h3 => by
    have gp := gcd_pos (a := t) (b := w) (by omega)
    have hr2 : 0 < (red t w).2 := by
      show 0 < w.fdiv _
      rw [Int.fdiv_eq_ediv_of_nonneg _ (by omega)]
      exact Int.ediv_pos_of_pos_of_dvd (by omega) (by omega) (Int.gcd_dvd_right _ _)
    have hr : (red t w).1 * w = t * (red t w).2 := by
      have d1 := Int.ediv_mul_cancel (Int.gcd_dvd_left t w)
      have d2 := Int.ediv_mul_cancel (Int.gcd_dvd_right t w)
      have e1 : (red t w).1 = t / Int.gcd t w := Int.fdiv_eq_ediv_of_nonneg _ (by omega)
      have e2 : (red t w).2 = w / Int.gcd t w := Int.fdiv_eq_ediv_of_nonneg _ (by omega)
      rw [e1, e2]
      generalize t / (Int.gcd t w : Int) = p at d1 ⊢
      generalize w / (Int.gcd t w : Int) = q at d2 ⊢
      rw [← d1, ← d2]
      generalize (Int.gcd (p * _) _ : Int) = z
      grind
    have hp : 0 < f.2 * (red t w).2 := Int.mul_pos h1 hr2
    have F := frac_pos (a := f.1 * (red t w).2 + (red t w).1 * f.2) hp
    have gq := gcd_pos (a := f.1 * (red t w).2 + (red t w).1 * f.2) (b := f.2 * (red t w).2) (by omega)
    rw [List.map_cons, List.foldl_cons, List.sum_cons]
    have := tot_fold (w := w) (ts := ts) hw (fun y hy => ht y (List.mem_cons_of_mem _ hy)) (frac (f.1 * (red t w).2 + (red t w).1 * f.2) (f.2 * (red t w).2)) (s + t) F.2 (by rw [F.1]; exact Int.gcd_ediv_gcd_ediv_gcd gq) ?_
    · rw [← Int.add_assoc]
      exact this
    · rw [F.1]
      have d1 := Int.ediv_mul_cancel (Int.gcd_dvd_left (f.1 * (red t w).2 + (red t w).1 * f.2) (f.2 * (red t w).2))
      have d2 := Int.ediv_mul_cancel (Int.gcd_dvd_right (f.1 * (red t w).2 + (red t w).1 * f.2) (f.2 * (red t w).2))
      generalize hg : (Int.gcd (f.1 * (red t w).2 + (red t w).1 * f.2) (f.2 * (red t w).2) : Int) = g at d1 d2 ⊢
      generalize (f.1 * (red t w).2 + (red t w).1 * f.2) / g = p at d1 ⊢
      generalize (f.2 * (red t w).2) / g = q at d2 ⊢
      have hg0 : 0 < g := by omega
      show p * w = (s + t) * q
      have : (p * w) * g = ((s + t) * q) * g := by
        have a1 : (p * w) * g = (p * g) * w := by grind
        have a2 : ((s + t) * q) * g = (s + t) * (q * g) := by grind
        rw [a1, a2, d1, d2]
        generalize (red t w).1 = u at hr ⊢
        generalize (red t w).2 = v at hr ⊢
        grind
      exact Int.eq_of_mul_eq_mul_right (by omega) this
theorem tot_good {l : List (Int × Int)} (h : Good l) : tot l = (1, 1) := by
  obtain ⟨w, ts, hw, hw2, ht, hs, hl, hl2, rfl⟩ := h
  have := tot_fold (w := w) hw ht (0, 1) 0 (by decide) (by decide) (by omega)
  have e : (ts.map fun t => red t w).foldl (fun t x => addF t x) (0, 1) = tot (ts.map fun t => red t w) := rfl
  simp only [e] at this
  obtain ⟨h1, h2, h3⟩ := this
  rw [hs, Int.zero_add, Int.mul_comm] at h3
  have h4 := Int.eq_of_mul_eq_mul_left (by omega) h3
  rw [h4, Int.gcd_self] at h2
  have : (tot (ts.map fun t => red t w)).2 = 1 := by omega
  exact Prod.ext (by rw [h4, this]) this
theorem wf_fold : ∀ {w : Int} {l : List (Int × Int)}, 1 ≤ w → (∀ x ∈ l, 1 ≤ x.2 ∧ x.2 ∣ w) → ∀ f : Int, 0 < f → f ∣ w → l.foldl (fun f x => f * (frac x.2 f).1) f ∣ w
  | w, [], _, _, f, _, h => h
  | w, x :: l, hw, hx, f, h0, h => by
    have h1 := hx x List.mem_cons_self
    have F := frac_pos (a := x.2) h0
    have gp := gcd_pos (a := x.2) (b := f) (by omega)
    have hp : 0 < x.2 / (Int.gcd x.2 f : Int) := Int.ediv_pos_of_pos_of_dvd (by omega) (by omega) (Int.gcd_dvd_left _ _)
    refine wf_fold hw (fun y hy => hx y (List.mem_cons_of_mem _ hy)) _ ?_ ?_
    · show 0 < f * (frac x.2 f).1
      rw [F.1]
      exact Int.mul_pos h0 hp
    · show f * (frac x.2 f).1 ∣ w
      rw [F.1]
      show f * (x.2 / _) ∣ w
      have e : f * (x.2 / (Int.gcd x.2 f : Int)) = (Int.lcm x.2 f : Int) := by
        have := Int.gcd_mul_lcm x.2 f
        have d1 := Int.ediv_mul_cancel (Int.gcd_dvd_left x.2 f)
        have hz : ((Int.gcd x.2 f * Int.lcm x.2 f : Nat) : Int) = x.2 * f := by
          rw [this]
          have a1 : (x.2.natAbs : Int) = x.2 := by omega
          have a2 : (f.natAbs : Int) = f := by omega
          rw [Int.natCast_mul, a1, a2]
        rw [Int.natCast_mul] at hz
        have : (f * (x.2 / (Int.gcd x.2 f : Int))) * (Int.gcd x.2 f : Int) = (Int.lcm x.2 f : Int) * (Int.gcd x.2 f : Int) := by
          rw [Int.mul_assoc, d1, Int.mul_comm (Int.lcm x.2 f : Int), hz, Int.mul_comm]
        exact Int.eq_of_mul_eq_mul_right (by omega) this
      rw [e]
      exact Int.coe_lcm_dvd h1.2 h
theorem ok_good {l : List (Int × Int)} (h : Good l) : okSh l = true := by
  have hm := good_mem h
  have hl := good_len h
  have ht := tot_good h
  have hw : wf l ≤ 60 := by
    obtain ⟨w, ts, hw, hw2, htt, hs, hl, hl2, rfl⟩ := h
    have := wf_fold (w := w) hw (l := ts.map fun t => red t w) (fun x hx => ⟨(hm x hx).2.1.1, by
      obtain ⟨t, _, rfl⟩ := List.mem_map.mp hx
      have e2 : (red t w).2 = w / Int.gcd t w := Int.fdiv_eq_ediv_of_nonneg _ (by omega)
      rw [e2]
      exact Int.ediv_dvd_of_dvd (Int.gcd_dvd_right _ _)⟩) 1 (by decide) (Int.one_dvd _)
    exact Int.le_trans (Int.le_of_dvd (by omega) this) hw2
  unfold okSh
  rw [decide_eq_true hl, ht, decide_eq_true rfl, decide_eq_true hw, Bool.true_and, Bool.and_true, Bool.and_true]
  rw [List.all_eq_true]
  intro x hx
  have := hm x hx
  unfold okF
  rw [decide_eq_true this.2.1.1, decide_eq_true this.2.2, decide_eq_true (by omega), Bool.and_self, Bool.and_self]
theorem ok_bound {b : Int × Int} (h : BdOk b) : okF b = true := by
  unfold okF
  rw [decide_eq_true h.2.1, decide_eq_true h.2.2.2.2, Bool.and_self]
theorem s_law_shares {Φ : PhiT} (h_law_next : Φ 1 = C_law_next) (h_law_reduced : Φ 3 = C_law_reduced) (ds : List D) (Q : D → Prop) (E : Nat → Prop) (h : C_law_shares ds Q E) : ds.length = 1 ∧ wpS Φ exName b_law_shares (initE n_law_shares ds) (endF Q E) := by
  obtain ⟨rfl, hq⟩ := h
  refine ⟨rfl, ?_⟩
  simp only [wpS, wp, getV, getB, initE, endF, bindG, List.map_cons, List.map_nil, List.length_cons, List.length_nil, List.cons_append, List.nil_append, List.append_nil, List.getElem?_cons_zero, List.getElem?_cons_succ, List.set_cons_zero, List.set_cons_succ, partD, k_L, k_T, l_lenT, l_lenL, l_int, l_intB, l_abs, l_max2, l_max3, l_max4, l_min2, l_maxL, l_minL, l_sum, l_all, l_any, l_tupL, l_tupT, l_lisL, l_lisT, r_1, r_2, r_l, i_L, i_T, i_A, if_true, if_false, ite_true, ite_false, not_false_eq_true, not_true_eq_false, Bool.false_eq_true, ite_not, b_add, b_addT, b_addL, b_sub, b_subB, b_mul, b_mulT, b_mulL, b_fdiv, b_mod, b_pow, a_add, a_sub, a_mul, a_fdiv, c_lt, c_le, c_gt, c_ge, c_eqI, c_neI, c_eqB, c_neB, seqP, pysD, Option.map_some, List.replicate_zero, List.replicate_succ, Nat.zero_add, Nat.add_zero, Nat.reduceAdd, Nat.reduceSub, Nat.reduceLeDiff, decide_eq_true_eq, Bool.not_eq_true', decide_eq_false_iff_not, Nat.sub_self, Option.some.injEq, exists_eq_left', exists_eq_left, x_pick, f_pr, f_qd, f_prT, f_qdT, x_pr0, x_pr1, x_qd0, x_qd1, x_qd2, x_qd3, g_pr, g_qd, nl_pr, nl_qd, nl_I, nl_B, nl_N, l_pr, l_qd, l_prs, l_ti, l_li, c_eq_pr, c_ne_pr, c_eq_qd, c_ne_qd, i_pr, i_qd, i_prs, i_ti, i_li, true_and, and_true, sl0, sl1, sl2, sl3, sl4, sl5, sl6, sl7, sl8, sl9, sl10, sl11, sl12, sl13, sl14, mketa, wipe1, shE_cons, shE_nil, shS_sh, shS_ow, shS_none, eq_self, and_self, decide_true, decide_false, reduceCtorEq, false_and, and_false, true_implies, false_implies, implies_true, not_true_eq_false, Bool.not_true, Bool.not_false, Bool.true_and, Bool.false_and, Bool.and_true, Bool.and_false, Bool.or_true, Bool.true_or, Bool.or_false, Bool.false_or, Int.reduceLT, Int.reduceLE, Nat.reduceLT, h_law_next, h_law_reduced, p_law_next, p_law_reduced, b_law_shares, n_law_shares]
  refine fun x hx hx2 y hy hy2 z hz hz2 => ?_
  refine ixL_any hz hz2 fun p hp => ?_
  have hp : p = .int 0 ∨ p = .int 1 ∨ p = .int 2 ∨ p = .int 3 := by
    simp only [List.mem_cons, List.not_mem_nil, or_false] at hp
    rcases hp with rfl | rfl | rfl | rfl | rfl | rfl | rfl <;> simp
  have hW : ∃ w : Int, (1 ≤ w ∧ w ≤ 60) ∧ ∀ Q : D → Prop, Q (.I w) → ixD (D.L [.int (1 + x), .int (1 + y), .int 60, .int 30]) (.py p) Q := by
    rcases hp with rfl | rfl | rfl | rfl
    · exact ⟨1 + x, ⟨by omega, by omega⟩, fun Q h => ixL_of (by decide) rfl h⟩
    · exact ⟨1 + y, ⟨by omega, by omega⟩, fun Q h => ixL_of (by decide) rfl h⟩
    · exact ⟨60, ⟨by omega, by omega⟩, fun Q h => ixL_of (by decide) rfl h⟩
    · exact ⟨30, ⟨by omega, by omega⟩, fun Q h => ixL_of (by decide) rfl h⟩
  obtain ⟨w, hw, hW⟩ := hW
  refine hW _ ?_
  refine fun n hn hn2 => ⟨⟨by omega, by omega⟩, ?_⟩
  refine forW_rule (fun i ρ => ∃ (L : Int) (ts : List Int) (s4 s6 : Option Sl), ρ = [some (.sh .st), some (.sh (.I w)), some (.sh (.I L)), some (.ow (ts.map PyData.int)), s4, none, s6] ∧ 1 ≤ L ∧ (∀ t ∈ ts, 1 ≤ t) ∧ ts.sum + L = w ∧ ts.length ≤ i) ⟨w, [], _, _, rfl, hw.1, (fun t h => nomatch h), by rw [List.sum_nil]; omega, Nat.le_refl _⟩ ?_ ?_
  · rintro i d ρ K hd ⟨L, ts, s4, s6, rfl, hL, ht, hs, hl⟩ hK
    have hi : i < 7 := by
      have hlen : (rangeD 0 n).length = n.toNat := by unfold rangeD; rw [List.length_map, List.length_range]; omega
      rcases Nat.lt_or_ge i (rangeD 0 n).length with q | q
      · omega
      · rw [List.getElem?_eq_none q] at hd; exact nomatch hd
    simp only [wpS, wp, getV, getB, initE, endF, bindG, List.map_cons, List.map_nil, List.length_cons, List.length_nil, List.cons_append, List.nil_append, List.append_nil, List.getElem?_cons_zero, List.getElem?_cons_succ, List.set_cons_zero, List.set_cons_succ, partD, k_L, k_T, l_lenT, l_lenL, l_int, l_intB, l_abs, l_max2, l_max3, l_max4, l_min2, l_maxL, l_minL, l_sum, l_all, l_any, l_tupL, l_tupT, l_lisL, l_lisT, r_1, r_2, r_l, i_L, i_T, i_A, if_true, if_false, ite_true, ite_false, not_false_eq_true, not_true_eq_false, Bool.false_eq_true, ite_not, b_add, b_addT, b_addL, b_sub, b_subB, b_mul, b_mulT, b_mulL, b_fdiv, b_mod, b_pow, a_add, a_sub, a_mul, a_fdiv, c_lt, c_le, c_gt, c_ge, c_eqI, c_neI, c_eqB, c_neB, seqP, pysD, Option.map_some, List.replicate_zero, List.replicate_succ, Nat.zero_add, Nat.add_zero, Nat.reduceAdd, Nat.reduceSub, Nat.reduceLeDiff, decide_eq_true_eq, Bool.not_eq_true', decide_eq_false_iff_not, Nat.sub_self, Option.some.injEq, exists_eq_left', exists_eq_left, x_pick, f_pr, f_qd, f_prT, f_qdT, x_pr0, x_pr1, x_qd0, x_qd1, x_qd2, x_qd3, g_pr, g_qd, nl_pr, nl_qd, nl_I, nl_B, nl_N, l_pr, l_qd, l_prs, l_ti, l_li, c_eq_pr, c_ne_pr, c_eq_qd, c_ne_qd, i_pr, i_qd, i_prs, i_ti, i_li, true_and, and_true, sl0, sl1, sl2, sl3, sl4, sl5, sl6, sl7, sl8, sl9, sl10, sl11, sl12, sl13, sl14, mketa, wipe1, shE_cons, shE_nil, shS_sh, shS_ow, shS_none, eq_self, and_self, decide_true, decide_false, reduceCtorEq, false_and, and_false, true_implies, false_implies, implies_true, not_true_eq_false, Bool.not_true, Bool.not_false, Bool.true_and, Bool.false_and, Bool.and_true, Bool.and_false, Bool.or_true, Bool.true_or, Bool.or_false, Bool.false_or, Int.reduceLT, Int.reduceLE, Nat.reduceLT, h_law_next, h_law_reduced, p_law_next, p_law_reduced]
    split
    · rename_i h1
      refine ⟨by omega, fun a ha ha2 => ⟨⟨by omega, lg (by decide +kernel)⟩, by omega, fun b hb hb2 c hc hc2 => ?_⟩⟩
      have h3 : L.fdiv 3 = L / 3 := Int.fdiv_eq_ediv_of_nonneg _ (by decide)
      rw [h3] at hb2
      refine ixL_any hc (by simp only [List.length_cons, List.length_nil]; omega) fun p hp => ?_
      simp only [List.mem_cons, List.not_mem_nil, or_false] at hp
      have hS : (7 : Nat) < sizeLine := by decide
      rcases hp with rfl | rfl
      · simp only [wpS, wp, getV, getB, initE, endF, bindG, List.map_cons, List.map_nil, List.length_cons, List.length_nil, List.cons_append, List.nil_append, List.append_nil, List.getElem?_cons_zero, List.getElem?_cons_succ, List.set_cons_zero, List.set_cons_succ, partD, k_L, k_T, l_lenT, l_lenL, l_int, l_intB, l_abs, l_max2, l_max3, l_max4, l_min2, l_maxL, l_minL, l_sum, l_all, l_any, l_tupL, l_tupT, l_lisL, l_lisT, r_1, r_2, r_l, i_L, i_T, i_A, if_true, if_false, ite_true, ite_false, not_false_eq_true, not_true_eq_false, Bool.false_eq_true, ite_not, b_add, b_addT, b_addL, b_sub, b_subB, b_mul, b_mulT, b_mulL, b_fdiv, b_mod, b_pow, a_add, a_sub, a_mul, a_fdiv, c_lt, c_le, c_gt, c_ge, c_eqI, c_neI, c_eqB, c_neB, seqP, pysD, Option.map_some, List.replicate_zero, List.replicate_succ, Nat.zero_add, Nat.add_zero, Nat.reduceAdd, Nat.reduceSub, Nat.reduceLeDiff, decide_eq_true_eq, Bool.not_eq_true', decide_eq_false_iff_not, Nat.sub_self, Option.some.injEq, exists_eq_left', exists_eq_left, x_pick, f_pr, f_qd, f_prT, f_qdT, x_pr0, x_pr1, x_qd0, x_qd1, x_qd2, x_qd3, g_pr, g_qd, nl_pr, nl_qd, nl_I, nl_B, nl_N, l_pr, l_qd, l_prs, l_ti, l_li, c_eq_pr, c_ne_pr, c_eq_qd, c_ne_qd, i_pr, i_qd, i_prs, i_ti, i_li, true_and, and_true, sl0, sl1, sl2, sl3, sl4, sl5, sl6, sl7, sl8, sl9, sl10, sl11, sl12, sl13, sl14, mketa, wipe1, shE_cons, shE_nil, shS_sh, shS_ow, shS_none, eq_self, and_self, decide_true, decide_false, reduceCtorEq, false_and, and_false, true_implies, false_implies, implies_true, not_true_eq_false, Bool.not_true, Bool.not_false, Bool.true_and, Bool.false_and, Bool.and_true, Bool.and_false, Bool.or_true, Bool.true_or, Bool.or_false, Bool.false_or, Int.reduceLT, Int.reduceLE, Nat.reduceLT, h_law_next, h_law_reduced, p_law_next, p_law_reduced, List.length_map]
        refine ⟨by omega, hK _ ⟨L - (1 + a), ts ++ [1 + a], _, _, by rw [List.map_append]; rfl, by omega, ?_, by rw [List.sum_append, List.sum_cons, List.sum_nil]; omega, by rw [List.length_append]; exact Nat.succ_le_succ hl⟩⟩
        intro t h
        rcases List.mem_append.mp h with h | h
        · exact ht t h
        · rw [List.mem_singleton.mp h]; omega
      · simp only [wpS, wp, getV, getB, initE, endF, bindG, List.map_cons, List.map_nil, List.length_cons, List.length_nil, List.cons_append, List.nil_append, List.append_nil, List.getElem?_cons_zero, List.getElem?_cons_succ, List.set_cons_zero, List.set_cons_succ, partD, k_L, k_T, l_lenT, l_lenL, l_int, l_intB, l_abs, l_max2, l_max3, l_max4, l_min2, l_maxL, l_minL, l_sum, l_all, l_any, l_tupL, l_tupT, l_lisL, l_lisT, r_1, r_2, r_l, i_L, i_T, i_A, if_true, if_false, ite_true, ite_false, not_false_eq_true, not_true_eq_false, Bool.false_eq_true, ite_not, b_add, b_addT, b_addL, b_sub, b_subB, b_mul, b_mulT, b_mulL, b_fdiv, b_mod, b_pow, a_add, a_sub, a_mul, a_fdiv, c_lt, c_le, c_gt, c_ge, c_eqI, c_neI, c_eqB, c_neB, seqP, pysD, Option.map_some, List.replicate_zero, List.replicate_succ, Nat.zero_add, Nat.add_zero, Nat.reduceAdd, Nat.reduceSub, Nat.reduceLeDiff, decide_eq_true_eq, Bool.not_eq_true', decide_eq_false_iff_not, Nat.sub_self, Option.some.injEq, exists_eq_left', exists_eq_left, x_pick, f_pr, f_qd, f_prT, f_qdT, x_pr0, x_pr1, x_qd0, x_qd1, x_qd2, x_qd3, g_pr, g_qd, nl_pr, nl_qd, nl_I, nl_B, nl_N, l_pr, l_qd, l_prs, l_ti, l_li, c_eq_pr, c_ne_pr, c_eq_qd, c_ne_qd, i_pr, i_qd, i_prs, i_ti, i_li, true_and, and_true, sl0, sl1, sl2, sl3, sl4, sl5, sl6, sl7, sl8, sl9, sl10, sl11, sl12, sl13, sl14, mketa, wipe1, shE_cons, shE_nil, shS_sh, shS_ow, shS_none, eq_self, and_self, decide_true, decide_false, reduceCtorEq, false_and, and_false, true_implies, false_implies, implies_true, not_true_eq_false, Bool.not_true, Bool.not_false, Bool.true_and, Bool.false_and, Bool.and_true, Bool.and_false, Bool.or_true, Bool.true_or, Bool.or_false, Bool.false_or, Int.reduceLT, Int.reduceLE, Nat.reduceLT, h_law_next, h_law_reduced, p_law_next, p_law_reduced, List.length_map]
        refine ⟨by omega, hK _ ⟨L - (1 + b), ts ++ [1 + b], _, _, by rw [List.map_append]; rfl, by omega, ?_, by rw [List.sum_append, List.sum_cons, List.sum_nil]; omega, by rw [List.length_append]; exact Nat.succ_le_succ hl⟩⟩
        intro t h
        rcases List.mem_append.mp h with h | h
        · exact ht t h
        · rw [List.mem_singleton.mp h]; omega
    · exact hK _ ⟨L, ts, _, _, rfl, hL, ht, hs, by omega⟩
  · rintro ρ ⟨L, ts, s4, s6, rfl, hL, ht, hs, hl⟩
    have hn7 : (rangeD 0 n).length ≤ 7 := by unfold rangeD; rw [List.length_map, List.length_range]; omega
    simp only [wpS, wp, getV, getB, initE, endF, bindG, List.map_cons, List.map_nil, List.length_cons, List.length_nil, List.cons_append, List.nil_append, List.append_nil, List.getElem?_cons_zero, List.getElem?_cons_succ, List.set_cons_zero, List.set_cons_succ, partD, k_L, k_T, l_lenT, l_lenL, l_int, l_intB, l_abs, l_max2, l_max3, l_max4, l_min2, l_maxL, l_minL, l_sum, l_all, l_any, l_tupL, l_tupT, l_lisL, l_lisT, r_1, r_2, r_l, i_L, i_T, i_A, if_true, if_false, ite_true, ite_false, not_false_eq_true, not_true_eq_false, Bool.false_eq_true, ite_not, b_add, b_addT, b_addL, b_sub, b_subB, b_mul, b_mulT, b_mulL, b_fdiv, b_mod, b_pow, a_add, a_sub, a_mul, a_fdiv, c_lt, c_le, c_gt, c_ge, c_eqI, c_neI, c_eqB, c_neB, seqP, pysD, Option.map_some, List.replicate_zero, List.replicate_succ, Nat.zero_add, Nat.add_zero, Nat.reduceAdd, Nat.reduceSub, Nat.reduceLeDiff, decide_eq_true_eq, Bool.not_eq_true', decide_eq_false_iff_not, Nat.sub_self, Option.some.injEq, exists_eq_left', exists_eq_left, x_pick, f_pr, f_qd, f_prT, f_qdT, x_pr0, x_pr1, x_qd0, x_qd1, x_qd2, x_qd3, g_pr, g_qd, nl_pr, nl_qd, nl_I, nl_B, nl_N, l_pr, l_qd, l_prs, l_ti, l_li, c_eq_pr, c_ne_pr, c_eq_qd, c_ne_qd, i_pr, i_qd, i_prs, i_ti, i_li, true_and, and_true, sl0, sl1, sl2, sl3, sl4, sl5, sl6, sl7, sl8, sl9, sl10, sl11, sl12, sl13, sl14, mketa, wipe1, shE_cons, shE_nil, shS_sh, shS_ow, shS_none, eq_self, and_self, decide_true, decide_false, reduceCtorEq, false_and, and_false, true_implies, false_implies, implies_true, not_true_eq_false, Bool.not_true, Bool.not_false, Bool.true_and, Bool.false_and, Bool.and_true, Bool.and_false, Bool.or_true, Bool.true_or, Bool.or_false, Bool.false_or, Int.reduceLT, Int.reduceLE, Nat.reduceLT, h_law_next, h_law_reduced, p_law_next, p_law_reduced, List.length_map]
    have eU : List.map PyData.int ts ++ [PyData.int L] = (ts ++ [L]).map PyData.int := by rw [List.map_append]; rfl
    rw [eU]
    have hu : ∀ t ∈ ts ++ [L], 1 ≤ t := by
      intro t h
      rcases List.mem_append.mp h with h | h
      · exact ht t h
      · rw [List.mem_singleton.mp h]; exact hL
    have hus : (ts ++ [L]).sum = w := by rw [List.sum_append, List.sum_cons, List.sum_nil]; omega
    have hul : (ts ++ [L]).length = ts.length + 1 := by rw [List.length_append]; rfl
    generalize ts ++ [L] = us at hu hus hul ⊢
    have hS : (8 : Nat) < sizeLine := by decide
    refine ⟨by omega, by rw [List.length_map]; omega, fun v hv hv2 => ?_⟩
    rw [List.length_map] at hv2
    have hv3 : v.toNat ≤ (us.map PyData.int).length := by rw [List.length_map]; omega
    rw [cut_from hv hv3, cut_to hv hv3]
    have eC : (us.map PyData.int).drop v.toNat ++ (us.map PyData.int).take v.toNat = (us.drop v.toNat ++ us.take v.toNat).map PyData.int := by rw [List.map_append, List.map_drop, List.map_take]
    have hcl : (us.drop v.toNat ++ us.take v.toNat).length = us.length := by rw [List.length_append, List.length_drop, List.length_take]; omega
    refine ⟨by rw [← List.length_append, eC, List.length_map, hcl]; omega, ?_⟩
    rw [eC]
    have hc : ∀ t ∈ us.drop v.toNat ++ us.take v.toNat, 1 ≤ t := by
      intro t h
      rcases List.mem_append.mp h with h | h
      · exact hu t (List.mem_of_mem_drop h)
      · exact hu t (List.mem_of_mem_take h)
    have hcs : (us.drop v.toNat ++ us.take v.toNat).sum = w := by
      rw [List.sum_append, Int.add_comm, ← List.sum_append, List.take_append_drop]
      exact hus
    generalize us.drop v.toNat ++ us.take v.toNat = cs at hc hcs hcl
    simp only [wpS, wp, getV, getB, initE, endF, bindG, List.map_cons, List.map_nil, List.length_cons, List.length_nil, List.cons_append, List.nil_append, List.append_nil, List.getElem?_cons_zero, List.getElem?_cons_succ, List.set_cons_zero, List.set_cons_succ, partD, k_L, k_T, l_lenT, l_lenL, l_int, l_intB, l_abs, l_max2, l_max3, l_max4, l_min2, l_maxL, l_minL, l_sum, l_all, l_any, l_tupL, l_tupT, l_lisL, l_lisT, r_1, r_2, r_l, i_L, i_T, i_A, if_true, if_false, ite_true, ite_false, not_false_eq_true, not_true_eq_false, Bool.false_eq_true, ite_not, b_add, b_addT, b_addL, b_sub, b_subB, b_mul, b_mulT, b_mulL, b_fdiv, b_mod, b_pow, a_add, a_sub, a_mul, a_fdiv, c_lt, c_le, c_gt, c_ge, c_eqI, c_neI, c_eqB, c_neB, seqP, pysD, Option.map_some, List.replicate_zero, List.replicate_succ, Nat.zero_add, Nat.add_zero, Nat.reduceAdd, Nat.reduceSub, Nat.reduceLeDiff, decide_eq_true_eq, Bool.not_eq_true', decide_eq_false_iff_not, Nat.sub_self, Option.some.injEq, exists_eq_left', exists_eq_left, x_pick, f_pr, f_qd, f_prT, f_qdT, x_pr0, x_pr1, x_qd0, x_qd1, x_qd2, x_qd3, g_pr, g_qd, nl_pr, nl_qd, nl_I, nl_B, nl_N, l_pr, l_qd, l_prs, l_ti, l_li, c_eq_pr, c_ne_pr, c_eq_qd, c_ne_qd, i_pr, i_qd, i_prs, i_ti, i_li, true_and, and_true, sl0, sl1, sl2, sl3, sl4, sl5, sl6, sl7, sl8, sl9, sl10, sl11, sl12, sl13, sl14, mketa, wipe1, shE_cons, shE_nil, shS_sh, shS_ow, shS_none, eq_self, and_self, decide_true, decide_false, reduceCtorEq, false_and, and_false, true_implies, false_implies, implies_true, not_true_eq_false, Bool.not_true, Bool.not_false, Bool.true_and, Bool.false_and, Bool.and_true, Bool.and_false, Bool.or_true, Bool.true_or, Bool.or_false, Bool.false_or, Int.reduceLT, Int.reduceLE, Nat.reduceLT, h_law_next, h_law_reduced, p_law_next, p_law_reduced, List.map_map, wipeE]
    refine compW_map (f := D.py ∘ PyData.int) (g := fun t => pr (red t w)) (by omega) ?_ ?_
    · intro t hm K hK
      simp only [wpS, wp, getV, getB, initE, endF, bindG, List.map_cons, List.map_nil, List.length_cons, List.length_nil, List.cons_append, List.nil_append, List.append_nil, List.getElem?_cons_zero, List.getElem?_cons_succ, List.set_cons_zero, List.set_cons_succ, partD, k_L, k_T, l_lenT, l_lenL, l_int, l_intB, l_abs, l_max2, l_max3, l_max4, l_min2, l_maxL, l_minL, l_sum, l_all, l_any, l_tupL, l_tupT, l_lisL, l_lisT, r_1, r_2, r_l, i_L, i_T, i_A, if_true, if_false, ite_true, ite_false, not_false_eq_true, not_true_eq_false, Bool.false_eq_true, ite_not, b_add, b_addT, b_addL, b_sub, b_subB, b_mul, b_mulT, b_mulL, b_fdiv, b_mod, b_pow, a_add, a_sub, a_mul, a_fdiv, c_lt, c_le, c_gt, c_ge, c_eqI, c_neI, c_eqB, c_neB, seqP, pysD, Option.map_some, List.replicate_zero, List.replicate_succ, Nat.zero_add, Nat.add_zero, Nat.reduceAdd, Nat.reduceSub, Nat.reduceLeDiff, decide_eq_true_eq, Bool.not_eq_true', decide_eq_false_iff_not, Nat.sub_self, Option.some.injEq, exists_eq_left', exists_eq_left, x_pick, f_pr, f_qd, f_prT, f_qdT, x_pr0, x_pr1, x_qd0, x_qd1, x_qd2, x_qd3, g_pr, g_qd, nl_pr, nl_qd, nl_I, nl_B, nl_N, l_pr, l_qd, l_prs, l_ti, l_li, c_eq_pr, c_ne_pr, c_eq_qd, c_ne_qd, i_pr, i_qd, i_prs, i_ti, i_li, true_and, and_true, sl0, sl1, sl2, sl3, sl4, sl5, sl6, sl7, sl8, sl9, sl10, sl11, sl12, sl13, sl14, mketa, wipe1, shE_cons, shE_nil, shS_sh, shS_ow, shS_none, eq_self, and_self, decide_true, decide_false, reduceCtorEq, false_and, and_false, true_implies, false_implies, implies_true, not_true_eq_false, Bool.not_true, Bool.not_false, Bool.true_and, Bool.false_and, Bool.and_true, Bool.and_false, Bool.or_true, Bool.true_or, Bool.or_false, Bool.false_or, Int.reduceLT, Int.reduceLE, Nat.reduceLT, h_law_next, h_law_reduced, p_law_next, p_law_reduced, Function.comp]
      have : 100 ≤ bigI := by decide +kernel
      exact ⟨by omega, by omega, hK⟩
    · have := hq (cs.map fun t => red t w) ⟨w, cs, hw.1, hw.2, hc, hcs, by omega, by omega, rfl⟩
      unfold prs at this
      rw [List.map_map] at this
      exact this
theorem good_den {l : List (Int × Int)} (h : Good l) : ∃ w : Int, 1 ≤ w ∧ w ≤ 60 ∧ ∀ x ∈ l, 1 ≤ x.2 ∧ x.2 ∣ w := by
  have hm := good_mem h
  obtain ⟨w, ts, hw, hw2, ht, hs, hl, hl2, rfl⟩ := h
  refine ⟨w, hw, hw2, fun x hx => ⟨(hm x hx).2.1.1, ?_⟩⟩
  obtain ⟨t, _, rfl⟩ := List.mem_map.mp hx
  have e2 : (red t w).2 = w / Int.gcd t w := Int.fdiv_eq_ediv_of_nonneg _ (by omega)
  rw [e2]
  exact Int.ediv_dvd_of_dvd (Int.gcd_dvd_right _ _)
theorem wf_pos : ∀ {l : List (Int × Int)}, (∀ x ∈ l, 1 ≤ x.2) → ∀ f : Int, 0 < f → 0 < l.foldl (fun f x => f * (frac x.2 f).1) f
  | [], _, f, h => h
  | x :: l, hx, f, h => by
    have h1 := hx x List.mem_cons_self
    refine wf_pos (l := l) (fun y hy => hx y (List.mem_cons_of_mem _ hy)) _ (Int.mul_pos h ?_)
    rw [(frac_pos h).1]
    exact Int.ediv_pos_of_pos_of_dvd (by omega) (by omega) (Int.gcd_dvd_left _ _)
theorem good_pre {l l1 l2 : List (Int × Int)} (h : Good l) (e : l = l1 ++ l2) : 1 ≤ wf l1 ∧ wf l1 ≤ 60 := by
  obtain ⟨w, hw, hw2, hm⟩ := good_den h
  have hm1 : ∀ x ∈ l1, 1 ≤ x.2 ∧ x.2 ∣ w := fun x hx => hm x (by rw [e]; exact List.mem_append_left _ hx)
  have h1 := wf_fold hw hm1 1 (by decide) (Int.one_dvd _)
  exact ⟨wf_pos (fun x hx => (hm1 x hx).1) 1 (by decide), Int.le_trans (Int.le_of_dvd (by omega) h1) hw2⟩
theorem good_wf {l : List (Int × Int)} (h : Good l) : 1 ≤ wf l ∧ wf l ≤ 60 := good_pre (l2 := []) h (by rw [List.append_nil])
theorem wf_step {f b : Int} (hf : 0 < f) (hb : 0 < b) : (f * b).fdiv (Int.gcd f b) = f * (frac b f).1 := by
  have g0 := gcd_pos (a := f) (b := b) (by omega)
  rw [(frac_pos hf).1, Int.fdiv_eq_ediv_of_nonneg _ (by omega), Int.gcd_comm]
  exact Int.mul_ediv_assoc _ (Int.gcd_dvd_left _ _)
theorem s_law_whole {Φ : PhiT} (h_law_divisor : Φ 2 = C_law_divisor) (ds : List D) (Q : D → Prop) (E : Nat → Prop) (h : C_law_whole ds Q E) : ds.length = 1 ∧ wpS Φ exName b_law_whole (initE n_law_whole ds) (endF Q E) := by
  obtain ⟨l, rfl, hg, hq⟩ := h
  refine ⟨rfl, ?_⟩
  simp only [wpS, wp, getV, getB, initE, endF, bindG, List.map_cons, List.map_nil, List.length_cons, List.length_nil, List.cons_append, List.nil_append, List.append_nil, List.getElem?_cons_zero, List.getElem?_cons_succ, List.set_cons_zero, List.set_cons_succ, partD, k_L, k_T, l_lenT, l_lenL, l_int, l_intB, l_abs, l_max2, l_max3, l_max4, l_min2, l_maxL, l_minL, l_sum, l_all, l_any, l_tupL, l_tupT, l_lisL, l_lisT, r_1, r_2, r_l, i_L, i_T, i_A, if_true, if_false, ite_true, ite_false, not_false_eq_true, not_true_eq_false, Bool.false_eq_true, ite_not, b_add, b_addT, b_addL, b_sub, b_subB, b_mul, b_mulT, b_mulL, b_fdiv, b_mod, b_pow, a_add, a_sub, a_mul, a_fdiv, c_lt, c_le, c_gt, c_ge, c_eqI, c_neI, c_eqB, c_neB, seqP, pysD, Option.map_some, List.replicate_zero, List.replicate_succ, Nat.zero_add, Nat.add_zero, Nat.reduceAdd, Nat.reduceSub, Nat.reduceLeDiff, decide_eq_true_eq, Bool.not_eq_true', decide_eq_false_iff_not, Nat.sub_self, Option.some.injEq, exists_eq_left', exists_eq_left, x_pick, f_pr, f_qd, f_prT, f_qdT, x_pr0, x_pr1, x_qd0, x_qd1, x_qd2, x_qd3, g_pr, g_qd, nl_pr, nl_qd, nl_I, nl_B, nl_N, l_pr, l_qd, l_prs, l_ti, l_li, c_eq_pr, c_ne_pr, c_eq_qd, c_ne_qd, i_pr, i_qd, i_prs, i_ti, i_li, true_and, and_true, sl0, sl1, sl2, sl3, sl4, sl5, sl6, sl7, sl8, sl9, sl10, sl11, sl12, sl13, sl14, mketa, wipe1, shE_cons, shE_nil, shS_sh, shS_ow, shS_none, eq_self, and_self, decide_true, decide_false, reduceCtorEq, false_and, and_false, true_implies, false_implies, implies_true, not_true_eq_false, Bool.not_true, Bool.not_false, Bool.true_and, Bool.false_and, Bool.and_true, Bool.and_false, Bool.or_true, Bool.true_or, Bool.or_false, Bool.false_or, Int.reduceLT, Int.reduceLE, Nat.reduceLT, h_law_divisor, p_law_divisor, b_law_whole, n_law_whole]
  refine forW_fold (g := fun f x => f * (frac x.2 f).1) (b0 := (1 : Int)) (fun f ρ => ∃ s2 s3, ρ = [some (.sh (.py (prs l))), some (.sh (.I f)), s2, s3]) ⟨_, _, rfl⟩ ?_ ?_
  · rintro l1 x l2 ρ K e ⟨s2, s3, rfl⟩ hK
    have hm := good_mem hg x (by rw [e]; exact List.mem_append_right _ List.mem_cons_self)
    have hp := good_pre hg e
    have ef : List.foldl (fun f x => f * (frac x.2 f).1) 1 l1 = wf l1 := rfl
    rw [ef] at hK ⊢
    generalize wf l1 = f at hp hK ⊢
    simp only [wpS, wp, getV, getB, initE, endF, bindG, List.map_cons, List.map_nil, List.length_cons, List.length_nil, List.cons_append, List.nil_append, List.append_nil, List.getElem?_cons_zero, List.getElem?_cons_succ, List.set_cons_zero, List.set_cons_succ, partD, k_L, k_T, l_lenT, l_lenL, l_int, l_intB, l_abs, l_max2, l_max3, l_max4, l_min2, l_maxL, l_minL, l_sum, l_all, l_any, l_tupL, l_tupT, l_lisL, l_lisT, r_1, r_2, r_l, i_L, i_T, i_A, if_true, if_false, ite_true, ite_false, not_false_eq_true, not_true_eq_false, Bool.false_eq_true, ite_not, b_add, b_addT, b_addL, b_sub, b_subB, b_mul, b_mulT, b_mulL, b_fdiv, b_mod, b_pow, a_add, a_sub, a_mul, a_fdiv, c_lt, c_le, c_gt, c_ge, c_eqI, c_neI, c_eqB, c_neB, seqP, pysD, Option.map_some, List.replicate_zero, List.replicate_succ, Nat.zero_add, Nat.add_zero, Nat.reduceAdd, Nat.reduceSub, Nat.reduceLeDiff, decide_eq_true_eq, Bool.not_eq_true', decide_eq_false_iff_not, Nat.sub_self, Option.some.injEq, exists_eq_left', exists_eq_left, x_pick, f_pr, f_qd, f_prT, f_qdT, x_pr0, x_pr1, x_qd0, x_qd1, x_qd2, x_qd3, g_pr, g_qd, nl_pr, nl_qd, nl_I, nl_B, nl_N, l_pr, l_qd, l_prs, l_ti, l_li, c_eq_pr, c_ne_pr, c_eq_qd, c_ne_qd, i_pr, i_qd, i_prs, i_ti, i_li, true_and, and_true, sl0, sl1, sl2, sl3, sl4, sl5, sl6, sl7, sl8, sl9, sl10, sl11, sl12, sl13, sl14, mketa, wipe1, shE_cons, shE_nil, shS_sh, shS_ow, shS_none, eq_self, and_self, decide_true, decide_false, reduceCtorEq, false_and, and_false, true_implies, false_implies, implies_true, not_true_eq_false, Bool.not_true, Bool.not_false, Bool.true_and, Bool.false_and, Bool.and_true, Bool.and_false, Bool.or_true, Bool.true_or, Bool.or_false, Bool.false_or, Int.reduceLT, Int.reduceLE, Nat.reduceLT, h_law_divisor, p_law_divisor]
    have gp := gcd_pos (a := f) (b := x.2) (by omega)
    have gl := gcd_le (a := f) (b := x.2) (by omega)
    rw [wf_step (by omega) (by omega)]
    refine ⟨cmz (Z.at64 (by omega)) (Z.at64 (by omega)) (by decide) (by decide), by omega, by omega, dvz (Z.at64 (by omega)) (by decide) (by omega), hK _ ⟨_, _, rfl⟩⟩
  · rintro ρ ⟨s2, s3, rfl⟩
    simp only [wpS, wp, getV, getB, initE, endF, bindG, List.map_cons, List.map_nil, List.length_cons, List.length_nil, List.cons_append, List.nil_append, List.append_nil, List.getElem?_cons_zero, List.getElem?_cons_succ, List.set_cons_zero, List.set_cons_succ, partD, k_L, k_T, l_lenT, l_lenL, l_int, l_intB, l_abs, l_max2, l_max3, l_max4, l_min2, l_maxL, l_minL, l_sum, l_all, l_any, l_tupL, l_tupT, l_lisL, l_lisT, r_1, r_2, r_l, i_L, i_T, i_A, if_true, if_false, ite_true, ite_false, not_false_eq_true, not_true_eq_false, Bool.false_eq_true, ite_not, b_add, b_addT, b_addL, b_sub, b_subB, b_mul, b_mulT, b_mulL, b_fdiv, b_mod, b_pow, a_add, a_sub, a_mul, a_fdiv, c_lt, c_le, c_gt, c_ge, c_eqI, c_neI, c_eqB, c_neB, seqP, pysD, Option.map_some, List.replicate_zero, List.replicate_succ, Nat.zero_add, Nat.add_zero, Nat.reduceAdd, Nat.reduceSub, Nat.reduceLeDiff, decide_eq_true_eq, Bool.not_eq_true', decide_eq_false_iff_not, Nat.sub_self, Option.some.injEq, exists_eq_left', exists_eq_left, x_pick, f_pr, f_qd, f_prT, f_qdT, x_pr0, x_pr1, x_qd0, x_qd1, x_qd2, x_qd3, g_pr, g_qd, nl_pr, nl_qd, nl_I, nl_B, nl_N, l_pr, l_qd, l_prs, l_ti, l_li, c_eq_pr, c_ne_pr, c_eq_qd, c_ne_qd, i_pr, i_qd, i_prs, i_ti, i_li, true_and, and_true, sl0, sl1, sl2, sl3, sl4, sl5, sl6, sl7, sl8, sl9, sl10, sl11, sl12, sl13, sl14, mketa, wipe1, shE_cons, shE_nil, shS_sh, shS_ow, shS_none, eq_self, and_self, decide_true, decide_false, reduceCtorEq, false_and, and_false, true_implies, false_implies, implies_true, not_true_eq_false, Bool.not_true, Bool.not_false, Bool.true_and, Bool.false_and, Bool.and_true, Bool.and_false, Bool.or_true, Bool.true_or, Bool.or_false, Bool.false_or, Int.reduceLT, Int.reduceLE, Nat.reduceLT, h_law_divisor, p_law_divisor]
    exact hq
theorem red_pos {a b : Int} (ha : 0 ≤ a) (hb : 0 < b) : 0 ≤ (red a b).1 ∧ 1 ≤ (red a b).2 ∧ (red a b).1 ≤ a ∧ (red a b).2 ≤ b ∧ Int.gcd (red a b).1 (red a b).2 = 1 := by
  have gp := gcd_pos (a := a) (b := b) (by omega)
  have e1 : (red a b).1 = a / Int.gcd a b := Int.fdiv_eq_ediv_of_nonneg _ (by omega)
  have e2 : (red a b).2 = b / Int.gcd a b := Int.fdiv_eq_ediv_of_nonneg _ (by omega)
  rw [e1, e2]
  exact ⟨Int.ediv_nonneg ha (by omega), Int.ediv_pos_of_pos_of_dvd hb (by omega) (Int.gcd_dvd_right _ _), Int.ediv_le_self _ ha, Int.ediv_le_self _ (by omega), Int.gcd_ediv_gcd_ediv_gcd gp⟩
theorem red_ok {a b : Int} (ha : 0 ≤ a) (hb : 0 < b) (ha2 : a ≤ 61) (hb2 : b ≤ 61) : BdOk (red a b) := by
  have h := red_pos ha hb
  exact ⟨h.1, h.2.1, by omega, by omega, h.2.2.2.2⟩
theorem s_law_bound {Φ : PhiT} (h_law_whole : Φ 5 = C_law_whole) (h_law_reduced : Φ 3 = C_law_reduced) (h_law_next : Φ 1 = C_law_next) (ds : List D) (Q : D → Prop) (E : Nat → Prop) (h : C_law_bound ds Q E) : ds.length = 2 ∧ wpS Φ exName b_law_bound (initE n_law_bound ds) (endF Q E) := by
  obtain ⟨l, rfl, hg, hq⟩ := h
  refine ⟨rfl, ?_⟩
  simp only [wpS, wp, getV, getB, initE, endF, bindG, List.map_cons, List.map_nil, List.length_cons, List.length_nil, List.cons_append, List.nil_append, List.append_nil, List.getElem?_cons_zero, List.getElem?_cons_succ, List.set_cons_zero, List.set_cons_succ, partD, k_L, k_T, l_lenT, l_lenL, l_int, l_intB, l_abs, l_max2, l_max3, l_max4, l_min2, l_maxL, l_minL, l_sum, l_all, l_any, l_tupL, l_tupT, l_lisL, l_lisT, r_1, r_2, r_l, i_L, i_T, i_A, if_true, if_false, ite_true, ite_false, not_false_eq_true, not_true_eq_false, Bool.false_eq_true, ite_not, b_add, b_addT, b_addL, b_sub, b_subB, b_mul, b_mulT, b_mulL, b_fdiv, b_mod, b_pow, a_add, a_sub, a_mul, a_fdiv, c_lt, c_le, c_gt, c_ge, c_eqI, c_neI, c_eqB, c_neB, seqP, pysD, Option.map_some, List.replicate_zero, List.replicate_succ, Nat.zero_add, Nat.add_zero, Nat.reduceAdd, Nat.reduceSub, Nat.reduceLeDiff, decide_eq_true_eq, Bool.not_eq_true', decide_eq_false_iff_not, Nat.sub_self, Option.some.injEq, exists_eq_left', exists_eq_left, x_pick, f_pr, f_qd, f_prT, f_qdT, x_pr0, x_pr1, x_qd0, x_qd1, x_qd2, x_qd3, g_pr, g_qd, nl_pr, nl_qd, nl_I, nl_B, nl_N, l_pr, l_qd, l_prs, l_ti, l_li, c_eq_pr, c_ne_pr, c_eq_qd, c_ne_qd, i_pr, i_qd, i_prs, i_ti, i_li, true_and, and_true, sl0, sl1, sl2, sl3, sl4, sl5, sl6, sl7, sl8, sl9, sl10, sl11, sl12, sl13, sl14, mketa, wipe1, shE_cons, shE_nil, shS_sh, shS_ow, shS_none, eq_self, and_self, decide_true, decide_false, reduceCtorEq, false_and, and_false, true_implies, false_implies, implies_true, not_true_eq_false, Bool.not_true, Bool.not_false, Bool.true_and, Bool.false_and, Bool.and_true, Bool.and_false, Bool.or_true, Bool.true_or, Bool.or_false, Bool.false_or, Int.reduceLT, Int.reduceLE, Nat.reduceLT, h_law_whole, h_law_reduced, h_law_next, p_law_whole, p_law_reduced, p_law_next, b_law_bound, n_law_bound]
  have hw := good_wf hg
  refine ⟨hg, by omega, fun x hx hx2 => ⟨by omega, (Z.at64 (by omega)).big (by decide), fun y hy hy2 z hz hz2 => ⟨by omega, (Z.at64 (by omega)).big (by decide), fun u hu hu2 => ?_⟩⟩⟩
  have A : ∀ p ∈ [pr (red x (wf l)), pr (red y (1 + z)), pr (1, 1), pr (1, 2)], Q (.py p) := by
    intro p hp
    simp only [List.mem_cons, List.not_mem_nil, or_false] at hp
    rcases hp with rfl | rfl | rfl | rfl
    · exact hq _ (red_ok (by omega) (by omega) (by omega) (by omega))
    · exact hq _ (red_ok (by omega) (by omega) (by omega) (by omega))
    · exact hq (1, 1) ⟨by decide, by decide, by decide, by decide, by decide⟩
    · exact hq (1, 2) ⟨by decide, by decide, by decide, by decide, by decide⟩
  refine ixL_any hu (by show u < 6; omega) fun p hp => ?_
  simp only [List.mem_cons, List.not_mem_nil, or_false] at hp
  rcases hp with rfl | rfl | rfl | rfl | rfl | rfl
  all_goals exact ixL_any (by decide) (by simp only [List.length_cons, List.length_nil]; omega) A
theorem s_law_wrong_shares {Φ : PhiT} (h_law_next : Φ 1 = C_law_next) (ds : List D) (Q : D → Prop) (E : Nat → Prop) (h : C_law_wrong_shares ds Q E) : ds.length = 2 ∧ wpS Φ exName b_law_wrong_shares (initE n_law_wrong_shares ds) (endF Q E) := by
  obtain ⟨d, rfl, hq⟩ := h
  refine ⟨rfl, ?_⟩
  simp only [wpS, wp, getV, getB, initE, endF, bindG, List.map_cons, List.map_nil, List.length_cons, List.length_nil, List.cons_append, List.nil_append, List.append_nil, List.getElem?_cons_zero, List.getElem?_cons_succ, List.set_cons_zero, List.set_cons_succ, partD, k_L, k_T, l_lenT, l_lenL, l_int, l_intB, l_abs, l_max2, l_max3, l_max4, l_min2, l_maxL, l_minL, l_sum, l_all, l_any, l_tupL, l_tupT, l_lisL, l_lisT, r_1, r_2, r_l, i_L, i_T, i_A, if_true, if_false, ite_true, ite_false, not_false_eq_true, not_true_eq_false, Bool.false_eq_true, ite_not, b_add, b_addT, b_addL, b_sub, b_subB, b_mul, b_mulT, b_mulL, b_fdiv, b_mod, b_pow, a_add, a_sub, a_mul, a_fdiv, c_lt, c_le, c_gt, c_ge, c_eqI, c_neI, c_eqB, c_neB, seqP, pysD, Option.map_some, List.replicate_zero, List.replicate_succ, Nat.zero_add, Nat.add_zero, Nat.reduceAdd, Nat.reduceSub, Nat.reduceLeDiff, decide_eq_true_eq, Bool.not_eq_true', decide_eq_false_iff_not, Nat.sub_self, Option.some.injEq, exists_eq_left', exists_eq_left, x_pick, f_pr, f_qd, f_prT, f_qdT, x_pr0, x_pr1, x_qd0, x_qd1, x_qd2, x_qd3, g_pr, g_qd, nl_pr, nl_qd, nl_I, nl_B, nl_N, l_pr, l_qd, l_prs, l_ti, l_li, c_eq_pr, c_ne_pr, c_eq_qd, c_ne_qd, i_pr, i_qd, i_prs, i_ti, i_li, true_and, and_true, sl0, sl1, sl2, sl3, sl4, sl5, sl6, sl7, sl8, sl9, sl10, sl11, sl12, sl13, sl14, mketa, wipe1, shE_cons, shE_nil, shS_sh, shS_ow, shS_none, eq_self, and_self, decide_true, decide_false, reduceCtorEq, false_and, and_false, true_implies, false_implies, implies_true, not_true_eq_false, Bool.not_true, Bool.not_false, Bool.true_and, Bool.false_and, Bool.and_true, Bool.and_false, Bool.or_true, Bool.true_or, Bool.or_false, Bool.false_or, Int.reduceLT, Int.reduceLE, Nat.reduceLT, h_law_next, p_law_next, b_law_wrong_shares, n_law_wrong_shares]
  refine fun x hx hx2 => ?_
  refine ixL_any hx hx2 fun p hp => ?_
  have : ∀ p ∈ wrongs.map prs, Q (.py p) := by
    intro p hp
    obtain ⟨l, hl, rfl⟩ := List.mem_map.mp hp
    exact hq l hl
  exact this p hp
theorem wrong_bad : ∀ l ∈ wrongs, okSh l = false ∧ (∀ x ∈ l, ZF 8 x) ∧ l.length ≤ 1000 := by decide +kernel
/-- what is refused is told so -/
theorem c_refused {Q : D → Prop} (hq : Q (.B false)) : cmpD .NotEq (.T [.str (exName 0)]) (.T [.str "refused"]) Q := by
  refine c_ne_str (shk_str (by decide +kernel)) (shk_str (by decide +kernel)) ?_
  exact hq
end Y

/-! part S37 -/
set_option Elab.async false
set_option linter.all false
set_option maxRecDepth 100000
set_option maxHeartbeats 4000000
set_option exponentiation.threshold 5000
/-! S37: windows of turns. -/
namespace Y
open PySem PySem.Spec
def n_turn_window : List Str := ["shares", "bound", "one", "count"]
/-- turn_window: number 20 -/
def b_turn_window : S := (.seq (.expr (.call 16 (.cons (.var 0) .nil))) (.seq (.expr (.call 17 (.cons (.var 1) .nil))) (.seq (.ite (.or (.not (.chain .LtE .Lt (.lit (.int 0)) (.var 2) (.bi .len (.cons (.var 0) .nil)))) (.not (.chain .LtE .LtE (.lit (.int 1)) (.var 3) (.glob (.int 600))))) (.seq (.raise 0 .nil) .nil) .nil) (.seq (.ret (.call 19 (.cons (.var 0) (.cons (.var 1) (.cons (.var 2) (.cons (.var 3) .nil)))))) .nil))))
def n_law_may : List Str := ["shares", "bound", "one", "count", "turn", "now", "ahead", "top", "below"]
/-- law_may: number 10 -/
def b_law_may : S := (.seq (.unp (.tup (.cons (.var 7) (.cons (.var 8) .nil))) (.ix (.var 0) (.var 2))) (.seq (.asg 5 (.tup (.cons (.bin .sub (.bin .mul (.var 3) (.var 8)) (.bin .mul (.var 4) (.var 7))) (.cons (.var 8) .nil)))) (.seq (.asg 6 (.tup (.cons (.bin .sub (.bin .mul (.bin .sub (.var 4) (.lit (.int 1))) (.var 7)) (.bin .mul (.bin .sub (.var 3) (.lit (.int 1))) (.var 8))) (.cons (.var 8) .nil)))) (.seq (.ret (.and (.not (.call 9 (.cons (.var 5) (.cons (.var 1) .nil)))) (.not (.call 9 (.cons (.var 6) (.cons (.var 1) .nil)))))) .nil))))
def C_turn_window : Ct := fun ds Q E => ∃ (l : List (Int × Int)) (b : Int × Int) (i : Int) (c : Int), ds = [.py (prs l), .py (pr b), .I i, .I c] ∧ ((∀ x ∈ l, ZF 8 x) ∧ l.length ≤ 1000 ∧ ZF 64 b ∧ Z 64 c ∧ ((okSh l = true ∧ (okF b = true ∧ 0 ≤ b.1) ∧ (0 ≤ i ∧ i < l.length) ∧ (1 ≤ c ∧ c ≤ 600)) → ∀ x, l[i.toNat]? = some x → Q (.py (pr (winP x b c)))) ∧ (¬ (okSh l = true ∧ (okF b = true ∧ 0 ≤ b.1) ∧ (0 ≤ i ∧ i < l.length) ∧ (1 ≤ c ∧ c ≤ 600)) → E 0))
theorem p_turn_window {l : List (Int × Int)} {b : Int × Int} {i : Int} {c : Int} {Q : D → Prop} {E : Nat → Prop} : C_turn_window [.py (prs l), .py (pr b), .I i, .I c] Q E ↔ ((∀ x ∈ l, ZF 8 x) ∧ l.length ≤ 1000 ∧ ZF 64 b ∧ Z 64 c ∧ ((okSh l = true ∧ (okF b = true ∧ 0 ≤ b.1) ∧ (0 ≤ i ∧ i < l.length) ∧ (1 ≤ c ∧ c ≤ 600)) → ∀ x, l[i.toNat]? = some x → Q (.py (pr (winP x b c)))) ∧ (¬ (okSh l = true ∧ (okF b = true ∧ 0 ≤ b.1) ∧ (0 ≤ i ∧ i < l.length) ∧ (1 ≤ c ∧ c ≤ 600)) → E 0)) := ⟨fun ⟨l', b', i', c', e, h⟩ => by simp only [List.cons.injEq, D.py.injEq, PyData.int.injEq, PyData.bool.injEq, PyData.str.injEq, pr_inj, qd_inj, prs_inj, ti_inj, li_inj, and_true, true_and] at e; obtain ⟨rfl, rfl, rfl, rfl⟩ := e; exact h, fun h => ⟨_, _, _, _, rfl, h⟩⟩
def C_law_may : Ct := fun ds Q E => ∃ (l : List (Int × Int)) (b : Int × Int) (i : Int) (c : Int) (t : Int), ds = [.py (prs l), .py (pr b), .I i, .I c, .I t] ∧ (∃ x, 0 ≤ i ∧ l[i.toNat]? = some x ∧ ZF 64 x ∧ ZF 64 b ∧ Z 64 c ∧ Z 64 t ∧ Q (.B (!decide (b.1 * x.2 < (c * x.2 - t * x.1) * b.2) && !decide (b.1 * x.2 < ((t - 1) * x.1 - (c - 1) * x.2) * b.2))))
theorem p_law_may {l : List (Int × Int)} {b : Int × Int} {i : Int} {c : Int} {t : Int} {Q : D → Prop} {E : Nat → Prop} : C_law_may [.py (prs l), .py (pr b), .I i, .I c, .I t] Q E ↔ (∃ x, 0 ≤ i ∧ l[i.toNat]? = some x ∧ ZF 64 x ∧ ZF 64 b ∧ Z 64 c ∧ Z 64 t ∧ Q (.B (!decide (b.1 * x.2 < (c * x.2 - t * x.1) * b.2) && !decide (b.1 * x.2 < ((t - 1) * x.1 - (c - 1) * x.2) * b.2)))) := ⟨fun ⟨l', b', i', c', t', e, h⟩ => by simp only [List.cons.injEq, D.py.injEq, PyData.int.injEq, PyData.bool.injEq, PyData.str.injEq, pr_inj, qd_inj, prs_inj, ti_inj, li_inj, and_true, true_and] at e; obtain ⟨rfl, rfl, rfl, rfl, rfl⟩ := e; exact h, fun h => ⟨_, _, _, _, _, rfl, h⟩⟩
theorem s_law_may {Φ : PhiT} (h_law_more : Φ 9 = C_law_more) (ds : List D) (Q : D → Prop) (E : Nat → Prop) (h : C_law_may ds Q E) : ds.length = 5 ∧ wpS Φ exName b_law_may (initE n_law_may ds) (endF Q E) := by
  obtain ⟨l, b, i, c, t, rfl, x, hi, hx, fx, fb, hc, ht, hq⟩ := h
  refine ⟨rfl, ?_⟩
  simp only [wpS, wp, getV, getB, initE, endF, bindG, List.map_cons, List.map_nil, List.length_cons, List.length_nil, List.cons_append, List.nil_append, List.append_nil, List.getElem?_cons_zero, List.getElem?_cons_succ, List.set_cons_zero, List.set_cons_succ, partD, k_L, k_T, l_lenT, l_lenL, l_int, l_intB, l_abs, l_max2, l_max3, l_max4, l_min2, l_maxL, l_minL, l_sum, l_all, l_any, l_tupL, l_tupT, l_lisL, l_lisT, r_1, r_2, r_l, i_L, i_T, i_A, if_true, if_false, ite_true, ite_false, not_false_eq_true, not_true_eq_false, Bool.false_eq_true, ite_not, b_add, b_addT, b_addL, b_sub, b_subB, b_mul, b_mulT, b_mulL, b_fdiv, b_mod, b_pow, a_add, a_sub, a_mul, a_fdiv, c_lt, c_le, c_gt, c_ge, c_eqI, c_neI, c_eqB, c_neB, seqP, pysD, Option.map_some, List.replicate_zero, List.replicate_succ, Nat.zero_add, Nat.add_zero, Nat.reduceAdd, Nat.reduceSub, Nat.reduceLeDiff, decide_eq_true_eq, Bool.not_eq_true', decide_eq_false_iff_not, Nat.sub_self, Option.some.injEq, exists_eq_left', exists_eq_left, x_pick, f_pr, f_qd, f_prT, f_qdT, x_pr0, x_pr1, x_qd0, x_qd1, x_qd2, x_qd3, g_pr, g_qd, nl_pr, nl_qd, nl_I, nl_B, nl_N, l_pr, l_qd, l_prs, l_ti, l_li, c_eq_pr, c_ne_pr, c_eq_qd, c_ne_qd, i_pr, i_qd, i_prs, i_ti, i_li, true_and, and_true, sl0, sl1, sl2, sl3, sl4, sl5, sl6, sl7, sl8, sl9, sl10, sl11, sl12, sl13, sl14, mketa, wipe1, shE_cons, shE_nil, shS_sh, shS_ow, shS_none, eq_self, and_self, decide_true, decide_false, reduceCtorEq, false_and, and_false, true_implies, false_implies, implies_true, not_true_eq_false, Bool.not_true, Bool.not_false, Bool.true_and, Bool.false_and, Bool.and_true, Bool.and_false, Bool.or_true, Bool.true_or, Bool.or_false, Bool.false_or, Int.reduceLT, Int.reduceLE, Nat.reduceLT, h_law_more, p_law_more, b_law_may, n_law_may]
  refine ix_prs hi hx ?_
  simp only [wpS, wp, getV, getB, initE, endF, bindG, List.map_cons, List.map_nil, List.length_cons, List.length_nil, List.cons_append, List.nil_append, List.append_nil, List.getElem?_cons_zero, List.getElem?_cons_succ, List.set_cons_zero, List.set_cons_succ, partD, k_L, k_T, l_lenT, l_lenL, l_int, l_intB, l_abs, l_max2, l_max3, l_max4, l_min2, l_maxL, l_minL, l_sum, l_all, l_any, l_tupL, l_tupT, l_lisL, l_lisT, r_1, r_2, r_l, i_L, i_T, i_A, if_true, if_false, ite_true, ite_false, not_false_eq_true, not_true_eq_false, Bool.false_eq_true, ite_not, b_add, b_addT, b_addL, b_sub, b_subB, b_mul, b_mulT, b_mulL, b_fdiv, b_mod, b_pow, a_add, a_sub, a_mul, a_fdiv, c_lt, c_le, c_gt, c_ge, c_eqI, c_neI, c_eqB, c_neB, seqP, pysD, Option.map_some, List.replicate_zero, List.replicate_succ, Nat.zero_add, Nat.add_zero, Nat.reduceAdd, Nat.reduceSub, Nat.reduceLeDiff, decide_eq_true_eq, Bool.not_eq_true', decide_eq_false_iff_not, Nat.sub_self, Option.some.injEq, exists_eq_left', exists_eq_left, x_pick, f_pr, f_qd, f_prT, f_qdT, x_pr0, x_pr1, x_qd0, x_qd1, x_qd2, x_qd3, g_pr, g_qd, nl_pr, nl_qd, nl_I, nl_B, nl_N, l_pr, l_qd, l_prs, l_ti, l_li, c_eq_pr, c_ne_pr, c_eq_qd, c_ne_qd, i_pr, i_qd, i_prs, i_ti, i_li, true_and, and_true, sl0, sl1, sl2, sl3, sl4, sl5, sl6, sl7, sl8, sl9, sl10, sl11, sl12, sl13, sl14, mketa, wipe1, shE_cons, shE_nil, shS_sh, shS_ow, shS_none, eq_self, and_self, decide_true, decide_false, reduceCtorEq, false_and, and_false, true_implies, false_implies, implies_true, not_true_eq_false, Bool.not_true, Bool.not_false, Bool.true_and, Bool.false_and, Bool.and_true, Bool.and_false, Bool.or_true, Bool.true_or, Bool.or_false, Bool.false_or, Int.reduceLT, Int.reduceLE, Nat.reduceLT, h_law_more, p_law_more]
  obtain ⟨fb1, fb2⟩ := fb
  obtain ⟨fx1, fx2⟩ := fx
  have ht1 : Z 65 (t - 1) := ht.sub (m := 0) (by decide)
  have hc1 : Z 65 (c - 1) := hc.sub (m := 0) (by decide)
  have z1 : ZF 900 (c * x.2 - t * x.1, x.2) := ZF.mk ((hc.mul fx2).sub (ht.mul fx1)) fx2 (by decide) (by decide)
  have z2 : ZF 900 ((t - 1) * x.1 - (c - 1) * x.2, x.2) := ZF.mk ((ht1.mul fx1).sub (hc1.mul fx2)) fx2 (by decide) (by decide)
  have bb : ZF 900 b := ⟨fb1.mono (by decide), fb2.mono (by decide)⟩
  have q {a b : Int} {z y : Int × Int} : ltF z y = (z.1 * y.2 < y.1 * z.2) := rfl
  refine ⟨cmz hc fx2 (by decide) (by decide), cmz ht fx1 (by decide) (by decide), cmz ht1 fx1 (by decide) (by decide), cmz hc1 fx2 (by decide) (by decide), z1, bb, ?_⟩
  split
  · rename_i h
    have h : b.1 * x.2 < (c * x.2 - t * x.1) * b.2 := h
    rw [decide_eq_true h] at hq
    exact hq
  · rename_i h
    have h : ¬ b.1 * x.2 < (c * x.2 - t * x.1) * b.2 := h
    rw [decide_eq_false h] at hq
    exact ⟨z2, bb, hq⟩
theorem s_turn_window {Φ : PhiT} (h_check_shares : Φ 16 = C_check_shares) (h_check_bound : Φ 17 = C_check_bound) (h_window : Φ 19 = C_window) (ds : List D) (Q : D → Prop) (E : Nat → Prop) (h : C_turn_window ds Q E) : ds.length = 4 ∧ wpS Φ exName b_turn_window (initE n_turn_window ds) (endF Q E) := by
  obtain ⟨l, b, i, c, rfl, hx, hl, fb, hc, hq, he⟩ := h
  refine ⟨rfl, ?_⟩
  simp only [wpS, wp, getV, getB, initE, endF, bindG, List.map_cons, List.map_nil, List.length_cons, List.length_nil, List.cons_append, List.nil_append, List.append_nil, List.getElem?_cons_zero, List.getElem?_cons_succ, List.set_cons_zero, List.set_cons_succ, partD, k_L, k_T, l_lenT, l_lenL, l_int, l_intB, l_abs, l_max2, l_max3, l_max4, l_min2, l_maxL, l_minL, l_sum, l_all, l_any, l_tupL, l_tupT, l_lisL, l_lisT, r_1, r_2, r_l, i_L, i_T, i_A, if_true, if_false, ite_true, ite_false, not_false_eq_true, not_true_eq_false, Bool.false_eq_true, ite_not, b_add, b_addT, b_addL, b_sub, b_subB, b_mul, b_mulT, b_mulL, b_fdiv, b_mod, b_pow, a_add, a_sub, a_mul, a_fdiv, c_lt, c_le, c_gt, c_ge, c_eqI, c_neI, c_eqB, c_neB, seqP, pysD, Option.map_some, List.replicate_zero, List.replicate_succ, Nat.zero_add, Nat.add_zero, Nat.reduceAdd, Nat.reduceSub, Nat.reduceLeDiff, decide_eq_true_eq, Bool.not_eq_true', decide_eq_false_iff_not, Nat.sub_self, Option.some.injEq, exists_eq_left', exists_eq_left, x_pick, f_pr, f_qd, f_prT, f_qdT, x_pr0, x_pr1, x_qd0, x_qd1, x_qd2, x_qd3, g_pr, g_qd, nl_pr, nl_qd, nl_I, nl_B, nl_N, l_pr, l_qd, l_prs, l_ti, l_li, c_eq_pr, c_ne_pr, c_eq_qd, c_ne_qd, i_pr, i_qd, i_prs, i_ti, i_li, true_and, and_true, sl0, sl1, sl2, sl3, sl4, sl5, sl6, sl7, sl8, sl9, sl10, sl11, sl12, sl13, sl14, mketa, wipe1, shE_cons, shE_nil, shS_sh, shS_ow, shS_none, eq_self, and_self, decide_true, decide_false, reduceCtorEq, false_and, and_false, true_implies, false_implies, implies_true, not_true_eq_false, Bool.not_true, Bool.not_false, Bool.true_and, Bool.false_and, Bool.and_true, Bool.and_false, Bool.or_true, Bool.true_or, Bool.or_false, Bool.false_or, Int.reduceLT, Int.reduceLE, Nat.reduceLT, h_check_shares, h_check_bound, h_window, p_check_shares, p_check_bound, p_window, b_turn_window, n_turn_window]
  refine ⟨hx, hl, fun h16 => ⟨fun h17 => ?_, fun h => he fun z => h z.2.1⟩, fun h => he fun z => by rw [z.1] at h; exact nomatch h⟩
  split
  · rename_i h18
    split
    · rename_i h19
      split
      · rename_i h20
        split
        · rename_i h21
          have hq := hq ⟨h16, h17, ⟨h18, h19⟩, h20, h21⟩
          have hi : i.toNat < l.length := by omega
          have hg : l[i.toNat]? = some l[i.toNat] := List.getElem?_eq_getElem hi
          have hb : ZF 64 l[i.toNat] := (hx _ (List.getElem_mem hi)).mono (by decide)
          have ho : 0 < (l[i.toNat]).1 := by
            have := h16
            unfold okSh at this
            rw [Bool.and_eq_true, Bool.and_eq_true] at this
            have := (List.all_eq_true.mp this.1.2) _ (List.getElem_mem hi)
            rw [Bool.and_eq_true] at this
            exact of_decide_eq_true this.2
          have hb2 : 1 ≤ b.2 := by
            have := h17.1
            unfold okF at this
            rw [Bool.and_eq_true] at this
            exact of_decide_eq_true this.1
          exact ⟨_, h18, hg, hb, fb, hc, by omega, by omega, hq _ hg⟩
        · rename_i h; exact he fun z => h z.2.2.2.2
      · rename_i h; exact he fun z => h z.2.2.2.1
    · rename_i h; exact he fun z => h z.2.2.1.2
  · rename_i h; exact he fun z => h z.2.2.1.1
theorem quo_eq {A B : Int} {x : Int × Int} (hB : 0 < B) (hx : 1 ≤ x.1) : quo (frac A B) x = (A * x.2).fdiv (B * x.1) := by
  have gp := gcd_pos (a := A) (b := B) (by omega)
  rw [(frac_pos hB).1]
  have gz : 0 < (Int.gcd A B : Int) := by omega
  have d1 := Int.ediv_mul_cancel (Int.gcd_dvd_left A B)
  have d2 := Int.ediv_mul_cancel (Int.gcd_dvd_right A B)
  unfold quo
  show (A / _ * x.2).fdiv (B / _ * x.1) = _
  have hq : 0 < B / (Int.gcd A B : Int) := Int.ediv_pos_of_pos_of_dvd (by omega) (by omega) (Int.gcd_dvd_right _ _)
  generalize (Int.gcd A B : Int) = g at d1 d2 gz hq ⊢
  generalize A / g = p at d1 ⊢
  generalize B / g = q at d2 hq ⊢
  subst d1 d2
  have hg : 0 < g := gz
  have h1 : 0 < q * x.1 := Int.mul_pos hq (by omega)
  have h2 : 0 < q * g * x.1 := Int.mul_pos hB (by omega)
  rw [Int.fdiv_eq_ediv_of_nonneg _ (by omega), Int.fdiv_eq_ediv_of_nonneg _ (by omega)]
  have e1 : p * g * x.2 = g * (p * x.2) := by grind
  have e2 : q * g * x.1 = g * (q * x.1) := by grind
  rw [e1, e2, Int.mul_ediv_mul_of_pos _ _ hg]
theorem win_eq {x b : Int × Int} {c : Int} (hb : 1 ≤ b.2) (hx : 1 ≤ x.1) : winP x b c = win x b c := by
  unfold winP win addF
  rw [quo_eq (by simp only [Int.mul_one]; omega) hx, quo_eq (by simp only [Int.mul_one]; omega) hx]
  simp only [Int.mul_one, Int.zero_sub, Int.neg_mul, ← Int.sub_eq_add_neg]
theorem Z.win {x b : Int × Int} {c : Int} (fx : ZF 64 x) (fb : ZF 64 b) (fc : Z 64 c) : Z 300 (win x b c).1 ∧ Z 300 (win x b c).2 := by
  obtain ⟨fb1, fb2⟩ := fb
  obtain ⟨fx1, fx2⟩ := fx
  have o : Z 0 1 := by decide
  refine ⟨Z.mono (o.mx ((Z.at64 (by omega)).sub (Z.fdiv ((fb1.sub (fc.mul fb2)).mul fx2)))) (by decide), Z.mono (Z.add (Z.fdiv ((fb1.add ((fc.sub o).mul fb2)).mul fx2)) o) (by decide)⟩
theorem may_eq {x b : Int × Int} {c t : Int} (hb : 1 ≤ b.2) (hx : 1 ≤ x.1) (ht : 1 ≤ t) :
    (!decide (b.1 * x.2 < (c * x.2 - t * x.1) * b.2) && !decide (b.1 * x.2 < ((t - 1) * x.1 - (c - 1) * x.2) * b.2)) = (decide ((win x b c).1 ≤ t) && decide (t ≤ (win x b c).2)) := by
  have h2 : 0 < b.2 * x.1 := Int.mul_pos (by omega) (by omega)
  unfold win
  show _ = (decide (max 1 (0 - ((b.1 - c * b.2) * x.2).fdiv (b.2 * x.1)) ≤ t) && decide (t ≤ ((b.1 + (c - 1) * b.2) * x.2).fdiv (b.2 * x.1) + 1))
  rw [Int.fdiv_eq_ediv_of_nonneg _ (by omega), Int.fdiv_eq_ediv_of_nonneg _ (by omega)]
  have k1 : -t ≤ ((b.1 - c * b.2) * x.2) / (b.2 * x.1) ↔ -t * (b.2 * x.1) ≤ (b.1 - c * b.2) * x.2 := Int.le_ediv_iff_mul_le h2
  have k2 : t - 1 ≤ ((b.1 + (c - 1) * b.2) * x.2) / (b.2 * x.1) ↔ (t - 1) * (b.2 * x.1) ≤ (b.1 + (c - 1) * b.2) * x.2 := Int.le_ediv_iff_mul_le h2
  have m1 : (-t * (b.2 * x.1) ≤ (b.1 - c * b.2) * x.2) ↔ ¬ (b.1 * x.2 < (c * x.2 - t * x.1) * b.2) := by
    have : (b.1 - c * b.2) * x.2 - -t * (b.2 * x.1) = b.1 * x.2 - (c * x.2 - t * x.1) * b.2 := by grind
    omega
  have m2 : ((t - 1) * (b.2 * x.1) ≤ (b.1 + (c - 1) * b.2) * x.2) ↔ ¬ (b.1 * x.2 < ((t - 1) * x.1 - (c - 1) * x.2) * b.2) := by
    have : (b.1 + (c - 1) * b.2) * x.2 - (t - 1) * (b.2 * x.1) = b.1 * x.2 - ((t - 1) * x.1 - (c - 1) * x.2) * b.2 := by grind
    omega
  rw [← decide_not, ← decide_not]
  congr 1
  · refine decide_eq_decide.mpr ?_
    rw [← m1, ← k1]
    omega
  · refine decide_eq_decide.mpr ?_
    rw [← m2, ← k2]
    omega
end Y

/-! part SW -/
set_option Elab.async false
set_option linter.all false
set_option maxRecDepth 100000
set_option maxHeartbeats 4000000
set_option exponentiation.threshold 5000
/-! SW: rows of one period by the least last turns; crowded stretches. -/
namespace Y
open PySem PySem.Spec
def n_all_windows : List Str := ["shares", "bound", "turns", "found", "one", "share", "count", "early", "late"]
/-- all_windows: number 37 -/
def b_all_windows : S := (.seq (.asgL 3 (.lst (.nil))) (.seq (.for_ (.tup (.cons (.var 4) (.cons (.var 5) .nil))) (.enumT (.var 0)) (.seq (.for_ (.var 6) (.rng (.cons (.lit (.int 1)) (.cons (.bin .add (.bin .fdiv (.bin .mul (.var 2) (.ix (.var 5) (.lit (.int 0)))) (.ix (.var 5) (.lit (.int 1)))) (.lit (.int 1))) .nil))) (.seq (.unp (.tup (.cons (.var 7) (.cons (.var 8) .nil))) (.call 19 (.cons (.var 0) (.cons (.var 1) (.cons (.var 4) (.cons (.var 6) .nil)))))) (.seq (.app 3 (.tup (.cons (.bi .min (.cons (.var 8) (.cons (.var 2) .nil))) (.cons (.var 7) (.cons (.var 4) (.cons (.var 6) .nil)))))) .nil))) .nil)) (.seq (.frz 3) (.seq (.ret (.var 3)) .nil))))
def n_law_windows : List Str := ["shares", "bound", "whole", "found", "one", "count", "early", "late"]
/-- law_windows: number 36 -/
def b_law_windows : S := (.seq (.asg 2 (.call 5 (.cons (.var 0) .nil))) (.seq (.asgL 3 (.lst (.nil))) (.seq (.for_ (.var 4) (.rng (.cons (.bi .len (.cons (.var 0) .nil)) .nil)) (.seq (.for_ (.var 5) (.rng (.cons (.lit (.int 1)) (.cons (.bin .add (.bin .fdiv (.bin .mul (.var 2) (.ix (.ix (.var 0) (.var 4)) (.lit (.int 0)))) (.ix (.ix (.var 0) (.var 4)) (.lit (.int 1)))) (.lit (.int 1))) .nil))) (.seq (.unp (.tup (.cons (.var 6) (.cons (.var 7) .nil))) (.call 7 (.cons (.var 0) (.cons (.var 1) (.cons (.var 4) (.cons (.var 5) .nil)))))) (.seq (.app 3 (.tup (.cons (.var 6) (.cons (.bi .min (.cons (.var 7) (.cons (.var 2) .nil))) (.cons (.var 4) .nil))))) .nil))) .nil)) (.seq (.frz 3) (.seq (.ret (.var 3)) .nil)))))
def n_judge_crowded : List Str := ["shares", "bound", "stretch", "whole", "windows", "one", "other", "late", "early", "_"]
/-- judge_crowded: number 40 -/
def b_judge_crowded : S := (.seq (.expr (.call 16 (.cons (.var 0) .nil))) (.seq (.expr (.call 17 (.cons (.var 1) .nil))) (.seq (.unp (.tup (.cons (.var 5) (.cons (.var 6) .nil))) (.var 2)) (.seq (.asg 3 (.call 14 (.cons (.var 0) .nil))) (.seq (.ite (.or (.not (.chain .LtE .LtE (.lit (.int 1)) (.var 5) (.var 3))) (.not (.chain .LtE .LtE (.bin .sub (.var 5) (.lit (.int 1))) (.var 6) (.var 3)))) (.seq (.ret (.lit (.bool false))) .nil) .nil) (.seq (.asg 4 (.call 37 (.cons (.var 0) (.cons (.var 1) (.cons (.var 3) .nil))))) (.seq (.ret (.cmp .Gt (.bi .len (.cons (.comp [("late", 7), ("early", 8), ("_", 9)] (.lit (.int 1)) (.tup (.cons (.var 7) (.cons (.var 8) (.cons (.var 9) (.cons (.var 9) .nil))))) (.var 4) (.and (.cmp .LtE (.var 5) (.var 8)) (.cmp .LtE (.var 7) (.var 6)))) .nil)) (.bin .add (.bin .sub (.var 6) (.var 5)) (.lit (.int 1))))) .nil)))))))
def shW (l : List (Int × Int)) (k : Nat) : Int × Int := l.getD k (0, 1)
/-- how often the k-th has the turn in one period -/
def nK (l : List (Int × Int)) (k : Nat) : Nat := ((wf l * (shW l k).1).fdiv (shW l k).2).toNat
def wE (l : List (Int × Int)) (b : Int × Int) (k c : Nat) : Int × Int × Int × Int := (min (win (shW l k) b ((c : Int) + 1)).2 (wf l), (win (shW l k) b ((c : Int) + 1)).1, (k : Int), (c : Int) + 1)
def wK (l : List (Int × Int)) (b : Int × Int) (k n : Nat) : List (Int × Int × Int × Int) := (List.range n).map (wE l b k)
def wN (l : List (Int × Int)) (b : Int × Int) (i : Nat) : List (Int × Int × Int × Int) := (List.range i).flatMap fun k => wK l b k (nK l k)
/-- all windows: last turn, first turn, who, which -/
def wins (l : List (Int × Int)) (b : Int × Int) : List (Int × Int × Int × Int) := wN l b l.length
def lw (q : Int × Int × Int × Int) : PyData := .tuple [.int q.2.1, .int q.1, .int q.2.2.1]
def wP (l : List (Int × Int)) (b : Int × Int) : PyData := .list ((wins l b).map qd)
def lwP (l : List (Int × Int)) (b : Int × Int) : PyData := .list ((wins l b).map lw)
def insB (a c : Int) (q : Int × Int × Int × Int) : Bool := decide (a ≤ q.2.1) && decide (q.1 ≤ c)
def inC (l : List (Int × Int)) (b : Int × Int) (a c : Int) : Nat := ((wins l b).filter (insB a c)).length
def crB (l : List (Int × Int)) (b : Int × Int) (a c : Int) : Bool := decide (c - a + 1 < (inC l b a c : Int))
def inW (l : List (Int × Int)) (a c : Int) : Bool := (decide (1 ≤ a) && decide (a ≤ wf l)) && (decide (a - 1 ≤ c) && decide (c ≤ wf l))
def judB (l : List (Int × Int)) (b s : Int × Int) : Bool := inW l s.1 s.2 && crB l b s.1 s.2
def C_all_windows : Ct := fun ds Q E => ∃ (l : List (Int × Int)) (b : Int × Int) (t : Int), ds = [.py (prs l), .py (pr b), .I t] ∧ (Good l ∧ 1 ≤ b.2 ∧ ZF 64 b ∧ t = wf l ∧ Q (.py (wP l b)))
theorem p_all_windows {l : List (Int × Int)} {b : Int × Int} {t : Int} {Q : D → Prop} {E : Nat → Prop} : C_all_windows [.py (prs l), .py (pr b), .I t] Q E ↔ (Good l ∧ 1 ≤ b.2 ∧ ZF 64 b ∧ t = wf l ∧ Q (.py (wP l b))) := ⟨fun ⟨l', b', t', e, h⟩ => by simp only [List.cons.injEq, D.py.injEq, PyData.int.injEq, PyData.bool.injEq, PyData.str.injEq, pr_inj, qd_inj, prs_inj, ti_inj, li_inj, and_true, true_and] at e; obtain ⟨rfl, rfl, rfl⟩ := e; exact h, fun h => ⟨_, _, _, rfl, h⟩⟩
def C_law_windows : Ct := fun ds Q E => ∃ (l : List (Int × Int)) (b : Int × Int), ds = [.py (prs l), .py (pr b)] ∧ (Good l ∧ 1 ≤ b.2 ∧ ZF 64 b ∧ Q (.py (lwP l b)))
theorem p_law_windows {l : List (Int × Int)} {b : Int × Int} {Q : D → Prop} {E : Nat → Prop} : C_law_windows [.py (prs l), .py (pr b)] Q E ↔ (Good l ∧ 1 ≤ b.2 ∧ ZF 64 b ∧ Q (.py (lwP l b))) := ⟨fun ⟨l', b', e, h⟩ => by simp only [List.cons.injEq, D.py.injEq, PyData.int.injEq, PyData.bool.injEq, PyData.str.injEq, pr_inj, qd_inj, prs_inj, ti_inj, li_inj, and_true, true_and] at e; obtain ⟨rfl, rfl⟩ := e; exact h, fun h => ⟨_, _, rfl, h⟩⟩
def C_judge_crowded : Ct := fun ds Q E => ∃ (l : List (Int × Int)) (b : Int × Int) (s : Int × Int), ds = [.py (prs l), .py (pr b), .py (pr s)] ∧ ((∀ x ∈ l, ZF 8 x) ∧ l.length ≤ 1000 ∧ ZF 64 b ∧ ((okSh l = true ∧ okF b = true ∧ 0 ≤ b.1) → Good l ∧ Q (.B (judB l b s))) ∧ (¬ (okSh l = true ∧ okF b = true ∧ 0 ≤ b.1) → E 0))
theorem p_judge_crowded {l : List (Int × Int)} {b : Int × Int} {s : Int × Int} {Q : D → Prop} {E : Nat → Prop} : C_judge_crowded [.py (prs l), .py (pr b), .py (pr s)] Q E ↔ ((∀ x ∈ l, ZF 8 x) ∧ l.length ≤ 1000 ∧ ZF 64 b ∧ ((okSh l = true ∧ okF b = true ∧ 0 ≤ b.1) → Good l ∧ Q (.B (judB l b s))) ∧ (¬ (okSh l = true ∧ okF b = true ∧ 0 ≤ b.1) → E 0)) := ⟨fun ⟨l', b', s', e, h⟩ => by simp only [List.cons.injEq, D.py.injEq, PyData.int.injEq, PyData.bool.injEq, PyData.str.injEq, pr_inj, qd_inj, prs_inj, ti_inj, li_inj, and_true, true_and] at e; obtain ⟨rfl, rfl, rfl⟩ := e; exact h, fun h => ⟨_, _, _, rfl, h⟩⟩
theorem shW_get {l : List (Int × Int)} {k : Nat} (h : k < l.length) : l[k]? = some (shW l k) := by
  unfold shW
  rw [List.getD_eq_getElem?_getD, List.getElem?_eq_getElem h]
  rfl
theorem shW_ok {l : List (Int × Int)} (h : Good l) {k : Nat} (hk : k < l.length) : (1 ≤ (shW l k).1 ∧ (shW l k).1 ≤ 60) ∧ (1 ≤ (shW l k).2 ∧ (shW l k).2 ≤ 60) :=
  have h2 := good_mem h _ (List.mem_of_getElem? (shW_get hk))
  ⟨h2.1, h2.2.1⟩
theorem nK_eq {l : List (Int × Int)} (h : Good l) {k : Nat} (hk : k < l.length) : (wf l * (shW l k).1).fdiv (shW l k).2 = (nK l k : Int) ∧ nK l k ≤ 3600 := by
  have h1 := shW_ok h hk
  have h2 := good_wf h
  have h3 : 0 ≤ wf l * (shW l k).1 := Int.mul_nonneg (by omega) (by omega)
  have h4 : wf l * (shW l k).1 ≤ 60 * 60 := Int.mul_le_mul h2.2 h1.1.2 (by omega) (by omega)
  have h5 : (wf l * (shW l k).1).fdiv (shW l k).2 = wf l * (shW l k).1 / (shW l k).2 := Int.fdiv_eq_ediv_of_nonneg _ (by omega)
  have h6 : 0 ≤ wf l * (shW l k).1 / (shW l k).2 := Int.ediv_nonneg h3 (by omega)
  have h7 := Int.ediv_le_self (shW l k).2 h3
  unfold nK
  rw [h5]
  omega
theorem wN_len {l : List (Int × Int)} {b : Int × Int} (h : Good l) : ∀ i : Nat, i ≤ l.length → (wN l b i).length ≤ 3600 * i
  | 0, _ => Nat.le_refl _
  | i + 1, hi => by
    have := wN_len (b := b) h i (by omega)
    have h2 := (nK_eq h (k := i) (by omega)).2
    unfold wN at *
    rw [List.range_succ, List.flatMap_append, List.length_append]
    have : ([i].flatMap fun k => wK l b k (nK l k)).length ≤ 3600 := by
      show (wK l b i (nK l i) ++ []).length ≤ 3600
      rw [List.append_nil]
      unfold wK
      rw [List.length_map, List.length_range]
      exact h2
    omega
theorem wN_succ {l : List (Int × Int)} {b : Int × Int} {i : Nat} : wN l b (i + 1) = wN l b i ++ wK l b i (nK l i) := by
  unfold wN
  rw [List.range_succ, List.flatMap_append]
  show _ ++ (wK l b i (nK l i) ++ []) = _
  rw [List.append_nil]
theorem wK_succ {l : List (Int × Int)} {b : Int × Int} {k n : Nat} : wK l b k (n + 1) = wK l b k n ++ [wE l b k n] := by
  unfold wK
  rw [List.range_succ, List.map_append]
  rfl
theorem wins_len {l : List (Int × Int)} {b : Int × Int} (h : Good l) : (wins l b).length ≤ 28800 := by
  have := wN_len (b := b) h l.length (Nat.le_refl _)
  have := (good_len h).2
  unfold wins
  omega
theorem enumW_get {l : List (Int × Int)} {i : Nat} {d : D} (h : (enumP (l.map pr))[i]? = some d) : i < l.length ∧ d = D.T [.int (i : Int), pr (shW l i)] := by
  obtain ⟨p, hp, rfl⟩ := enumP_get h
  rw [List.getElem?_map] at hp
  obtain ⟨x, hx, rfl⟩ := Option.map_eq_some_iff.mp hp
  have hi := (List.getElem?_eq_some_iff.mp hx).1
  rw [shW_get hi] at hx
  cases hx
  exact ⟨hi, rfl⟩
theorem win_z {l : List (Int × Int)} {b : Int × Int} (h : Good l) (zb : ZF 64 b) {k c : Nat} (hk : k < l.length) (hc : c < 3600) : Z 300 (win (shW l k) b ((c : Int) + 1)).1 ∧ Z 300 (win (shW l k) b ((c : Int) + 1)).2 := by
  have h1 := shW_ok h hk
  exact Z.win ⟨Z.at64 (by omega), Z.at64 (by omega)⟩ zb (Z.at64 (by omega))
theorem s_all_windows {Φ : PhiT} (h_window : Φ 19 = C_window) (ds : List D) (Q : D → Prop) (E : Nat → Prop) (h : C_all_windows ds Q E) : ds.length = 3 ∧ wpS Φ exName b_all_windows (initE n_all_windows ds) (endF Q E) := by
  obtain ⟨l, b, t, rfl, hg, hb, zb, ht, hq⟩ := h
  refine ⟨rfl, ?_⟩
  simp only [wpS, wp, getV, getB, initE, endF, bindG, List.map_cons, List.map_nil, List.length_cons, List.length_nil, List.cons_append, List.nil_append, List.append_nil, List.getElem?_cons_zero, List.getElem?_cons_succ, List.set_cons_zero, List.set_cons_succ, partD, k_L, k_T, l_lenT, l_lenL, l_int, l_intB, l_abs, l_max2, l_max3, l_max4, l_min2, l_maxL, l_minL, l_sum, l_all, l_any, l_tupL, l_tupT, l_lisL, l_lisT, r_1, r_2, r_l, i_L, i_T, i_A, if_true, if_false, ite_true, ite_false, not_false_eq_true, not_true_eq_false, Bool.false_eq_true, ite_not, b_add, b_addT, b_addL, b_sub, b_subB, b_mul, b_mulT, b_mulL, b_fdiv, b_mod, b_pow, a_add, a_sub, a_mul, a_fdiv, c_lt, c_le, c_gt, c_ge, c_eqI, c_neI, c_eqB, c_neB, seqP, pysD, Option.map_some, List.replicate_zero, List.replicate_succ, Nat.zero_add, Nat.add_zero, Nat.reduceAdd, Nat.reduceSub, Nat.reduceLeDiff, decide_eq_true_eq, Bool.not_eq_true', decide_eq_false_iff_not, Nat.sub_self, Option.some.injEq, exists_eq_left', exists_eq_left, x_pick, f_pr, f_qd, f_prT, f_qdT, x_pr0, x_pr1, x_qd0, x_qd1, x_qd2, x_qd3, g_pr, g_qd, nl_pr, nl_qd, nl_I, nl_B, nl_N, l_pr, l_qd, l_prs, l_ti, l_li, c_eq_pr, c_ne_pr, c_eq_qd, c_ne_qd, i_pr, i_qd, i_prs, i_ti, i_li, true_and, and_true, sl0, sl1, sl2, sl3, sl4, sl5, sl6, sl7, sl8, sl9, sl10, sl11, sl12, sl13, sl14, mketa, wipe1, shE_cons, shE_nil, shS_sh, shS_ow, shS_none, eq_self, and_self, decide_true, decide_false, reduceCtorEq, false_and, and_false, true_implies, false_implies, implies_true, not_true_eq_false, Bool.not_true, Bool.not_false, Bool.true_and, Bool.false_and, Bool.and_true, Bool.and_false, Bool.or_true, Bool.true_or, Bool.or_false, Bool.false_or, Int.reduceLT, Int.reduceLE, Nat.reduceLT, h_window, p_window, b_all_windows, n_all_windows]
  subst ht
  have hl := good_len hg
  have hw := good_wf hg
  show forW _ _ (enumP (l.map pr)) _
  refine forW_rule (fun i ρ => i ≤ l.length ∧ ∃ s4 s5 s6 s7 s8 : Option Sl, ρ = [some (.sh (.py (prs l))), some (.sh (.py (pr b))), some (.sh (.I (wf l))), some (.ow ((wN l b i).map qd)), s4, s5, s6, s7, s8]) ⟨by omega, _, _, _, _, _, rfl⟩ ?_ ?_
  · rintro i d ρ K hd ⟨hi, s4, s5, s6, s7, s8, rfl⟩ hK
    obtain ⟨hi2, rfl⟩ := enumW_get hd
    have hs := shW_ok hg hi2
    have hn := nK_eq hg hi2
    simp only [wpS, wp, getV, getB, initE, endF, bindG, List.map_cons, List.map_nil, List.length_cons, List.length_nil, List.cons_append, List.nil_append, List.append_nil, List.getElem?_cons_zero, List.getElem?_cons_succ, List.set_cons_zero, List.set_cons_succ, partD, k_L, k_T, l_lenT, l_lenL, l_int, l_intB, l_abs, l_max2, l_max3, l_max4, l_min2, l_maxL, l_minL, l_sum, l_all, l_any, l_tupL, l_tupT, l_lisL, l_lisT, r_1, r_2, r_l, i_L, i_T, i_A, if_true, if_false, ite_true, ite_false, not_false_eq_true, not_true_eq_false, Bool.false_eq_true, ite_not, b_add, b_addT, b_addL, b_sub, b_subB, b_mul, b_mulT, b_mulL, b_fdiv, b_mod, b_pow, a_add, a_sub, a_mul, a_fdiv, c_lt, c_le, c_gt, c_ge, c_eqI, c_neI, c_eqB, c_neB, seqP, pysD, Option.map_some, List.replicate_zero, List.replicate_succ, Nat.zero_add, Nat.add_zero, Nat.reduceAdd, Nat.reduceSub, Nat.reduceLeDiff, decide_eq_true_eq, Bool.not_eq_true', decide_eq_false_iff_not, Nat.sub_self, Option.some.injEq, exists_eq_left', exists_eq_left, x_pick, f_pr, f_qd, f_prT, f_qdT, x_pr0, x_pr1, x_qd0, x_qd1, x_qd2, x_qd3, g_pr, g_qd, nl_pr, nl_qd, nl_I, nl_B, nl_N, l_pr, l_qd, l_prs, l_ti, l_li, c_eq_pr, c_ne_pr, c_eq_qd, c_ne_qd, i_pr, i_qd, i_prs, i_ti, i_li, true_and, and_true, sl0, sl1, sl2, sl3, sl4, sl5, sl6, sl7, sl8, sl9, sl10, sl11, sl12, sl13, sl14, mketa, wipe1, shE_cons, shE_nil, shS_sh, shS_ow, shS_none, eq_self, and_self, decide_true, decide_false, reduceCtorEq, false_and, and_false, true_implies, false_implies, implies_true, not_true_eq_false, Bool.not_true, Bool.not_false, Bool.true_and, Bool.false_and, Bool.and_true, Bool.and_false, Bool.or_true, Bool.true_or, Bool.or_false, Bool.false_or, Int.reduceLT, Int.reduceLE, Nat.reduceLT, h_window, p_window]
    rw [hn.1]
    refine ⟨cmz (n := 64) (m := 64) (Z.at64 (by omega)) (Z.at64 (by omega)) (by decide) (by decide), dvz (n := 64) (Z.at64 (by omega)) (by decide) (by omega), by omega, ?_⟩
    have e1 : rangeD 1 ((nK l i : Int) + 1) = (List.range (nK l i)).map fun (k : Nat) => D.I ((k : Int) + 1) := by
      unfold rangeD
      rw [show ((nK l i : Int) + 1 - 1).toNat = nK l i by omega]
      refine List.map_congr_left fun k _ => ?_
      show D.I (1 + (k : Int)) = D.I ((k : Int) + 1)
      rw [Int.add_comm]
    rw [e1]
    refine forW_rule (fun c ρ => c ≤ nK l i ∧ ∃ s6 s7 s8 : Option Sl, ρ = [some (.sh (.py (prs l))), some (.sh (.py (pr b))), some (.sh (.I (wf l))), some (.ow ((wN l b i ++ wK l b i c).map qd)), some (.sh (.I (i : Int))), some (.sh (.py (pr (shW l i)))), s6, s7, s8]) ⟨by omega, _, _, _, by unfold wK; rw [List.range_zero, List.map_nil, List.append_nil]⟩ ?_ ?_
    · rintro c d ρ K2 hd2 ⟨hc, s6, s7, s8, rfl⟩ hK2
      rw [List.getElem?_map] at hd2
      obtain ⟨c', hc', rfl⟩ := Option.map_eq_some_iff.mp hd2
      obtain ⟨hc0, e⟩ := List.getElem?_eq_some_iff.mp hc'
      rw [List.getElem_range] at e
      subst e
      rw [List.length_range] at hc0
      simp only [wpS, wp, getV, getB, initE, endF, bindG, List.map_cons, List.map_nil, List.length_cons, List.length_nil, List.cons_append, List.nil_append, List.append_nil, List.getElem?_cons_zero, List.getElem?_cons_succ, List.set_cons_zero, List.set_cons_succ, partD, k_L, k_T, l_lenT, l_lenL, l_int, l_intB, l_abs, l_max2, l_max3, l_max4, l_min2, l_maxL, l_minL, l_sum, l_all, l_any, l_tupL, l_tupT, l_lisL, l_lisT, r_1, r_2, r_l, i_L, i_T, i_A, if_true, if_false, ite_true, ite_false, not_false_eq_true, not_true_eq_false, Bool.false_eq_true, ite_not, b_add, b_addT, b_addL, b_sub, b_subB, b_mul, b_mulT, b_mulL, b_fdiv, b_mod, b_pow, a_add, a_sub, a_mul, a_fdiv, c_lt, c_le, c_gt, c_ge, c_eqI, c_neI, c_eqB, c_neB, seqP, pysD, Option.map_some, List.replicate_zero, List.replicate_succ, Nat.zero_add, Nat.add_zero, Nat.reduceAdd, Nat.reduceSub, Nat.reduceLeDiff, decide_eq_true_eq, Bool.not_eq_true', decide_eq_false_iff_not, Nat.sub_self, Option.some.injEq, exists_eq_left', exists_eq_left, x_pick, f_pr, f_qd, f_prT, f_qdT, x_pr0, x_pr1, x_qd0, x_qd1, x_qd2, x_qd3, g_pr, g_qd, nl_pr, nl_qd, nl_I, nl_B, nl_N, l_pr, l_qd, l_prs, l_ti, l_li, c_eq_pr, c_ne_pr, c_eq_qd, c_ne_qd, i_pr, i_qd, i_prs, i_ti, i_li, true_and, and_true, sl0, sl1, sl2, sl3, sl4, sl5, sl6, sl7, sl8, sl9, sl10, sl11, sl12, sl13, sl14, mketa, wipe1, shE_cons, shE_nil, shS_sh, shS_ow, shS_none, eq_self, and_self, decide_true, decide_false, reduceCtorEq, false_and, and_false, true_implies, false_implies, implies_true, not_true_eq_false, Bool.not_true, Bool.not_false, Bool.true_and, Bool.false_and, Bool.and_true, Bool.and_false, Bool.or_true, Bool.true_or, Bool.or_false, Bool.false_or, Int.reduceLT, Int.reduceLE, Nat.reduceLT, h_window, p_window]
      refine ⟨shW l i, by omega, by rw [Int.toNat_natCast]; exact shW_get hi2, ⟨Z.at64 (by omega), Z.at64 (by omega)⟩, zb, Z.at64 (by omega), by omega, by omega, ?_⟩
      rw [win_eq hb hs.1.1]
      have hwl := wN_len (b := b) hg i (by omega)
      have hkl : (wK l b i c).length = c := by unfold wK; rw [List.length_map, List.length_range]
      refine ⟨by rw [List.length_map, List.length_append, hkl, sl]; omega, hK2 _ ⟨by omega, _, _, _, by rw [wK_succ, ← List.append_assoc, List.map_append (l₂ := [wE l b i c])]; rfl⟩⟩
    · rintro ρ ⟨hc, s6, s7, s8, rfl⟩
      rw [List.length_map, List.length_range, ← wN_succ]
      exact hK _ ⟨by omega, _, _, _, _, _, rfl⟩
  · rintro ρ ⟨hi, s4, s5, s6, s7, s8, rfl⟩
    rw [enumP_len, List.length_map]
    exact hq
theorem rngW {n : Nat} : rangeD 0 (n : Int) = (List.range n).map fun (k : Nat) => D.I (k : Int) := by
  unfold rangeD
  rw [show ((n : Int) - 0).toNat = n by omega]
  refine List.map_congr_left fun k _ => ?_
  show D.I (0 + (k : Int)) = D.I (k : Int)
  rw [Int.zero_add]
theorem s_law_windows {Φ : PhiT} (h_law_whole : Φ 5 = C_law_whole) (h_law_window : Φ 7 = C_law_window) (ds : List D) (Q : D → Prop) (E : Nat → Prop) (h : C_law_windows ds Q E) : ds.length = 2 ∧ wpS Φ exName b_law_windows (initE n_law_windows ds) (endF Q E) := by
  obtain ⟨l, b, rfl, hg, hb, zb, hq⟩ := h
  refine ⟨rfl, ?_⟩
  simp only [wpS, wp, getV, getB, initE, endF, bindG, List.map_cons, List.map_nil, List.length_cons, List.length_nil, List.cons_append, List.nil_append, List.append_nil, List.getElem?_cons_zero, List.getElem?_cons_succ, List.set_cons_zero, List.set_cons_succ, partD, k_L, k_T, l_lenT, l_lenL, l_int, l_intB, l_abs, l_max2, l_max3, l_max4, l_min2, l_maxL, l_minL, l_sum, l_all, l_any, l_tupL, l_tupT, l_lisL, l_lisT, r_1, r_2, r_l, i_L, i_T, i_A, if_true, if_false, ite_true, ite_false, not_false_eq_true, not_true_eq_false, Bool.false_eq_true, ite_not, b_add, b_addT, b_addL, b_sub, b_subB, b_mul, b_mulT, b_mulL, b_fdiv, b_mod, b_pow, a_add, a_sub, a_mul, a_fdiv, c_lt, c_le, c_gt, c_ge, c_eqI, c_neI, c_eqB, c_neB, seqP, pysD, Option.map_some, List.replicate_zero, List.replicate_succ, Nat.zero_add, Nat.add_zero, Nat.reduceAdd, Nat.reduceSub, Nat.reduceLeDiff, decide_eq_true_eq, Bool.not_eq_true', decide_eq_false_iff_not, Nat.sub_self, Option.some.injEq, exists_eq_left', exists_eq_left, x_pick, f_pr, f_qd, f_prT, f_qdT, x_pr0, x_pr1, x_qd0, x_qd1, x_qd2, x_qd3, g_pr, g_qd, nl_pr, nl_qd, nl_I, nl_B, nl_N, l_pr, l_qd, l_prs, l_ti, l_li, c_eq_pr, c_ne_pr, c_eq_qd, c_ne_qd, i_pr, i_qd, i_prs, i_ti, i_li, true_and, and_true, sl0, sl1, sl2, sl3, sl4, sl5, sl6, sl7, sl8, sl9, sl10, sl11, sl12, sl13, sl14, mketa, wipe1, shE_cons, shE_nil, shS_sh, shS_ow, shS_none, eq_self, and_self, decide_true, decide_false, reduceCtorEq, false_and, and_false, true_implies, false_implies, implies_true, not_true_eq_false, Bool.not_true, Bool.not_false, Bool.true_and, Bool.false_and, Bool.and_true, Bool.and_false, Bool.or_true, Bool.true_or, Bool.or_false, Bool.false_or, Int.reduceLT, Int.reduceLE, Nat.reduceLT, h_law_whole, h_law_window, p_law_whole, p_law_window, b_law_windows, n_law_windows]
  have hl := good_len hg
  have hw := good_wf hg
  refine ⟨hg, by omega, ?_⟩
  rw [rngW]
  refine forW_rule (fun i ρ => i ≤ l.length ∧ ∃ s4 s5 s6 s7 : Option Sl, ρ = [some (.sh (.py (prs l))), some (.sh (.py (pr b))), some (.sh (.I (wf l))), some (.ow ((wN l b i).map lw)), s4, s5, s6, s7]) ⟨by omega, _, _, _, _, rfl⟩ ?_ ?_
  · rintro i d ρ K hd ⟨hi, s4, s5, s6, s7, rfl⟩ hK
    rw [List.getElem?_map] at hd
    obtain ⟨i', hi', rfl⟩ := Option.map_eq_some_iff.mp hd
    obtain ⟨hi2, e⟩ := List.getElem?_eq_some_iff.mp hi'
    rw [List.getElem_range] at e
    subst e
    rw [List.length_range] at hi2
    have hs := shW_ok hg hi2
    have hn := nK_eq hg hi2
    simp only [wpS, wp, getV, getB, initE, endF, bindG, List.map_cons, List.map_nil, List.length_cons, List.length_nil, List.cons_append, List.nil_append, List.append_nil, List.getElem?_cons_zero, List.getElem?_cons_succ, List.set_cons_zero, List.set_cons_succ, partD, k_L, k_T, l_lenT, l_lenL, l_int, l_intB, l_abs, l_max2, l_max3, l_max4, l_min2, l_maxL, l_minL, l_sum, l_all, l_any, l_tupL, l_tupT, l_lisL, l_lisT, r_1, r_2, r_l, i_L, i_T, i_A, if_true, if_false, ite_true, ite_false, not_false_eq_true, not_true_eq_false, Bool.false_eq_true, ite_not, b_add, b_addT, b_addL, b_sub, b_subB, b_mul, b_mulT, b_mulL, b_fdiv, b_mod, b_pow, a_add, a_sub, a_mul, a_fdiv, c_lt, c_le, c_gt, c_ge, c_eqI, c_neI, c_eqB, c_neB, seqP, pysD, Option.map_some, List.replicate_zero, List.replicate_succ, Nat.zero_add, Nat.add_zero, Nat.reduceAdd, Nat.reduceSub, Nat.reduceLeDiff, decide_eq_true_eq, Bool.not_eq_true', decide_eq_false_iff_not, Nat.sub_self, Option.some.injEq, exists_eq_left', exists_eq_left, x_pick, f_pr, f_qd, f_prT, f_qdT, x_pr0, x_pr1, x_qd0, x_qd1, x_qd2, x_qd3, g_pr, g_qd, nl_pr, nl_qd, nl_I, nl_B, nl_N, l_pr, l_qd, l_prs, l_ti, l_li, c_eq_pr, c_ne_pr, c_eq_qd, c_ne_qd, i_pr, i_qd, i_prs, i_ti, i_li, true_and, and_true, sl0, sl1, sl2, sl3, sl4, sl5, sl6, sl7, sl8, sl9, sl10, sl11, sl12, sl13, sl14, mketa, wipe1, shE_cons, shE_nil, shS_sh, shS_ow, shS_none, eq_self, and_self, decide_true, decide_false, reduceCtorEq, false_and, and_false, true_implies, false_implies, implies_true, not_true_eq_false, Bool.not_true, Bool.not_false, Bool.true_and, Bool.false_and, Bool.and_true, Bool.and_false, Bool.or_true, Bool.true_or, Bool.or_false, Bool.false_or, Int.reduceLT, Int.reduceLE, Nat.reduceLT, h_law_whole, h_law_window, p_law_whole, p_law_window]
    refine ix_prs (by omega) (by rw [Int.toNat_natCast]; exact shW_get hi2) ?_
    simp only [wpS, wp, getV, getB, initE, endF, bindG, List.map_cons, List.map_nil, List.length_cons, List.length_nil, List.cons_append, List.nil_append, List.append_nil, List.getElem?_cons_zero, List.getElem?_cons_succ, List.set_cons_zero, List.set_cons_succ, partD, k_L, k_T, l_lenT, l_lenL, l_int, l_intB, l_abs, l_max2, l_max3, l_max4, l_min2, l_maxL, l_minL, l_sum, l_all, l_any, l_tupL, l_tupT, l_lisL, l_lisT, r_1, r_2, r_l, i_L, i_T, i_A, if_true, if_false, ite_true, ite_false, not_false_eq_true, not_true_eq_false, Bool.false_eq_true, ite_not, b_add, b_addT, b_addL, b_sub, b_subB, b_mul, b_mulT, b_mulL, b_fdiv, b_mod, b_pow, a_add, a_sub, a_mul, a_fdiv, c_lt, c_le, c_gt, c_ge, c_eqI, c_neI, c_eqB, c_neB, seqP, pysD, Option.map_some, List.replicate_zero, List.replicate_succ, Nat.zero_add, Nat.add_zero, Nat.reduceAdd, Nat.reduceSub, Nat.reduceLeDiff, decide_eq_true_eq, Bool.not_eq_true', decide_eq_false_iff_not, Nat.sub_self, Option.some.injEq, exists_eq_left', exists_eq_left, x_pick, f_pr, f_qd, f_prT, f_qdT, x_pr0, x_pr1, x_qd0, x_qd1, x_qd2, x_qd3, g_pr, g_qd, nl_pr, nl_qd, nl_I, nl_B, nl_N, l_pr, l_qd, l_prs, l_ti, l_li, c_eq_pr, c_ne_pr, c_eq_qd, c_ne_qd, i_pr, i_qd, i_prs, i_ti, i_li, true_and, and_true, sl0, sl1, sl2, sl3, sl4, sl5, sl6, sl7, sl8, sl9, sl10, sl11, sl12, sl13, sl14, mketa, wipe1, shE_cons, shE_nil, shS_sh, shS_ow, shS_none, eq_self, and_self, decide_true, decide_false, reduceCtorEq, false_and, and_false, true_implies, false_implies, implies_true, not_true_eq_false, Bool.not_true, Bool.not_false, Bool.true_and, Bool.false_and, Bool.and_true, Bool.and_false, Bool.or_true, Bool.true_or, Bool.or_false, Bool.false_or, Int.reduceLT, Int.reduceLE, Nat.reduceLT, h_law_whole, h_law_window, p_law_whole, p_law_window]
    refine ⟨cmz (n := 64) (m := 64) (Z.at64 (by omega)) (Z.at64 (by omega)) (by decide) (by decide), ix_prs (by omega) (by rw [Int.toNat_natCast]; exact shW_get hi2) ?_⟩
    simp only [wpS, wp, getV, getB, initE, endF, bindG, List.map_cons, List.map_nil, List.length_cons, List.length_nil, List.cons_append, List.nil_append, List.append_nil, List.getElem?_cons_zero, List.getElem?_cons_succ, List.set_cons_zero, List.set_cons_succ, partD, k_L, k_T, l_lenT, l_lenL, l_int, l_intB, l_abs, l_max2, l_max3, l_max4, l_min2, l_maxL, l_minL, l_sum, l_all, l_any, l_tupL, l_tupT, l_lisL, l_lisT, r_1, r_2, r_l, i_L, i_T, i_A, if_true, if_false, ite_true, ite_false, not_false_eq_true, not_true_eq_false, Bool.false_eq_true, ite_not, b_add, b_addT, b_addL, b_sub, b_subB, b_mul, b_mulT, b_mulL, b_fdiv, b_mod, b_pow, a_add, a_sub, a_mul, a_fdiv, c_lt, c_le, c_gt, c_ge, c_eqI, c_neI, c_eqB, c_neB, seqP, pysD, Option.map_some, List.replicate_zero, List.replicate_succ, Nat.zero_add, Nat.add_zero, Nat.reduceAdd, Nat.reduceSub, Nat.reduceLeDiff, decide_eq_true_eq, Bool.not_eq_true', decide_eq_false_iff_not, Nat.sub_self, Option.some.injEq, exists_eq_left', exists_eq_left, x_pick, f_pr, f_qd, f_prT, f_qdT, x_pr0, x_pr1, x_qd0, x_qd1, x_qd2, x_qd3, g_pr, g_qd, nl_pr, nl_qd, nl_I, nl_B, nl_N, l_pr, l_qd, l_prs, l_ti, l_li, c_eq_pr, c_ne_pr, c_eq_qd, c_ne_qd, i_pr, i_qd, i_prs, i_ti, i_li, true_and, and_true, sl0, sl1, sl2, sl3, sl4, sl5, sl6, sl7, sl8, sl9, sl10, sl11, sl12, sl13, sl14, mketa, wipe1, shE_cons, shE_nil, shS_sh, shS_ow, shS_none, eq_self, and_self, decide_true, decide_false, reduceCtorEq, false_and, and_false, true_implies, false_implies, implies_true, not_true_eq_false, Bool.not_true, Bool.not_false, Bool.true_and, Bool.false_and, Bool.and_true, Bool.and_false, Bool.or_true, Bool.true_or, Bool.or_false, Bool.false_or, Int.reduceLT, Int.reduceLE, Nat.reduceLT, h_law_whole, h_law_window, p_law_whole, p_law_window]
    rw [hn.1]
    refine ⟨dvz (n := 64) (Z.at64 (by omega)) (by decide) (by omega), by omega, ?_⟩
    have e1 : rangeD 1 ((nK l i : Int) + 1) = (List.range (nK l i)).map fun (k : Nat) => D.I ((k : Int) + 1) := by
      unfold rangeD
      rw [show ((nK l i : Int) + 1 - 1).toNat = nK l i by omega]
      refine List.map_congr_left fun k _ => ?_
      show D.I (1 + (k : Int)) = D.I ((k : Int) + 1)
      rw [Int.add_comm]
    rw [e1]
    refine forW_rule (fun c ρ => c ≤ nK l i ∧ ∃ s5 s6 s7 : Option Sl, ρ = [some (.sh (.py (prs l))), some (.sh (.py (pr b))), some (.sh (.I (wf l))), some (.ow ((wN l b i ++ wK l b i c).map lw)), some (.sh (.I (i : Int))), s5, s6, s7]) ⟨by omega, _, _, _, by unfold wK; rw [List.range_zero, List.map_nil, List.append_nil]⟩ ?_ ?_
    · rintro c d ρ K2 hd2 ⟨hc, s5, s6, s7, rfl⟩ hK2
      rw [List.getElem?_map] at hd2
      obtain ⟨c', hc', rfl⟩ := Option.map_eq_some_iff.mp hd2
      obtain ⟨hc0, e⟩ := List.getElem?_eq_some_iff.mp hc'
      rw [List.getElem_range] at e
      subst e
      rw [List.length_range] at hc0
      simp only [wpS, wp, getV, getB, initE, endF, bindG, List.map_cons, List.map_nil, List.length_cons, List.length_nil, List.cons_append, List.nil_append, List.append_nil, List.getElem?_cons_zero, List.getElem?_cons_succ, List.set_cons_zero, List.set_cons_succ, partD, k_L, k_T, l_lenT, l_lenL, l_int, l_intB, l_abs, l_max2, l_max3, l_max4, l_min2, l_maxL, l_minL, l_sum, l_all, l_any, l_tupL, l_tupT, l_lisL, l_lisT, r_1, r_2, r_l, i_L, i_T, i_A, if_true, if_false, ite_true, ite_false, not_false_eq_true, not_true_eq_false, Bool.false_eq_true, ite_not, b_add, b_addT, b_addL, b_sub, b_subB, b_mul, b_mulT, b_mulL, b_fdiv, b_mod, b_pow, a_add, a_sub, a_mul, a_fdiv, c_lt, c_le, c_gt, c_ge, c_eqI, c_neI, c_eqB, c_neB, seqP, pysD, Option.map_some, List.replicate_zero, List.replicate_succ, Nat.zero_add, Nat.add_zero, Nat.reduceAdd, Nat.reduceSub, Nat.reduceLeDiff, decide_eq_true_eq, Bool.not_eq_true', decide_eq_false_iff_not, Nat.sub_self, Option.some.injEq, exists_eq_left', exists_eq_left, x_pick, f_pr, f_qd, f_prT, f_qdT, x_pr0, x_pr1, x_qd0, x_qd1, x_qd2, x_qd3, g_pr, g_qd, nl_pr, nl_qd, nl_I, nl_B, nl_N, l_pr, l_qd, l_prs, l_ti, l_li, c_eq_pr, c_ne_pr, c_eq_qd, c_ne_qd, i_pr, i_qd, i_prs, i_ti, i_li, true_and, and_true, sl0, sl1, sl2, sl3, sl4, sl5, sl6, sl7, sl8, sl9, sl10, sl11, sl12, sl13, sl14, mketa, wipe1, shE_cons, shE_nil, shS_sh, shS_ow, shS_none, eq_self, and_self, decide_true, decide_false, reduceCtorEq, false_and, and_false, true_implies, false_implies, implies_true, not_true_eq_false, Bool.not_true, Bool.not_false, Bool.true_and, Bool.false_and, Bool.and_true, Bool.and_false, Bool.or_true, Bool.true_or, Bool.or_false, Bool.false_or, Int.reduceLT, Int.reduceLE, Nat.reduceLT, h_law_whole, h_law_window, p_law_whole, p_law_window]
      refine ⟨shW l i, by omega, by rw [Int.toNat_natCast]; exact shW_get hi2, ⟨Z.at64 (by omega), Z.at64 (by omega)⟩, zb, Z.at64 (by omega), by omega, by omega, ?_⟩
      have hwl := wN_len (b := b) hg i (by omega)
      have hkl : (wK l b i c).length = c := by unfold wK; rw [List.length_map, List.length_range]
      refine ⟨by rw [List.length_map, List.length_append, hkl, sl]; omega, hK2 _ ⟨by omega, _, _, _, by rw [wK_succ, ← List.append_assoc, List.map_append (l₂ := [wE l b i c])]; rfl⟩⟩
    · rintro ρ ⟨hc, s5, s6, s7, rfl⟩
      rw [List.length_map, List.length_range, ← wN_succ]
      exact hK _ ⟨by omega, _, _, _, _, rfl⟩
  · rintro ρ ⟨hi, s4, s5, s6, s7, rfl⟩
    rw [List.length_map, List.length_range]
    simp only [wpS, wp, getV, getB, initE, endF, bindG, List.map_cons, List.map_nil, List.length_cons, List.length_nil, List.cons_append, List.nil_append, List.append_nil, List.getElem?_cons_zero, List.getElem?_cons_succ, List.set_cons_zero, List.set_cons_succ, partD, k_L, k_T, l_lenT, l_lenL, l_int, l_intB, l_abs, l_max2, l_max3, l_max4, l_min2, l_maxL, l_minL, l_sum, l_all, l_any, l_tupL, l_tupT, l_lisL, l_lisT, r_1, r_2, r_l, i_L, i_T, i_A, if_true, if_false, ite_true, ite_false, not_false_eq_true, not_true_eq_false, Bool.false_eq_true, ite_not, b_add, b_addT, b_addL, b_sub, b_subB, b_mul, b_mulT, b_mulL, b_fdiv, b_mod, b_pow, a_add, a_sub, a_mul, a_fdiv, c_lt, c_le, c_gt, c_ge, c_eqI, c_neI, c_eqB, c_neB, seqP, pysD, Option.map_some, List.replicate_zero, List.replicate_succ, Nat.zero_add, Nat.add_zero, Nat.reduceAdd, Nat.reduceSub, Nat.reduceLeDiff, decide_eq_true_eq, Bool.not_eq_true', decide_eq_false_iff_not, Nat.sub_self, Option.some.injEq, exists_eq_left', exists_eq_left, x_pick, f_pr, f_qd, f_prT, f_qdT, x_pr0, x_pr1, x_qd0, x_qd1, x_qd2, x_qd3, g_pr, g_qd, nl_pr, nl_qd, nl_I, nl_B, nl_N, l_pr, l_qd, l_prs, l_ti, l_li, c_eq_pr, c_ne_pr, c_eq_qd, c_ne_qd, i_pr, i_qd, i_prs, i_ti, i_li, true_and, and_true, sl0, sl1, sl2, sl3, sl4, sl5, sl6, sl7, sl8, sl9, sl10, sl11, sl12, sl13, sl14, mketa, wipe1, shE_cons, shE_nil, shS_sh, shS_ow, shS_none, eq_self, and_self, decide_true, decide_false, reduceCtorEq, false_and, and_false, true_implies, false_implies, implies_true, not_true_eq_false, Bool.not_true, Bool.not_false, Bool.true_and, Bool.false_and, Bool.and_true, Bool.and_false, Bool.or_true, Bool.true_or, Bool.or_false, Bool.false_or, Int.reduceLT, Int.reduceLE, Nat.reduceLT, h_law_whole, h_law_window, p_law_whole, p_law_window]
    exact hq
theorem s_judge_crowded {Φ : PhiT} (h_check_shares : Φ 16 = C_check_shares) (h_check_bound : Φ 17 = C_check_bound) (h_whole_of : Φ 14 = C_whole_of) (h_all_windows : Φ 37 = C_all_windows) (ds : List D) (Q : D → Prop) (E : Nat → Prop) (h : C_judge_crowded ds Q E) : ds.length = 3 ∧ wpS Φ exName b_judge_crowded (initE n_judge_crowded ds) (endF Q E) := by
  obtain ⟨l, b, s, rfl, hx, hl, zb, hq, he⟩ := h
  refine ⟨rfl, ?_⟩
  simp only [wpS, wp, getV, getB, initE, endF, bindG, List.map_cons, List.map_nil, List.length_cons, List.length_nil, List.cons_append, List.nil_append, List.append_nil, List.getElem?_cons_zero, List.getElem?_cons_succ, List.set_cons_zero, List.set_cons_succ, partD, k_L, k_T, l_lenT, l_lenL, l_int, l_intB, l_abs, l_max2, l_max3, l_max4, l_min2, l_maxL, l_minL, l_sum, l_all, l_any, l_tupL, l_tupT, l_lisL, l_lisT, r_1, r_2, r_l, i_L, i_T, i_A, if_true, if_false, ite_true, ite_false, not_false_eq_true, not_true_eq_false, Bool.false_eq_true, ite_not, b_add, b_addT, b_addL, b_sub, b_subB, b_mul, b_mulT, b_mulL, b_fdiv, b_mod, b_pow, a_add, a_sub, a_mul, a_fdiv, c_lt, c_le, c_gt, c_ge, c_eqI, c_neI, c_eqB, c_neB, seqP, pysD, Option.map_some, List.replicate_zero, List.replicate_succ, Nat.zero_add, Nat.add_zero, Nat.reduceAdd, Nat.reduceSub, Nat.reduceLeDiff, decide_eq_true_eq, Bool.not_eq_true', decide_eq_false_iff_not, Nat.sub_self, Option.some.injEq, exists_eq_left', exists_eq_left, x_pick, f_pr, f_qd, f_prT, f_qdT, x_pr0, x_pr1, x_qd0, x_qd1, x_qd2, x_qd3, g_pr, g_qd, nl_pr, nl_qd, nl_I, nl_B, nl_N, l_pr, l_qd, l_prs, l_ti, l_li, c_eq_pr, c_ne_pr, c_eq_qd, c_ne_qd, i_pr, i_qd, i_prs, i_ti, i_li, true_and, and_true, sl0, sl1, sl2, sl3, sl4, sl5, sl6, sl7, sl8, sl9, sl10, sl11, sl12, sl13, sl14, mketa, wipe1, shE_cons, shE_nil, shS_sh, shS_ow, shS_none, eq_self, and_self, decide_true, decide_false, reduceCtorEq, false_and, and_false, true_implies, false_implies, implies_true, not_true_eq_false, Bool.not_true, Bool.not_false, Bool.true_and, Bool.false_and, Bool.and_true, Bool.and_false, Bool.or_true, Bool.true_or, Bool.or_false, Bool.false_or, Int.reduceLT, Int.reduceLE, Nat.reduceLT, h_check_shares, h_check_bound, h_whole_of, h_all_windows, p_check_shares, p_check_bound, p_whole_of, p_all_windows, b_judge_crowded, n_judge_crowded]
  refine ⟨hx, hl, fun h1 => ⟨fun h2 => ?_, fun h2 => he fun z => h2 z.2⟩, fun h1 => he fun z => by rw [z.1] at h1; cases h1⟩
  obtain ⟨hg, hq⟩ := hq ⟨h1, h2⟩
  have hgl := good_len hg
  have hgm := good_mem hg
  have l8 : ∀ x ∈ l, 1 ≤ x.2 ∧ ZF 8 x := fun x h => ⟨(hgm x h).2.1.1, hx x h⟩
  have hb2 : 1 ≤ b.2 := by
    have := h2.1
    unfold okF at this
    rw [Bool.and_eq_true] at this
    exact of_decide_eq_true this.1
  have hwl := wins_len (b := b) hg
  refine ⟨hgl.2, l8, ?_⟩
  unfold judB inW at hq
  by_cases c1 : 1 ≤ s.1
  · by_cases c2 : s.1 ≤ wf l
    · by_cases c3 : s.1 - 1 ≤ s.2
      · by_cases c4 : s.2 ≤ wf l
        · rw [if_pos c1, if_pos c2, if_pos c3, if_pos c4]
          rw [decide_eq_true c1, decide_eq_true c2, decide_eq_true c3, decide_eq_true c4] at hq
          refine ⟨hg, hb2, zb, ?_⟩
          have e1 : itemsD (.py (wP l b)) = some ((wins l b).map fun q => D.py (qd q)) := by
            show some (((wins l b).map qd).map D.py) = _
            rw [List.map_map]
            rfl
          rw [e1]
          refine compW_filter (p := insB s.1 s.2) (g := fun _ => PyData.int 1) (by rw [sl]; omega) (fun q hq' K hK1 hK0 => ?_) ?_
          · unfold insB at hK1 hK0
            simp only [wpS, wp, getV, getB, initE, endF, bindG, List.map_cons, List.map_nil, List.length_cons, List.length_nil, List.cons_append, List.nil_append, List.append_nil, List.getElem?_cons_zero, List.getElem?_cons_succ, List.set_cons_zero, List.set_cons_succ, partD, k_L, k_T, l_lenT, l_lenL, l_int, l_intB, l_abs, l_max2, l_max3, l_max4, l_min2, l_maxL, l_minL, l_sum, l_all, l_any, l_tupL, l_tupT, l_lisL, l_lisT, r_1, r_2, r_l, i_L, i_T, i_A, if_true, if_false, ite_true, ite_false, not_false_eq_true, not_true_eq_false, Bool.false_eq_true, ite_not, b_add, b_addT, b_addL, b_sub, b_subB, b_mul, b_mulT, b_mulL, b_fdiv, b_mod, b_pow, a_add, a_sub, a_mul, a_fdiv, c_lt, c_le, c_gt, c_ge, c_eqI, c_neI, c_eqB, c_neB, seqP, pysD, Option.map_some, List.replicate_zero, List.replicate_succ, Nat.zero_add, Nat.add_zero, Nat.reduceAdd, Nat.reduceSub, Nat.reduceLeDiff, decide_eq_true_eq, Bool.not_eq_true', decide_eq_false_iff_not, Nat.sub_self, Option.some.injEq, exists_eq_left', exists_eq_left, x_pick, f_pr, f_qd, f_prT, f_qdT, x_pr0, x_pr1, x_qd0, x_qd1, x_qd2, x_qd3, g_pr, g_qd, nl_pr, nl_qd, nl_I, nl_B, nl_N, l_pr, l_qd, l_prs, l_ti, l_li, c_eq_pr, c_ne_pr, c_eq_qd, c_ne_qd, i_pr, i_qd, i_prs, i_ti, i_li, true_and, and_true, sl0, sl1, sl2, sl3, sl4, sl5, sl6, sl7, sl8, sl9, sl10, sl11, sl12, sl13, sl14, mketa, wipe1, shE_cons, shE_nil, shS_sh, shS_ow, shS_none, eq_self, and_self, decide_true, decide_false, reduceCtorEq, false_and, and_false, true_implies, false_implies, implies_true, not_true_eq_false, Bool.not_true, Bool.not_false, Bool.true_and, Bool.false_and, Bool.and_true, Bool.and_false, Bool.or_true, Bool.true_or, Bool.or_false, Bool.false_or, Int.reduceLT, Int.reduceLE, Nat.reduceLT, h_check_shares, h_check_bound, h_whole_of, h_all_windows, p_check_shares, p_check_bound, p_whole_of, p_all_windows, wipeE]
            by_cases d1 : s.1 ≤ q.2.1
            · rw [if_pos d1]
              rw [decide_eq_true d1, Bool.true_and] at hK1 hK0
              split
              · rename_i d2
                exact hK1 (decide_eq_true d2)
              · rename_i d2
                exact hK0 (decide_eq_false d2)
            · rw [if_neg d1]
              rw [decide_eq_false d1, Bool.false_and] at hK0
              exact hK0 rfl
          · rw [List.length_map]
            exact hq
        · rw [if_pos c1, if_pos c2, if_pos c3, if_neg c4]
          rw [decide_eq_false c4, Bool.and_false, Bool.and_false, Bool.false_and] at hq
          exact hq
      · rw [if_pos c1, if_pos c2, if_neg c3]
        rw [decide_eq_false c3, Bool.false_and, Bool.and_false, Bool.false_and] at hq
        exact hq
    · rw [if_pos c1, if_neg c2]
      rw [decide_eq_false c2, Bool.and_false, Bool.false_and, Bool.false_and] at hq
      exact hq
  · rw [if_neg c1]
    rw [decide_eq_false c1, Bool.false_and, Bool.false_and, Bool.false_and] at hq
    exact hq
/-! ### the row -/
def n_placed : List Str := ["shares", "bound", "whole", "waiting", "row", "turn", "ready", "first", "one"]
/-- placed: number 38 -/
def b_placed : S := (.seq (.asg 2 (.call 14 (.cons (.var 0) .nil))) (.seq (.asgL 3 (.calln 37 (.cons (.var 0) (.cons (.var 1) (.cons (.var 2) .nil))))) (.seq (.asgL 4 (.lst (.nil))) (.seq (.for_ (.var 5) (.rng (.cons (.lit (.int 1)) (.cons (.bin .add (.var 2) (.lit (.int 1))) .nil))) (.seq (.asg 6 (.comp [("one", 8)] (.var 8) (.var 8) (.bvar 3) (.cmp .LtE (.ix (.var 8) (.lit (.int 1))) (.var 5)))) (.seq (.ite (.cmp .Eq (.bi .len (.cons (.var 6) .nil)) (.lit (.int 0))) (.seq (.ret (.lit .none)) .nil) .nil) (.seq (.asg 7 (.minK [0, 2, 3] (.var 6))) (.seq (.ite (.cmp .Lt (.ix (.var 7) (.lit (.int 0))) (.var 5)) (.seq (.ret (.lit .none)) .nil) .nil) (.seq (.rem 3 (.var 7)) (.seq (.app 4 (.ix (.var 7) (.lit (.int 2)))) .nil))))))) (.seq (.ret (.bi .tuple (.cons (.bvar 4) .nil))) .nil)))))
def n_row_within : List Str := ["shares", "bound", "found"]
/-- row_within: number 39 -/
def b_row_within : S := (.seq (.expr (.call 16 (.cons (.var 0) .nil))) (.seq (.expr (.call 17 (.cons (.var 1) .nil))) (.seq (.asg 2 (.call 38 (.cons (.var 0) (.cons (.var 1) .nil)))) (.seq (.ite (.cmp .Is (.var 2) (.lit .none)) (.seq (.raise 2 .nil) .nil) .nil) (.seq (.ret (.var 2)) .nil)))))
abbrev Qd := Int × Int × Int × Int
/-- i turns are given: pl, from the front; ws wait -/
inductive Edf (l : List (Int × Int)) (b : Int × Int) : Nat → List Qd → List Qd → Prop
  | base : Edf l b 0 [] (wins l b)
  | step {i : Nat} {pl ws ws' : List Qd} {q : Qd} : Edf l b i pl ws → q ∈ ws → q.2.1 ≤ i + 1 → (i : Int) + 1 ≤ q.1 → (∀ y ∈ ws, y.2.1 ≤ i + 1 → q.1 ≤ y.1) → ws.Perm (q :: ws') → Edf l b (i + 1) (pl ++ [q]) ws'
def EdfFail (l : List (Int × Int)) (b : Int × Int) : Prop := ∃ i pl ws, Edf l b i pl ws ∧ (i : Int) < wf l ∧ ((∀ y ∈ ws, ¬ y.2.1 ≤ (i : Int) + 1) ∨ ∃ q ∈ ws, q.2.1 ≤ (i : Int) + 1 ∧ q.1 < (i : Int) + 1)
def rowOf (pl : List Qd) : List Int := pl.map fun q => q.2.2.1
def C_placed : Ct := fun ds Q E => ∃ (l : List (Int × Int)) (b : Int × Int), ds = [.py (prs l), .py (pr b)] ∧ (Good l ∧ 1 ≤ b.2 ∧ ZF 64 b ∧ (EdfFail l b → Q .N) ∧ ∀ pl ws, Edf l b (wf l).toNat pl ws → Q (.py (ti (rowOf pl))))
theorem p_placed {l : List (Int × Int)} {b : Int × Int} {Q : D → Prop} {E : Nat → Prop} : C_placed [.py (prs l), .py (pr b)] Q E ↔ (Good l ∧ 1 ≤ b.2 ∧ ZF 64 b ∧ (EdfFail l b → Q .N) ∧ ∀ pl ws, Edf l b (wf l).toNat pl ws → Q (.py (ti (rowOf pl)))) := ⟨fun ⟨l', b', e, h⟩ => by simp only [List.cons.injEq, D.py.injEq, PyData.int.injEq, PyData.bool.injEq, PyData.str.injEq, pr_inj, qd_inj, prs_inj, ti_inj, li_inj, and_true, true_and] at e; obtain ⟨rfl, rfl⟩ := e; exact h, fun h => ⟨_, _, rfl, h⟩⟩
def C_row_within : Ct := fun ds Q E => ∃ (l : List (Int × Int)) (b : Int × Int), ds = [.py (prs l), .py (pr b)] ∧ ((∀ x ∈ l, ZF 8 x) ∧ l.length ≤ 1000 ∧ ZF 64 b ∧ ((okSh l = true ∧ okF b = true ∧ 0 ≤ b.1) → Good l ∧ (EdfFail l b → E 2) ∧ ∀ pl ws, Edf l b (wf l).toNat pl ws → Q (.py (ti (rowOf pl)))) ∧ (¬ (okSh l = true ∧ okF b = true ∧ 0 ≤ b.1) → E 0))
theorem p_row_within {l : List (Int × Int)} {b : Int × Int} {Q : D → Prop} {E : Nat → Prop} : C_row_within [.py (prs l), .py (pr b)] Q E ↔ ((∀ x ∈ l, ZF 8 x) ∧ l.length ≤ 1000 ∧ ZF 64 b ∧ ((okSh l = true ∧ okF b = true ∧ 0 ≤ b.1) → Good l ∧ (EdfFail l b → E 2) ∧ ∀ pl ws, Edf l b (wf l).toNat pl ws → Q (.py (ti (rowOf pl)))) ∧ (¬ (okSh l = true ∧ okF b = true ∧ 0 ≤ b.1) → E 0)) := ⟨fun ⟨l', b', e, h⟩ => by simp only [List.cons.injEq, D.py.injEq, PyData.int.injEq, PyData.bool.injEq, PyData.str.injEq, pr_inj, qd_inj, prs_inj, ti_inj, li_inj, and_true, true_and] at e; obtain ⟨rfl, rfl⟩ := e; exact h, fun h => ⟨_, _, rfl, h⟩⟩
theorem edf_perm {l : List (Int × Int)} {b : Int × Int} {i : Nat} {pl ws : List Qd} (h : Edf l b i pl ws) : (wins l b).Perm (pl ++ ws) ∧ pl.length = i := by
  induction h with
  | base => exact ⟨List.Perm.refl _, rfl⟩
  | step h hq h1 h2 h3 hp ih =>
    refine ⟨ih.1.trans ?_, by rw [List.length_append, ih.2]; rfl⟩
    rw [List.append_assoc]
    exact List.Perm.append_left _ hp
theorem mem_wins {l : List (Int × Int)} {b : Int × Int} {q : Qd} (h : q ∈ wins l b) : ∃ k c : Nat, k < l.length ∧ c < nK l k ∧ q = wE l b k c := by
  unfold wins wN at h
  obtain ⟨k, hk, h⟩ := List.mem_flatMap.mp h
  obtain ⟨c, hc, rfl⟩ := List.mem_map.mp h
  exact ⟨k, c, List.mem_range.mp hk, List.mem_range.mp hc, rfl⟩
theorem wins_z {l : List (Int × Int)} {b : Int × Int} (hg : Good l) (zb : ZF 64 b) {q : Qd} (h : q ∈ wins l b) : Z 301 q.1 ∧ Z 301 q.2.1 ∧ (0 ≤ q.2.2.1 ∧ q.2.2.1 < l.length) ∧ (1 ≤ q.2.2.2 ∧ q.2.2.2 ≤ 3600) := by
  obtain ⟨k, c, hk, hc, rfl⟩ := mem_wins h
  have h2 := (nK_eq hg hk).2
  have h3 := win_z hg zb hk (c := c) (by omega)
  have hw := good_wf hg
  have zw : Z 300 (wf l) := Z.mono (Z.at64 (by omega)) (by decide)
  refine ⟨Z.mono (Z.mn h3.2 zw) (by decide), h3.1.mono (by decide), ?_, ?_⟩
  · show 0 ≤ (k : Int) ∧ (k : Int) < l.length
    omega
  · show 1 ≤ (c : Int) + 1 ∧ (c : Int) + 1 ≤ 3600
    omega
theorem edf_mem {l : List (Int × Int)} {b : Int × Int} {i : Nat} {pl ws : List Qd} (h : Edf l b i pl ws) {q : Qd} (hq : q ∈ pl ∨ q ∈ ws) : q ∈ wins l b :=
  (edf_perm h).1.mem_iff.mpr (List.mem_append.mpr hq)
theorem erase_map {α β : Type} (f : α → β) : ∀ (l : List α) (j : Nat), (l.map f).eraseIdx j = (l.eraseIdx j).map f
  | [], _ => rfl
  | _ :: _, 0 => rfl
  | a :: l, j + 1 => by
    show f a :: (l.map f).eraseIdx j = f a :: (l.eraseIdx j).map f
    rw [erase_map f l j]
theorem erase_perm {α : Type} : ∀ {l : List α} {j : Nat} {a : α}, l[j]? = some a → l.Perm (a :: l.eraseIdx j)
  | [], _, _, h => by simp at h
  | x :: l, 0, a, h => by
    simp at h
    subst h
    exact List.Perm.refl _
  | x :: l, j + 1, a, h => by
    have := erase_perm (l := l) (j := j) (a := a) (by simpa using h)
    exact (List.Perm.cons x this).trans (List.Perm.swap a x _)
theorem place_qd {ws : List Qd} {q : Qd} (h : q ∈ ws) : ∃ j, SeqAt.dataPlace (ws.map qd) (qd q) = some j ∧ ((ws.map qd).eraseIdx j = (ws.eraseIdx j).map qd) ∧ ws.Perm (q :: ws.eraseIdx j) := by
  cases e : SeqAt.dataPlace (ws.map qd) (qd q) with
  | none =>
    have := List.findIdx?_eq_none_iff.mp e (qd q) (List.mem_map.mpr ⟨q, h, rfl⟩)
    rw [eqv_qd, decide_eq_true rfl] at this
    cases this
  | some j =>
    obtain ⟨h1, h2, _⟩ := List.findIdx?_eq_some_iff_getElem.mp e
    rw [List.length_map] at h1
    rw [List.getElem_map, eqv_qd] at h2
    have h2 := of_decide_eq_true h2
    refine ⟨j, rfl, erase_map _ _ _, erase_perm ?_⟩
    rw [List.getElem?_eq_getElem h1, h2]
theorem lex_hd {a c : Int} {as cs : List Int} : (HT.lexLt (a :: as) (c :: cs) = true → a ≤ c) ∧ (HT.lexLt (a :: as) (c :: cs) = false → c ≤ a) := by
  rw [HT.lexLt_cons]
  by_cases h : a = c
  · rw [if_pos h]
    exact ⟨fun _ => by omega, fun _ => by omega⟩
  · rw [if_neg h]
    exact ⟨fun z => by have := of_decide_eq_true z; omega, fun z => by have := of_decide_eq_false z; omega⟩
/-- the first of the least -/
theorem best_le {hd : Nat → Int} {tl : Nat → List Int} : ∀ n : Nat, argBest (fun i j => HT.lexLt (hd i :: tl i) (hd j :: tl j)) n ≤ n ∧ ∀ j ≤ n, hd (argBest (fun i j => HT.lexLt (hd i :: tl i) (hd j :: tl j)) n) ≤ hd j
  | 0 => ⟨Nat.le_refl _, fun j h => by
    have : j = 0 := by omega
    subst this
    exact Int.le_refl _⟩
  | n + 1 => by
    obtain ⟨h1, h2⟩ := best_le (hd := hd) (tl := tl) n
    show (if HT.lexLt (hd (n + 1) :: tl (n + 1)) (hd _ :: tl _) = true then n + 1 else _) ≤ n + 1 ∧ ∀ j ≤ n + 1, hd (if HT.lexLt (hd (n + 1) :: tl (n + 1)) (hd _ :: tl _) = true then n + 1 else _) ≤ hd j
    split
    · rename_i h
      have := lex_hd.1 h
      refine ⟨Nat.le_refl _, fun j hj => ?_⟩
      rcases Nat.lt_or_ge j (n + 1) with z | z
      · exact Int.le_trans this (h2 j (by omega))
      · have : j = n + 1 := by omega
        subst this
        exact Int.le_refl _
    · rename_i h
      have := lex_hd.2 (by simpa using h)
      refine ⟨by omega, fun j hj => ?_⟩
      rcases Nat.lt_or_ge j (n + 1) with z | z
      · exact h2 j (by omega)
      · have : j = n + 1 := by omega
        subst this
        assumption
theorem arg_congr {f g : Nat → Nat → Bool} : ∀ {n : Nat}, (∀ i j, i ≤ n → j ≤ n → f i j = g i j) → argBest f n = argBest g n ∧ argBest f n ≤ n
  | 0, _ => ⟨rfl, Nat.le_refl _⟩
  | n + 1, h => by
    obtain ⟨h1, h2⟩ := arg_congr (f := f) (g := g) (n := n) fun i j hi hj => h i j (by omega) (by omega)
    have e : f (n + 1) (argBest f n) = g (n + 1) (argBest g n) := by rw [← h1]; exact h _ _ (by omega) (by omega)
    show (if f (n + 1) (argBest f n) = true then n + 1 else argBest f n) = (if g (n + 1) (argBest g n) = true then n + 1 else argBest g n) ∧ (if f (n + 1) (argBest f n) = true then n + 1 else argBest f n) ≤ n + 1
    rw [e, h1]
    refine ⟨rfl, ?_⟩
    split
    · omega
    · omega
theorem best_qd {rs : List Qd} (h : 0 < rs.length) : ∃ q, rs[bestI [0, 2, 3] (rs.map qd)]? = some q ∧ q ∈ rs ∧ ∀ y ∈ rs, q.1 ≤ y.1 := by
  have hk : ∀ i, i ≤ rs.length - 1 → keyAt [0, 2, 3] (rs.map qd) i = (rs.getD i (0, 0, 0, 0)).1 :: [(rs.getD i (0, 0, 0, 0)).2.2.1, (rs.getD i (0, 0, 0, 0)).2.2.2] := by
    intro i hi
    have hi' : i < rs.length := by omega
    unfold keyAt
    rw [List.getD_eq_getElem?_getD, List.getElem?_map, List.getD_eq_getElem?_getD, List.getElem?_eq_getElem hi']
    rfl
  have hb : bestI [0, 2, 3] (rs.map qd) = argBest (fun i j => HT.lexLt ((rs.getD i (0, 0, 0, 0)).1 :: [(rs.getD i (0, 0, 0, 0)).2.2.1, (rs.getD i (0, 0, 0, 0)).2.2.2]) ((rs.getD j (0, 0, 0, 0)).1 :: [(rs.getD j (0, 0, 0, 0)).2.2.1, (rs.getD j (0, 0, 0, 0)).2.2.2])) (rs.length - 1) := by
    unfold bestI
    rw [List.length_map]
    refine (arg_congr fun i j hi hj => ?_).1
    rw [hk i hi, hk j hj]
  obtain ⟨g1, g2⟩ := best_le (hd := fun i => (rs.getD i (0, 0, 0, 0)).1) (tl := fun i => [(rs.getD i (0, 0, 0, 0)).2.2.1, (rs.getD i (0, 0, 0, 0)).2.2.2]) (rs.length - 1)
  rw [← hb] at g1 g2
  have hlt : bestI [0, 2, 3] (rs.map qd) < rs.length := by omega
  refine ⟨rs[bestI [0, 2, 3] (rs.map qd)], List.getElem?_eq_getElem hlt, List.getElem_mem hlt, fun y hy => ?_⟩
  obtain ⟨j, hj, rfl⟩ := List.getElem_of_mem hy
  have := g2 j (by omega)
  rw [List.getD_eq_getElem?_getD, List.getElem?_eq_getElem hlt, List.getD_eq_getElem?_getD, List.getElem?_eq_getElem hj] at this
  exact this
theorem plain_qds : ∀ ws : List Qd, PyData.plainAll (ws.map qd) = true
  | [] => rfl
  | q :: ws => by
    rw [List.map_cons]
    show (PyData.plain (qd q) && PyData.plainAll (ws.map qd)) = true
    rw [plain_qds ws]
    rfl
theorem noL_prs : ∀ l : List (Int × Int), noLA (l.map pr) = true
  | [] => rfl
  | x :: l => by
    rw [List.map_cons]
    show (noLP (pr x) && noLA (l.map pr)) = true
    rw [noL_prs l]
    rfl
theorem noL_qds : ∀ l : List Qd, noLA (l.map qd) = true
  | [] => rfl
  | x :: l => by
    rw [List.map_cons]
    show (noLP (qd x) && noLA (l.map qd)) = true
    rw [noL_qds l]
    rfl
theorem shp_qds {l : List (Int × Int)} {b : Int × Int} (hg : Good l) (zb : ZF 64 b) {ws : List Qd} (h : ∀ q ∈ ws, q ∈ wins l b) : SeqAt.shaped (.list (ws.map qd)) = true := by
  have hgl := good_len hg
  refine (Sh.lst (ShA.all (n := 4) (d := 1) fun p hp => ?_)).shaped (by decide)
  obtain ⟨q, hq, rfl⟩ := List.mem_map.mp hp
  have z := wins_z hg zb (h q hq)
  exact Sh.qd (z.1.big (by decide)) (z.2.1.big (by decide)) ((Z.at64 (by omega)).big (by decide)) ((Z.at64 (by omega)).big (by decide))
theorem s_placed {Φ : PhiT} (h_whole_of : Φ 14 = C_whole_of) (h_all_windows : Φ 37 = C_all_windows) (ds : List D) (Q : D → Prop) (E : Nat → Prop) (h : C_placed ds Q E) : ds.length = 2 ∧ wpS Φ exName b_placed (initE n_placed ds) (endF Q E) := by
  obtain ⟨l, b, rfl, hg, hb, zb, hF, hq⟩ := h
  refine ⟨rfl, ?_⟩
  simp only [wpS, wp, getV, getB, initE, endF, bindG, List.map_cons, List.map_nil, List.length_cons, List.length_nil, List.cons_append, List.nil_append, List.append_nil, List.getElem?_cons_zero, List.getElem?_cons_succ, List.set_cons_zero, List.set_cons_succ, partD, k_L, k_T, l_lenT, l_lenL, l_int, l_intB, l_abs, l_max2, l_max3, l_max4, l_min2, l_maxL, l_minL, l_sum, l_all, l_any, l_tupL, l_tupT, l_lisL, l_lisT, r_1, r_2, r_l, i_L, i_T, i_A, if_true, if_false, ite_true, ite_false, not_false_eq_true, not_true_eq_false, Bool.false_eq_true, ite_not, b_add, b_addT, b_addL, b_sub, b_subB, b_mul, b_mulT, b_mulL, b_fdiv, b_mod, b_pow, a_add, a_sub, a_mul, a_fdiv, c_lt, c_le, c_gt, c_ge, c_eqI, c_neI, c_eqB, c_neB, seqP, pysD, Option.map_some, List.replicate_zero, List.replicate_succ, Nat.zero_add, Nat.add_zero, Nat.reduceAdd, Nat.reduceSub, Nat.reduceLeDiff, decide_eq_true_eq, Bool.not_eq_true', decide_eq_false_iff_not, Nat.sub_self, Option.some.injEq, exists_eq_left', exists_eq_left, x_pick, f_pr, f_qd, f_prT, f_qdT, x_pr0, x_pr1, x_qd0, x_qd1, x_qd2, x_qd3, g_pr, g_qd, nl_pr, nl_qd, nl_I, nl_B, nl_N, l_pr, l_qd, l_prs, l_ti, l_li, c_eq_pr, c_ne_pr, c_eq_qd, c_ne_qd, i_pr, i_qd, i_prs, i_ti, i_li, true_and, and_true, sl0, sl1, sl2, sl3, sl4, sl5, sl6, sl7, sl8, sl9, sl10, sl11, sl12, sl13, sl14, mketa, wipe1, shE_cons, shE_nil, shS_sh, shS_ow, shS_none, eq_self, and_self, decide_true, decide_false, reduceCtorEq, false_and, and_false, true_implies, false_implies, implies_true, not_true_eq_false, Bool.not_true, Bool.not_false, Bool.true_and, Bool.false_and, Bool.and_true, Bool.and_false, Bool.or_true, Bool.true_or, Bool.or_false, Bool.false_or, Int.reduceLT, Int.reduceLE, Nat.reduceLT, h_whole_of, h_all_windows, p_whole_of, p_all_windows, b_placed, n_placed]
  have hgl := good_len hg
  have hgm := good_mem hg
  have hw := good_wf hg
  have hwl := wins_len (b := b) hg
  have l8 : ∀ x ∈ l, 1 ≤ x.2 ∧ ZF 8 x := fun x h => ⟨(hgm x h).2.1.1, by
    have h2 := hgm x h
    have e : (2 : Nat) ^ 8 = 256 := by decide
    unfold ZF Z
    rw [e]
    omega⟩
  refine ⟨hgl.2, l8, ?_, hg, hb, zb, noL_qds _, ?_⟩
  · show (noLA (l.map pr) && (true && (true && true))) = true
    rw [noL_prs]
    rfl
  unfold wP
  refine ⟨by omega, ?_⟩
  refine forW_rule (fun i ρ => ∃ pl ws, Edf l b i pl ws ∧ ∃ s5 s6 s7 s8 : Option Sl, ρ = [some (.sh (.py (prs l))), some (.sh (.py (pr b))), some (.sh (.I (wf l))), some (.ow (ws.map qd)), some (.ow ((rowOf pl).map .int)), s5, s6, s7, s8]) ⟨[], wins l b, .base, _, _, _, _, rfl⟩ ?_ ?_
  · rintro i d ρ K hd ⟨pl, ws, hE, s5, s6, s7, s8, rfl⟩ hK
    obtain ⟨rfl, hi⟩ := rangeD_get hd
    obtain ⟨hP, hL⟩ := edf_perm hE
    have hPl := hP.length_eq
    rw [List.length_append] at hPl
    simp only [wpS, wp, getV, getB, initE, endF, bindG, List.map_cons, List.map_nil, List.length_cons, List.length_nil, List.cons_append, List.nil_append, List.append_nil, List.getElem?_cons_zero, List.getElem?_cons_succ, List.set_cons_zero, List.set_cons_succ, partD, k_L, k_T, l_lenT, l_lenL, l_int, l_intB, l_abs, l_max2, l_max3, l_max4, l_min2, l_maxL, l_minL, l_sum, l_all, l_any, l_tupL, l_tupT, l_lisL, l_lisT, r_1, r_2, r_l, i_L, i_T, i_A, if_true, if_false, ite_true, ite_false, not_false_eq_true, not_true_eq_false, Bool.false_eq_true, ite_not, b_add, b_addT, b_addL, b_sub, b_subB, b_mul, b_mulT, b_mulL, b_fdiv, b_mod, b_pow, a_add, a_sub, a_mul, a_fdiv, c_lt, c_le, c_gt, c_ge, c_eqI, c_neI, c_eqB, c_neB, seqP, pysD, Option.map_some, List.replicate_zero, List.replicate_succ, Nat.zero_add, Nat.add_zero, Nat.reduceAdd, Nat.reduceSub, Nat.reduceLeDiff, decide_eq_true_eq, Bool.not_eq_true', decide_eq_false_iff_not, Nat.sub_self, Option.some.injEq, exists_eq_left', exists_eq_left, x_pick, f_pr, f_qd, f_prT, f_qdT, x_pr0, x_pr1, x_qd0, x_qd1, x_qd2, x_qd3, g_pr, g_qd, nl_pr, nl_qd, nl_I, nl_B, nl_N, l_pr, l_qd, l_prs, l_ti, l_li, c_eq_pr, c_ne_pr, c_eq_qd, c_ne_qd, i_pr, i_qd, i_prs, i_ti, i_li, true_and, and_true, sl0, sl1, sl2, sl3, sl4, sl5, sl6, sl7, sl8, sl9, sl10, sl11, sl12, sl13, sl14, mketa, wipe1, shE_cons, shE_nil, shS_sh, shS_ow, shS_none, eq_self, and_self, decide_true, decide_false, reduceCtorEq, false_and, and_false, true_implies, false_implies, implies_true, not_true_eq_false, Bool.not_true, Bool.not_false, Bool.true_and, Bool.false_and, Bool.and_true, Bool.and_false, Bool.or_true, Bool.true_or, Bool.or_false, Bool.false_or, Int.reduceLT, Int.reduceLE, Nat.reduceLT, h_whole_of, h_all_windows, p_whole_of, p_all_windows, wipeE, List.map_map]
    refine compW_filter (f := D.py ∘ qd) (p := fun q => decide (q.2.1 ≤ 1 + (i : Int))) (g := qd) (by rw [sl]; omega) (fun q hq' K' hK1 hK0 => ?_) ?_
    · simp only [wpS, wp, getV, getB, initE, endF, bindG, List.map_cons, List.map_nil, List.length_cons, List.length_nil, List.cons_append, List.nil_append, List.append_nil, List.getElem?_cons_zero, List.getElem?_cons_succ, List.set_cons_zero, List.set_cons_succ, partD, k_L, k_T, l_lenT, l_lenL, l_int, l_intB, l_abs, l_max2, l_max3, l_max4, l_min2, l_maxL, l_minL, l_sum, l_all, l_any, l_tupL, l_tupT, l_lisL, l_lisT, r_1, r_2, r_l, i_L, i_T, i_A, if_true, if_false, ite_true, ite_false, not_false_eq_true, not_true_eq_false, Bool.false_eq_true, ite_not, b_add, b_addT, b_addL, b_sub, b_subB, b_mul, b_mulT, b_mulL, b_fdiv, b_mod, b_pow, a_add, a_sub, a_mul, a_fdiv, c_lt, c_le, c_gt, c_ge, c_eqI, c_neI, c_eqB, c_neB, seqP, pysD, Option.map_some, List.replicate_zero, List.replicate_succ, Nat.zero_add, Nat.add_zero, Nat.reduceAdd, Nat.reduceSub, Nat.reduceLeDiff, decide_eq_true_eq, Bool.not_eq_true', decide_eq_false_iff_not, Nat.sub_self, Option.some.injEq, exists_eq_left', exists_eq_left, x_pick, f_pr, f_qd, f_prT, f_qdT, x_pr0, x_pr1, x_qd0, x_qd1, x_qd2, x_qd3, g_pr, g_qd, nl_pr, nl_qd, nl_I, nl_B, nl_N, l_pr, l_qd, l_prs, l_ti, l_li, c_eq_pr, c_ne_pr, c_eq_qd, c_ne_qd, i_pr, i_qd, i_prs, i_ti, i_li, true_and, and_true, sl0, sl1, sl2, sl3, sl4, sl5, sl6, sl7, sl8, sl9, sl10, sl11, sl12, sl13, sl14, mketa, wipe1, shE_cons, shE_nil, shS_sh, shS_ow, shS_none, eq_self, and_self, decide_true, decide_false, reduceCtorEq, false_and, and_false, true_implies, false_implies, implies_true, not_true_eq_false, Bool.not_true, Bool.not_false, Bool.true_and, Bool.false_and, Bool.and_true, Bool.and_false, Bool.or_true, Bool.true_or, Bool.or_false, Bool.false_or, Int.reduceLT, Int.reduceLE, Nat.reduceLT, h_whole_of, h_all_windows, p_whole_of, p_all_windows, Function.comp]
      split
      · rename_i h
        exact hK1 (decide_eq_true h)
      · rename_i h
        exact hK0 (decide_eq_false h)
    · generalize hrs : ws.filter (fun q => decide (q.2.1 ≤ 1 + (i : Int))) = rs
      have hmem : ∀ y, y ∈ rs ↔ y ∈ ws ∧ y.2.1 ≤ (i : Int) + 1 := fun y => by
        rw [← hrs, List.mem_filter, decide_eq_true_eq, Int.add_comm 1]
      simp only [wpS, wp, getV, getB, initE, endF, bindG, List.map_cons, List.map_nil, List.length_cons, List.length_nil, List.cons_append, List.nil_append, List.append_nil, List.getElem?_cons_zero, List.getElem?_cons_succ, List.set_cons_zero, List.set_cons_succ, partD, k_L, k_T, l_lenT, l_lenL, l_int, l_intB, l_abs, l_max2, l_max3, l_max4, l_min2, l_maxL, l_minL, l_sum, l_all, l_any, l_tupL, l_tupT, l_lisL, l_lisT, r_1, r_2, r_l, i_L, i_T, i_A, if_true, if_false, ite_true, ite_false, not_false_eq_true, not_true_eq_false, Bool.false_eq_true, ite_not, b_add, b_addT, b_addL, b_sub, b_subB, b_mul, b_mulT, b_mulL, b_fdiv, b_mod, b_pow, a_add, a_sub, a_mul, a_fdiv, c_lt, c_le, c_gt, c_ge, c_eqI, c_neI, c_eqB, c_neB, seqP, pysD, Option.map_some, List.replicate_zero, List.replicate_succ, Nat.zero_add, Nat.add_zero, Nat.reduceAdd, Nat.reduceSub, Nat.reduceLeDiff, decide_eq_true_eq, Bool.not_eq_true', decide_eq_false_iff_not, Nat.sub_self, Option.some.injEq, exists_eq_left', exists_eq_left, x_pick, f_pr, f_qd, f_prT, f_qdT, x_pr0, x_pr1, x_qd0, x_qd1, x_qd2, x_qd3, g_pr, g_qd, nl_pr, nl_qd, nl_I, nl_B, nl_N, l_pr, l_qd, l_prs, l_ti, l_li, c_eq_pr, c_ne_pr, c_eq_qd, c_ne_qd, i_pr, i_qd, i_prs, i_ti, i_li, true_and, and_true, sl0, sl1, sl2, sl3, sl4, sl5, sl6, sl7, sl8, sl9, sl10, sl11, sl12, sl13, sl14, mketa, wipe1, shE_cons, shE_nil, shS_sh, shS_ow, shS_none, eq_self, and_self, decide_true, decide_false, reduceCtorEq, false_and, and_false, true_implies, false_implies, implies_true, not_true_eq_false, Bool.not_true, Bool.not_false, Bool.true_and, Bool.false_and, Bool.and_true, Bool.and_false, Bool.or_true, Bool.true_or, Bool.or_false, Bool.false_or, Int.reduceLT, Int.reduceLE, Nat.reduceLT, h_whole_of, h_all_windows, p_whole_of, p_all_windows, List.length_map]
      split
      · rename_i h
        refine hF ⟨i, pl, ws, hE, by omega, .inl fun y hy z => ?_⟩
        have := (hmem y).mpr ⟨hy, z⟩
        have h0 : rs = [] := List.length_eq_zero_iff.mp (by omega)
        rw [h0] at this
        cases this
      · rename_i h
        obtain ⟨q, hb1, hb2, hb3⟩ := best_qd (rs := rs) (by omega)
        have hqw := (hmem q).mp hb2
        refine ⟨by rw [List.length_map]; omega, fun p hp => ?_, fun p hp => ?_⟩
        · obtain ⟨y, _, rfl⟩ := List.mem_map.mp hp
          rfl
        rw [List.getElem?_map, hb1] at hp
        cases hp
        simp only [wpS, wp, getV, getB, initE, endF, bindG, List.map_cons, List.map_nil, List.length_cons, List.length_nil, List.cons_append, List.nil_append, List.append_nil, List.getElem?_cons_zero, List.getElem?_cons_succ, List.set_cons_zero, List.set_cons_succ, partD, k_L, k_T, l_lenT, l_lenL, l_int, l_intB, l_abs, l_max2, l_max3, l_max4, l_min2, l_maxL, l_minL, l_sum, l_all, l_any, l_tupL, l_tupT, l_lisL, l_lisT, r_1, r_2, r_l, i_L, i_T, i_A, if_true, if_false, ite_true, ite_false, not_false_eq_true, not_true_eq_false, Bool.false_eq_true, ite_not, b_add, b_addT, b_addL, b_sub, b_subB, b_mul, b_mulT, b_mulL, b_fdiv, b_mod, b_pow, a_add, a_sub, a_mul, a_fdiv, c_lt, c_le, c_gt, c_ge, c_eqI, c_neI, c_eqB, c_neB, seqP, pysD, Option.map_some, List.replicate_zero, List.replicate_succ, Nat.zero_add, Nat.add_zero, Nat.reduceAdd, Nat.reduceSub, Nat.reduceLeDiff, decide_eq_true_eq, Bool.not_eq_true', decide_eq_false_iff_not, Nat.sub_self, Option.some.injEq, exists_eq_left', exists_eq_left, x_pick, f_pr, f_qd, f_prT, f_qdT, x_pr0, x_pr1, x_qd0, x_qd1, x_qd2, x_qd3, g_pr, g_qd, nl_pr, nl_qd, nl_I, nl_B, nl_N, l_pr, l_qd, l_prs, l_ti, l_li, c_eq_pr, c_ne_pr, c_eq_qd, c_ne_qd, i_pr, i_qd, i_prs, i_ti, i_li, true_and, and_true, sl0, sl1, sl2, sl3, sl4, sl5, sl6, sl7, sl8, sl9, sl10, sl11, sl12, sl13, sl14, mketa, wipe1, shE_cons, shE_nil, shS_sh, shS_ow, shS_none, eq_self, and_self, decide_true, decide_false, reduceCtorEq, false_and, and_false, true_implies, false_implies, implies_true, not_true_eq_false, Bool.not_true, Bool.not_false, Bool.true_and, Bool.false_and, Bool.and_true, Bool.and_false, Bool.or_true, Bool.true_or, Bool.or_false, Bool.false_or, Int.reduceLT, Int.reduceLE, Nat.reduceLT, h_whole_of, h_all_windows, p_whole_of, p_all_windows]
        split
        · rename_i h2
          exact hF ⟨i, pl, ws, hE, by omega, .inr ⟨q, hqw.1, hqw.2, by omega⟩⟩
        · rename_i h2
          obtain ⟨j, hj1, hj2, hj3⟩ := place_qd hqw.1
          refine ⟨⟨shp_qd, shp_qds hg zb fun y hy => edf_mem hE (.inr hy), plain_qds _, rfl⟩, j, hj1, ?_⟩
          rw [hj2]
          refine ⟨by unfold rowOf; rw [List.length_map, sl]; omega, hK _ ⟨pl ++ [q], ws.eraseIdx j, .step hE hqw.1 hqw.2 (by omega) (fun y hy z => hb3 y ((hmem y).mpr ⟨hy, z⟩)) hj3, _, _, _, _, by unfold rowOf; rw [List.map_append (l₂ := [q]), List.map_append]; rfl⟩⟩
  · rintro ρ ⟨pl, ws, hE, s5, s6, s7, s8, rfl⟩
    have e : (rangeD 1 (wf l + 1)).length = (wf l).toNat := by
      unfold rangeD
      rw [List.length_map, List.length_range]
      omega
    rw [e] at hE
    simp only [wpS, wp, getV, getB, initE, endF, bindG, List.map_cons, List.map_nil, List.length_cons, List.length_nil, List.cons_append, List.nil_append, List.append_nil, List.getElem?_cons_zero, List.getElem?_cons_succ, List.set_cons_zero, List.set_cons_succ, partD, k_L, k_T, l_lenT, l_lenL, l_int, l_intB, l_abs, l_max2, l_max3, l_max4, l_min2, l_maxL, l_minL, l_sum, l_all, l_any, l_tupL, l_tupT, l_lisL, l_lisT, r_1, r_2, r_l, i_L, i_T, i_A, if_true, if_false, ite_true, ite_false, not_false_eq_true, not_true_eq_false, Bool.false_eq_true, ite_not, b_add, b_addT, b_addL, b_sub, b_subB, b_mul, b_mulT, b_mulL, b_fdiv, b_mod, b_pow, a_add, a_sub, a_mul, a_fdiv, c_lt, c_le, c_gt, c_ge, c_eqI, c_neI, c_eqB, c_neB, seqP, pysD, Option.map_some, List.replicate_zero, List.replicate_succ, Nat.zero_add, Nat.add_zero, Nat.reduceAdd, Nat.reduceSub, Nat.reduceLeDiff, decide_eq_true_eq, Bool.not_eq_true', decide_eq_false_iff_not, Nat.sub_self, Option.some.injEq, exists_eq_left', exists_eq_left, x_pick, f_pr, f_qd, f_prT, f_qdT, x_pr0, x_pr1, x_qd0, x_qd1, x_qd2, x_qd3, g_pr, g_qd, nl_pr, nl_qd, nl_I, nl_B, nl_N, l_pr, l_qd, l_prs, l_ti, l_li, c_eq_pr, c_ne_pr, c_eq_qd, c_ne_qd, i_pr, i_qd, i_prs, i_ti, i_li, true_and, and_true, sl0, sl1, sl2, sl3, sl4, sl5, sl6, sl7, sl8, sl9, sl10, sl11, sl12, sl13, sl14, mketa, wipe1, shE_cons, shE_nil, shS_sh, shS_ow, shS_none, eq_self, and_self, decide_true, decide_false, reduceCtorEq, false_and, and_false, true_implies, false_implies, implies_true, not_true_eq_false, Bool.not_true, Bool.not_false, Bool.true_and, Bool.false_and, Bool.and_true, Bool.and_false, Bool.or_true, Bool.true_or, Bool.or_false, Bool.false_or, Int.reduceLT, Int.reduceLE, Nat.reduceLT, h_whole_of, h_all_windows, p_whole_of, p_all_windows]
    exact hq pl ws hE
theorem s_row_within {Φ : PhiT} (h_check_shares : Φ 16 = C_check_shares) (h_check_bound : Φ 17 = C_check_bound) (h_placed : Φ 38 = C_placed) (ds : List D) (Q : D → Prop) (E : Nat → Prop) (h : C_row_within ds Q E) : ds.length = 2 ∧ wpS Φ exName b_row_within (initE n_row_within ds) (endF Q E) := by
  obtain ⟨l, b, rfl, hx, hl, zb, hq, he⟩ := h
  refine ⟨rfl, ?_⟩
  simp only [wpS, wp, getV, getB, initE, endF, bindG, List.map_cons, List.map_nil, List.length_cons, List.length_nil, List.cons_append, List.nil_append, List.append_nil, List.getElem?_cons_zero, List.getElem?_cons_succ, List.set_cons_zero, List.set_cons_succ, partD, k_L, k_T, l_lenT, l_lenL, l_int, l_intB, l_abs, l_max2, l_max3, l_max4, l_min2, l_maxL, l_minL, l_sum, l_all, l_any, l_tupL, l_tupT, l_lisL, l_lisT, r_1, r_2, r_l, i_L, i_T, i_A, if_true, if_false, ite_true, ite_false, not_false_eq_true, not_true_eq_false, Bool.false_eq_true, ite_not, b_add, b_addT, b_addL, b_sub, b_subB, b_mul, b_mulT, b_mulL, b_fdiv, b_mod, b_pow, a_add, a_sub, a_mul, a_fdiv, c_lt, c_le, c_gt, c_ge, c_eqI, c_neI, c_eqB, c_neB, seqP, pysD, Option.map_some, List.replicate_zero, List.replicate_succ, Nat.zero_add, Nat.add_zero, Nat.reduceAdd, Nat.reduceSub, Nat.reduceLeDiff, decide_eq_true_eq, Bool.not_eq_true', decide_eq_false_iff_not, Nat.sub_self, Option.some.injEq, exists_eq_left', exists_eq_left, x_pick, f_pr, f_qd, f_prT, f_qdT, x_pr0, x_pr1, x_qd0, x_qd1, x_qd2, x_qd3, g_pr, g_qd, nl_pr, nl_qd, nl_I, nl_B, nl_N, l_pr, l_qd, l_prs, l_ti, l_li, c_eq_pr, c_ne_pr, c_eq_qd, c_ne_qd, i_pr, i_qd, i_prs, i_ti, i_li, true_and, and_true, sl0, sl1, sl2, sl3, sl4, sl5, sl6, sl7, sl8, sl9, sl10, sl11, sl12, sl13, sl14, mketa, wipe1, shE_cons, shE_nil, shS_sh, shS_ow, shS_none, eq_self, and_self, decide_true, decide_false, reduceCtorEq, false_and, and_false, true_implies, false_implies, implies_true, not_true_eq_false, Bool.not_true, Bool.not_false, Bool.true_and, Bool.false_and, Bool.and_true, Bool.and_false, Bool.or_true, Bool.true_or, Bool.or_false, Bool.false_or, Int.reduceLT, Int.reduceLE, Nat.reduceLT, h_check_shares, h_check_bound, h_placed, p_check_shares, p_check_bound, p_placed, b_row_within, n_row_within]
  refine ⟨hx, hl, fun h1 => ⟨fun h2 => ?_, fun h2 => he fun z => h2 z.2⟩, fun h1 => he fun z => by rw [z.1] at h1; cases h1⟩
  obtain ⟨hg, hF, hq⟩ := hq ⟨h1, h2⟩
  have hb2 : 1 ≤ b.2 := by
    have := h2.1
    unfold okF at this
    rw [Bool.and_eq_true] at this
    exact of_decide_eq_true this.1
  refine ⟨hg, hb2, zb, fun h => hF h, fun pl ws h => ?_⟩
  exact hq pl ws h
end Y

/-! part SW2 -/
set_option Elab.async false
set_option linter.all false
set_option maxRecDepth 100000
set_option maxHeartbeats 4000000
set_option exponentiation.threshold 5000
/-! SW2: a row of one period has no crowded stretch. -/
namespace Y
open PySem PySem.Spec
theorem fold_dvd : ∀ {l : List (Int × Int)}, (∀ x ∈ l, 1 ≤ x.2) → ∀ f : Int, 0 < f → f ∣ l.foldl (fun f x => f * (frac x.2 f).1) f ∧ ∀ x ∈ l, x.2 ∣ l.foldl (fun f x => f * (frac x.2 f).1) f
  | [], _, f, _ => ⟨Int.dvd_refl _, fun x h => nomatch h⟩
  | x :: l, hx, f, h0 => by
    have h1 := hx x List.mem_cons_self
    have F := frac_pos (a := x.2) h0
    have gp := gcd_pos (a := x.2) (b := f) (by omega)
    have hp : 0 < x.2 / (Int.gcd x.2 f : Int) := Int.ediv_pos_of_pos_of_dvd (by omega) (by omega) (Int.gcd_dvd_left _ _)
    have e : (frac x.2 f).1 = x.2 / (Int.gcd x.2 f : Int) := by rw [F.1]
    have hpos : 0 < f * (frac x.2 f).1 := by rw [e]; exact Int.mul_pos h0 hp
    obtain ⟨g1, g2⟩ := fold_dvd (l := l) (fun y hy => hx y (List.mem_cons_of_mem _ hy)) _ hpos
    rw [List.foldl_cons]
    refine ⟨Int.dvd_trans ⟨_, rfl⟩ g1, fun y hy => ?_⟩
    rcases List.mem_cons.mp hy with rfl | hy
    · refine Int.dvd_trans ?_ g1
      rw [e]
      obtain ⟨u, hu⟩ := Int.gcd_dvd_right y.2 f
      have d1 := Int.ediv_mul_cancel (Int.gcd_dvd_left y.2 f)
      refine ⟨u, ?_⟩
      generalize y.2 / (Int.gcd y.2 f : Int) = v at d1 ⊢
      generalize (Int.gcd y.2 f : Int) = g at d1 hu ⊢
      rw [← d1, hu]
      grind
    · exact g2 y hy
theorem wf_dvd {l : List (Int × Int)} (hg : Good l) : ∀ x ∈ l, x.2 ∣ wf l := (fold_dvd (fun x hx => (good_mem hg x hx).2.1.1) 1 (by decide)).2
theorem take_succ_sum {ts : List Int} {i : Nat} (h : i < ts.length) : (ts.take (i + 1)).sum = (ts.take i).sum + ts[i] := by
  rw [List.take_succ, List.getElem?_eq_getElem h, List.sum_append]
  show _ + ([ts[i]] : List Int).sum = _
  rw [List.sum_cons, List.sum_nil, Int.add_zero]
theorem wins_wf {l : List (Int × Int)} {b : Int × Int} (hg : Good l) : ((wins l b).length : Int) = wf l := by
  have hg2 := hg
  obtain ⟨w, ts, hw, hw2, ht, hs, hl, hl2, e⟩ := hg2
  have hlen : l.length = ts.length := by rw [e, List.length_map]
  have hW := good_wf hg
  have key : ∀ i, i ≤ ts.length → ((wN l b i).length : Int) * w = wf l * (ts.take i).sum := by
    intro i
    induction i with
    | zero =>
      intro _
      show ((0 : Nat) : Int) * w = wf l * ([] : List Int).sum
      rw [List.sum_nil, Int.mul_zero]
      simp
    | succ i ih =>
      intro hi
      have ih := ih (by omega)
      have hil : i < l.length := by omega
      have hx := shW_get hil
      have hxm := List.mem_of_getElem? hx
      have hn := (nK_eq hg hil).1
      have hok := shW_ok hg hil
      obtain ⟨m, hm⟩ := wf_dvd hg _ hxm
      have hti0 : (ts.map fun t => red t w)[i]? = some (red (ts[i]'(by omega)) w) := by
        rw [List.getElem?_map, List.getElem?_eq_getElem (by omega)]
        rfl
      have hti : l[i]? = some (red (ts[i]'(by omega)) w) := (congrArg (fun m => m[i]?) e).trans hti0
      rw [hx] at hti
      have hxe := Option.some.inj hti
      have gp := gcd_pos (a := ts[i]'(by omega)) (b := w) (by omega)
      have hr : (shW l i).1 * w = ts[i]'(by omega) * (shW l i).2 := by
        have d1 := Int.ediv_mul_cancel (Int.gcd_dvd_left (ts[i]'(by omega)) w)
        have d2 := Int.ediv_mul_cancel (Int.gcd_dvd_right (ts[i]'(by omega)) w)
        have e1 : (shW l i).1 = ts[i]'(by omega) / Int.gcd (ts[i]'(by omega)) w := by rw [hxe]; exact Int.fdiv_eq_ediv_of_nonneg _ (by omega)
        have e2 : (shW l i).2 = w / Int.gcd (ts[i]'(by omega)) w := by rw [hxe]; exact Int.fdiv_eq_ediv_of_nonneg _ (by omega)
        rw [e1, e2]
        generalize ts[i]'(by omega) = t at d1 d2 ⊢
        generalize (Int.gcd t w : Int) = g at d1 d2 ⊢
        generalize t / g = p at d1 ⊢
        generalize w / g = q at d2 ⊢
        rw [← d1, ← d2]
        grind
      rw [Int.fdiv_eq_ediv_of_nonneg _ (by omega)] at hn
      have hn2 : (nK l i : Int) = m * (shW l i).1 := by
        rw [← hn, hm, Int.mul_assoc]
        exact Int.mul_ediv_cancel_left _ (by omega)
      rw [wN_succ, List.length_append, take_succ_sum (by omega), Int.natCast_add, Int.add_mul, ih, Int.mul_add]
      congr 1
      have hk : (wK l b i (nK l i)).length = nK l i := by unfold wK; rw [List.length_map, List.length_range]
      rw [hk, hn2, hm, Int.mul_assoc, hr]
      grind
  have := key ts.length (Nat.le_refl _)
  rw [List.take_length, hs, ← hlen] at this
  exact Int.eq_of_mul_eq_mul_right (by omega) this
theorem edf_at {l : List (Int × Int)} {b : Int × Int} {i : Nat} {pl ws : List Qd} (h : Edf l b i pl ws) : ∀ (j : Nat) (q : Qd), pl[j]? = some q → q.2.1 ≤ (j : Int) + 1 ∧ (j : Int) + 1 ≤ q.1 := by
  induction h with
  | base => intro j q h; simp at h
  | step h hq h1 h2 h3 hp ih =>
    rename_i i pl ws ws' q
    intro j y hy
    have hl := (edf_perm h).2
    rcases Nat.lt_or_ge j pl.length with z | z
    · rw [List.getElem?_append_left z] at hy
      exact ih j y hy
    · rw [List.getElem?_append_right z] at hy
      have hj : j - pl.length = 0 := by
        rcases Nat.eq_zero_or_pos (j - pl.length) with e | e
        · exact e
        · rw [List.getElem?_eq_none (by rw [List.length_singleton]; omega)] at hy
          cases hy
      rw [hj] at hy
      cases hy
      have : j = i := by omega
      subst this
      exact ⟨h1, h2⟩
theorem filter_cut {α : Type} {p : α → Bool} {l : List α} {m n : Nat} (h : ∀ j q, l[j]? = some q → p q = true → m ≤ j ∧ j < n) : (l.filter p).length ≤ n - m := by
  have e1 : l = l.take m ++ ((l.drop m).take (n - m) ++ (l.drop m).drop (n - m)) := by rw [List.take_append_drop, List.take_append_drop]
  have f1 : (l.take m).filter p = [] := by
    rw [List.filter_eq_nil_iff]
    intro q hq hp
    obtain ⟨j, hj, rfl⟩ := List.getElem_of_mem hq
    rw [List.length_take] at hj
    have := h j _ (List.getElem?_eq_getElem (by omega)) (by rw [List.getElem_take] at hp; exact hp)
    omega
  have f2 : ((l.drop m).drop (n - m)).filter p = [] := by
    rw [List.filter_eq_nil_iff]
    intro q hq hp
    rw [List.drop_drop] at hq
    obtain ⟨j, hj, rfl⟩ := List.getElem_of_mem hq
    rw [List.length_drop] at hj
    rw [List.getElem_drop] at hp
    have := h _ _ (List.getElem?_eq_getElem (by omega)) hp
    omega
  rw [e1, List.filter_append, List.filter_append, f1, f2, List.nil_append, List.append_nil]
  refine Nat.le_trans (List.length_filter_le _ _) ?_
  rw [List.length_take]
  omega
theorem edf_all {l : List (Int × Int)} {b : Int × Int} {pl ws : List Qd} (hg : Good l) (h : Edf l b (wf l).toNat pl ws) : (wins l b).Perm pl ∧ pl.length = (wf l).toNat := by
  obtain ⟨h1, h2⟩ := edf_perm h
  have h3 := wins_wf (b := b) hg
  have h4 := h1.length_eq
  rw [List.length_append] at h4
  have hw := good_wf hg
  have h5 : ws = [] := List.length_eq_zero_iff.mp (by omega)
  rw [h5, List.append_nil] at h1
  exact ⟨h1, h2⟩
/-- a row has no crowded stretch -/
theorem edf_calm {l : List (Int × Int)} {b : Int × Int} {pl ws : List Qd} (hg : Good l) (h : Edf l b (wf l).toNat pl ws) (a c : Int) (hi : inW l a c = true) : crB l b a c = false := by
  obtain ⟨h1, h2⟩ := edf_all hg h
  have h3 := edf_at h
  unfold inW at hi
  simp only [Bool.and_eq_true, decide_eq_true_eq] at hi
  have e : inC l b a c = (pl.filter (insB a c)).length := (h1.filter _).length_eq
  have := filter_cut (p := insB a c) (l := pl) (m := (a - 1).toNat) (n := c.toNat) fun j q hq hp => by
    have := h3 j q hq
    unfold insB at hp
    simp only [Bool.and_eq_true, decide_eq_true_eq] at hp
    omega
  unfold crB
  rw [e]
  exact decide_eq_false (by omega)
theorem row_ok {l : List (Int × Int)} {b : Int × Int} {i : Nat} {pl ws : List Qd} (hg : Good l) (zb : ZF 64 b) (h : Edf l b i pl ws) : (∀ z ∈ rowOf pl, 0 ≤ z ∧ z < l.length) ∧ (rowOf pl).length = i := by
  refine ⟨fun z hz => ?_, by unfold rowOf; rw [List.length_map]; exact (edf_perm h).2⟩
  obtain ⟨q, hq, rfl⟩ := List.mem_map.mp hz
  exact (wins_z hg zb (edf_mem h (.inl hq))).2.2.1
end Y

/-! part L39 -/
set_option Elab.async false
set_option linter.all false
set_option maxRecDepth 100000
set_option maxHeartbeats 4000000
set_option exponentiation.threshold 5000
namespace Y
open PySem PySem.Spec
def n_k39 : List Str := ["script", "state", "turn", "shares", "whole", "bound", "kept", "windows", "stretches", "k", "some", "row", "wrong", "one", "other", "due", "first", "two", "early", "late"]
def b_k39 : S := (.seq (.for_ (.var 2) (.rng (.cons (.lit (.int 3)) .nil)) (.seq (.asg 3 (.call 4 (.cons (.var 1) .nil))) (.seq (.asg 4 (.call 5 (.cons (.var 3) .nil))) (.seq (.ite (.cmp .Gt (.var 4) (.lit (.int 24))) (.seq (.asg 3 (.tup (.cons (.tup (.cons (.lit (.int 1)) (.cons (.lit (.int 2)) .nil))) (.cons (.tup (.cons (.lit (.int 1)) (.cons (.lit (.int 3)) .nil))) (.cons (.tup (.cons (.lit (.int 1)) (.cons (.lit (.int 6)) .nil))) .nil))))) (.seq (.asg 4 (.lit (.int 6))) .nil)) .nil) (.seq (.asg 5 (.call 6 (.cons (.var 1) (.cons (.var 3) .nil)))) (.seq (.asg 6 (.repr (.var 3))) (.seq (.asg 7 (.call 36 (.cons (.var 3) (.cons (.var 5) .nil)))) (.seq (.asgL 8 (.lst (.cons (.tup (.cons (.lit (.int 0)) (.cons (.var 4) .nil))) (.cons (.tup (.cons (.lit (.int 1)) (.cons (.bin .add (.var 4) (.lit (.int 1))) .nil))) (.cons (.tup (.cons (.lit (.int 3)) (.cons (.lit (.int 1)) .nil))) (.cons (.tup (.cons (.lit (.int 1)) (.cons (.neg (.lit (.int 1))) .nil))) (.cons (.tup (.cons (.bin .add (.var 4) (.lit (.int 2))) (.cons (.bin .add (.var 4) (.lit (.int 1))) .nil))) (.cons (.tup (.cons (.bin .add (.var 4) (.lit (.int 1))) (.cons (.var 4) .nil))) (.cons (.tup (.cons (.neg (.lit (.int 1))) (.cons (.lit (.int 2)) .nil))) .nil))))))))) (.seq (.for_ (.var 9) (.rng (.cons (.lit (.int 30)) .nil)) (.seq (.asg 13 (.bin .add (.lit (.int 1)) (.call 1 (.cons (.var 1) (.cons (.var 4) .nil))))) (.seq (.app 8 (.tup (.cons (.var 13) (.cons (.bin .add (.bin .sub (.var 13) (.lit (.int 1))) (.call 1 (.cons (.var 1) (.cons (.bin .sub (.bin .add (.var 4) (.lit (.int 2))) (.var 13)) .nil)))) .nil)))) .nil))) (.seq (.asg 10 (.lit (.bool false))) (.seq (.frz 8) (.seq (.for_ (.tup (.cons (.var 13) (.cons (.var 14) .nil))) (.var 8) (.seq (.asg 15 (.and (.chain .LtE .LtE (.lit (.int 1)) (.var 13) (.var 4)) (.chain .LtE .LtE (.bin .sub (.var 13) (.lit (.int 1))) (.var 14) (.var 4)))) (.seq (.ite (.var 15) (.seq (.asg 15 (.cmp .Gt (.bi .len (.cons (.comp [("early", 18), ("late", 19), ("k", 9)] (.lit (.int 1)) (.tup (.cons (.var 18) (.cons (.var 19) (.cons (.var 9) .nil)))) (.var 7) (.and (.cmp .LtE (.var 13) (.var 18)) (.cmp .LtE (.var 19) (.var 14)))) .nil)) (.bin .add (.bin .sub (.var 14) (.var 13)) (.lit (.int 1))))) .nil) .nil) (.seq (.asg 10 (.or (.var 10) (.var 15))) (.seq (.ite (.not (.same (.told (.call 40 (.cons (.var 3) (.cons (.var 5) (.cons (.tup (.cons (.var 13) (.cons (.var 14) .nil))) .nil))))) (.tup (.cons (.lit (.str "told")) (.cons (.var 15) .nil))))) (.seq (.ret (.lit (.bool false))) .nil) .nil) .nil))))) (.seq (.asg 11 (.told (.call 39 (.cons (.var 3) (.cons (.var 5) .nil))))) (.seq (.ite (.and (.var 10) (.cmp .NotEq (.var 11) (.tup (.cons (.lit (.str "missing")) .nil)))) (.seq (.ret (.lit (.bool false))) .nil) .nil) (.seq (.asg 12 (.call 8 (.cons (.var 1) (.cons (.var 3) .nil)))) (.seq (.for_ (.tup (.cons (.var 16) (.cons (.var 17) .nil))) (.lst (.cons (.tup (.cons (.var 12) (.cons (.tup (.cons (.lit (.int 1)) (.cons (.lit (.int 1)) .nil))) .nil))) (.cons (.tup (.cons (.var 3) (.cons (.tup (.cons (.lit (.int 2)) (.cons (.lit (.int 4)) .nil))) .nil))) (.cons (.tup (.cons (.var 3) (.cons (.tup (.cons (.neg (.lit (.int 1))) (.cons (.lit (.int 1)) .nil))) .nil))) .nil)))) (.seq (.ite (.cmp .NotEq (.told (.call 40 (.cons (.var 16) (.cons (.var 17) (.cons (.tup (.cons (.lit (.int 1)) (.cons (.lit (.int 1)) .nil))) .nil))))) (.tup (.cons (.lit (.str "refused")) .nil))) (.seq (.ret (.lit (.bool false))) .nil) .nil) .nil)) (.seq (.ite (.cmp .NotEq (.repr (.var 3)) (.var 6)) (.seq (.ret (.lit (.bool false))) .nil) .nil) .nil))))))))))))))))) (.seq (.ret (.lit (.bool true))) .nil))
theorem w_asg1 {Φ : PhiT} {exN : Nat → Str} {ρ : Ev} {Dn : En} {i : Nat} {c : C} : wpS Φ exN (.asg i c) ρ Dn = wp Φ exN c ρ (fun d => Dn.nx (ρ.set i (some (.sh d)))) Dn.ex := rfl
theorem good_6 : Good [(1, 2), (1, 3), (1, 6)] := ⟨6, [3, 2, 1], by decide, by decide, by decide, by decide, by decide, by decide, by decide +kernel⟩
def Str1 (l : List (Int × Int)) (b : Int × Int) (s : Bool) : Prop := s = true → ∃ a c, inW l a c = true ∧ crB l b a c = true
theorem g_lw {t : C} {q : Qd} {ρ : Ev} {K : Ev → Prop} : bindG (.tup t) (.py (lw q)) ρ K = bindG t (.args [.I q.2.1, .I q.1, .I q.2.2.1]) ρ K := rfl
theorem i_lwP {l : List (Int × Int)} {b : Int × Int} : itemsD (.py (lwP l b)) = some ((wins l b).map fun q => D.py (lw q)) := by
  show some (((wins l b).map lw).map D.py) = _
  rw [List.map_map]
  rfl
theorem s_k39 {Φ : PhiT} (h_law_shares : Φ 4 = C_law_shares) (h_law_whole : Φ 5 = C_law_whole) (h_law_bound : Φ 6 = C_law_bound) (h_law_windows : Φ 36 = C_law_windows) (h_law_wrong_shares : Φ 8 = C_law_wrong_shares) (h_law_next : Φ 1 = C_law_next) (h_row_within : Φ 39 = C_row_within) (h_judge_crowded : Φ 40 = C_judge_crowded) : wpS Φ exName b_k39 ((List.replicate n_k39.length none).set 1 (some (.sh .st))) (endF (fun d => d = .B true) noE) := by
  simp only [w_nil, w_asg, w_asgL, w_unp, w_par, w_par3, w_aug, w_app, w_rem, w_ext, w_seti, w_frz, w_expr, w_ret, w_raise, w_brk, w_cont, w_pass, wp, getV, getB, initE, endF, bindG, List.map_cons, List.map_nil, List.length_cons, List.length_nil, List.cons_append, List.nil_append, List.append_nil, List.getElem?_cons_zero, List.getElem?_cons_succ, List.set_cons_zero, List.set_cons_succ, partD, k_L, k_T, l_lenT, l_lenL, l_int, l_intB, l_abs, l_max2, l_max3, l_max4, l_min2, l_maxL, l_minL, l_sum, l_all, l_any, l_tupL, l_tupT, l_lisL, l_lisT, r_1, r_2, r_l, i_L, i_T, i_A, if_true, if_false, ite_true, ite_false, not_false_eq_true, not_true_eq_false, Bool.false_eq_true, ite_not, b_add, b_addT, b_addL, b_sub, b_subB, b_mul, b_mulT, b_mulL, b_fdiv, b_mod, b_pow, a_add, a_sub, a_mul, a_fdiv, c_lt, c_le, c_gt, c_ge, c_eqI, c_neI, c_eqB, c_neB, seqP, pysD, Option.map_some, List.replicate_zero, List.replicate_succ, Nat.zero_add, Nat.add_zero, Nat.reduceAdd, Nat.reduceSub, Nat.reduceLeDiff, decide_eq_true_eq, Bool.not_eq_true', decide_eq_false_iff_not, Nat.sub_self, Option.some.injEq, exists_eq_left', exists_eq_left, x_pick, f_pr, f_qd, f_prT, f_qdT, x_pr0, x_pr1, x_qd0, x_qd1, x_qd2, x_qd3, g_pr, g_qd, nl_pr, nl_qd, nl_I, nl_B, nl_N, l_pr, l_qd, l_prs, l_ti, l_li, c_eq_pr, c_ne_pr, c_eq_qd, c_ne_qd, i_pr, i_qd, i_prs, i_ti, i_li, true_and, and_true, sl0, sl1, sl2, sl3, sl4, sl5, sl6, sl7, sl8, sl9, sl10, sl11, sl12, sl13, sl14, mketa, wipe1, shE_cons, shE_nil, shS_sh, shS_ow, shS_none, eq_self, and_self, decide_true, decide_false, reduceCtorEq, false_and, and_false, true_implies, false_implies, implies_true, not_true_eq_false, Bool.not_true, Bool.not_false, Bool.true_and, Bool.false_and, Bool.and_true, Bool.and_false, Bool.or_true, Bool.true_or, Bool.or_false, Bool.false_or, Int.reduceLT, Int.reduceLE, Nat.reduceLT, h_law_shares, h_law_whole, h_law_bound, h_law_windows, h_law_wrong_shares, h_law_next, h_row_within, h_judge_crowded, p_law_shares, p_law_whole, p_law_bound, p_law_windows, p_law_wrong_shares, p_law_next, p_row_within, p_judge_crowded, b_k39, n_k39]
  refine ⟨by decide, forW_rule (fun i ρ => ∃ s0 s2 s3 s4 s5 s6 s7 s8 s9 s10 s11 s12 s13 s14 s15 s16 s17 s18 s19 : Option Sl, ρ = [s0, some (.sh (.st)), s2, s3, s4, s5, s6, s7, s8, s9, s10, s11, s12, s13, s14, s15, s16, s17, s18, s19]) ⟨_, _, _, _, _, _, _, _, _, _, _, _, _, _, _, _, _, _, _, rfl⟩ ?_ ?_⟩
  · rintro i d ρ K hd ⟨s0, s2, s3, s4, s5, s6, s7, s8, s9, s10, s11, s12, s13, s14, s15, s16, s17, s18, s19, rfl⟩ hK
    obtain ⟨rfl, hi⟩ := rangeD_get hd
    simp only [w_nil, w_asg, w_asgL, w_unp, w_par, w_par3, w_aug, w_app, w_rem, w_ext, w_seti, w_frz, w_expr, w_ret, w_raise, w_brk, w_cont, w_pass, wp, getV, getB, initE, endF, bindG, List.map_cons, List.map_nil, List.length_cons, List.length_nil, List.cons_append, List.nil_append, List.append_nil, List.getElem?_cons_zero, List.getElem?_cons_succ, List.set_cons_zero, List.set_cons_succ, partD, k_L, k_T, l_lenT, l_lenL, l_int, l_intB, l_abs, l_max2, l_max3, l_max4, l_min2, l_maxL, l_minL, l_sum, l_all, l_any, l_tupL, l_tupT, l_lisL, l_lisT, r_1, r_2, r_l, i_L, i_T, i_A, if_true, if_false, ite_true, ite_false, not_false_eq_true, not_true_eq_false, Bool.false_eq_true, ite_not, b_add, b_addT, b_addL, b_sub, b_subB, b_mul, b_mulT, b_mulL, b_fdiv, b_mod, b_pow, a_add, a_sub, a_mul, a_fdiv, c_lt, c_le, c_gt, c_ge, c_eqI, c_neI, c_eqB, c_neB, seqP, pysD, Option.map_some, List.replicate_zero, List.replicate_succ, Nat.zero_add, Nat.add_zero, Nat.reduceAdd, Nat.reduceSub, Nat.reduceLeDiff, decide_eq_true_eq, Bool.not_eq_true', decide_eq_false_iff_not, Nat.sub_self, Option.some.injEq, exists_eq_left', exists_eq_left, x_pick, f_pr, f_qd, f_prT, f_qdT, x_pr0, x_pr1, x_qd0, x_qd1, x_qd2, x_qd3, g_pr, g_qd, nl_pr, nl_qd, nl_I, nl_B, nl_N, l_pr, l_qd, l_prs, l_ti, l_li, c_eq_pr, c_ne_pr, c_eq_qd, c_ne_qd, i_pr, i_qd, i_prs, i_ti, i_li, true_and, and_true, sl0, sl1, sl2, sl3, sl4, sl5, sl6, sl7, sl8, sl9, sl10, sl11, sl12, sl13, sl14, mketa, wipe1, shE_cons, shE_nil, shS_sh, shS_ow, shS_none, eq_self, and_self, decide_true, decide_false, reduceCtorEq, false_and, and_false, true_implies, false_implies, implies_true, not_true_eq_false, Bool.not_true, Bool.not_false, Bool.true_and, Bool.false_and, Bool.and_true, Bool.and_false, Bool.or_true, Bool.true_or, Bool.or_false, Bool.false_or, Int.reduceLT, Int.reduceLE, Nat.reduceLT, h_law_shares, h_law_whole, h_law_bound, h_law_windows, h_law_wrong_shares, h_law_next, h_row_within, h_judge_crowded, p_law_shares, p_law_whole, p_law_bound, p_law_windows, p_law_wrong_shares, p_law_next, p_row_within, p_judge_crowded]
    intro l0 hg0
    refine ⟨hg0, ?_⟩
    refine seq_by (fun ρ => ∃ l, Good l ∧ ∃ s0 s2 s5 s6 s7 s8 s9 s10 s11 s12 s13 s14 s15 s16 s17 s18 s19 : Option Sl, ρ = [s0, some (.sh (.st)), s2, some (.sh (.py (prs l))), some (.sh (.I (wf l))), s5, s6, s7, s8, s9, s10, s11, s12, s13, s14, s15, s16, s17, s18, s19]) (fun R hR => ?_) ?_
    · rw [w_ite1]
      simp only [w_nil, w_asg, w_asgL, w_unp, w_par, w_par3, w_aug, w_app, w_rem, w_ext, w_seti, w_frz, w_expr, w_ret, w_raise, w_brk, w_cont, w_pass, wp, getV, getB, initE, endF, bindG, List.map_cons, List.map_nil, List.length_cons, List.length_nil, List.cons_append, List.nil_append, List.append_nil, List.getElem?_cons_zero, List.getElem?_cons_succ, List.set_cons_zero, List.set_cons_succ, partD, k_L, k_T, l_lenT, l_lenL, l_int, l_intB, l_abs, l_max2, l_max3, l_max4, l_min2, l_maxL, l_minL, l_sum, l_all, l_any, l_tupL, l_tupT, l_lisL, l_lisT, r_1, r_2, r_l, i_L, i_T, i_A, if_true, if_false, ite_true, ite_false, not_false_eq_true, not_true_eq_false, Bool.false_eq_true, ite_not, b_add, b_addT, b_addL, b_sub, b_subB, b_mul, b_mulT, b_mulL, b_fdiv, b_mod, b_pow, a_add, a_sub, a_mul, a_fdiv, c_lt, c_le, c_gt, c_ge, c_eqI, c_neI, c_eqB, c_neB, seqP, pysD, Option.map_some, List.replicate_zero, List.replicate_succ, Nat.zero_add, Nat.add_zero, Nat.reduceAdd, Nat.reduceSub, Nat.reduceLeDiff, decide_eq_true_eq, Bool.not_eq_true', decide_eq_false_iff_not, Nat.sub_self, Option.some.injEq, exists_eq_left', exists_eq_left, x_pick, f_pr, f_qd, f_prT, f_qdT, x_pr0, x_pr1, x_qd0, x_qd1, x_qd2, x_qd3, g_pr, g_qd, nl_pr, nl_qd, nl_I, nl_B, nl_N, l_pr, l_qd, l_prs, l_ti, l_li, c_eq_pr, c_ne_pr, c_eq_qd, c_ne_qd, i_pr, i_qd, i_prs, i_ti, i_li, true_and, and_true, sl0, sl1, sl2, sl3, sl4, sl5, sl6, sl7, sl8, sl9, sl10, sl11, sl12, sl13, sl14, mketa, wipe1, shE_cons, shE_nil, shS_sh, shS_ow, shS_none, eq_self, and_self, decide_true, decide_false, reduceCtorEq, false_and, and_false, true_implies, false_implies, implies_true, not_true_eq_false, Bool.not_true, Bool.not_false, Bool.true_and, Bool.false_and, Bool.and_true, Bool.and_false, Bool.or_true, Bool.true_or, Bool.or_false, Bool.false_or, Int.reduceLT, Int.reduceLE, Nat.reduceLT, h_law_shares, h_law_whole, h_law_bound, h_law_windows, h_law_wrong_shares, h_law_next, h_row_within, h_judge_crowded, p_law_shares, p_law_whole, p_law_bound, p_law_windows, p_law_wrong_shares, p_law_next, p_row_within, p_judge_crowded]
      split
      · have e : wf [(1, 2), (1, 3), (1, 6)] = 6 := by decide +kernel
        exact hR _ ⟨[(1, 2), (1, 3), (1, 6)], good_6, _, _, _, _, _, _, _, _, _, _, _, _, _, _, _, _, _, by rw [e]; rfl⟩
      · exact hR _ ⟨l0, hg0, _, _, _, _, _, _, _, _, _, _, _, _, _, _, _, _, _, rfl⟩
    rintro ρ ⟨l, hg, s0, s2, s5, s6, s7, s8, s9, s10, s11, s12, s13, s14, s15, s16, s17, s18, s19, rfl⟩
    simp only [w_nil, w_asg, w_asgL, w_unp, w_par, w_par3, w_aug, w_app, w_rem, w_ext, w_seti, w_frz, w_expr, w_ret, w_raise, w_brk, w_cont, w_pass, wp, getV, getB, initE, endF, bindG, List.map_cons, List.map_nil, List.length_cons, List.length_nil, List.cons_append, List.nil_append, List.append_nil, List.getElem?_cons_zero, List.getElem?_cons_succ, List.set_cons_zero, List.set_cons_succ, partD, k_L, k_T, l_lenT, l_lenL, l_int, l_intB, l_abs, l_max2, l_max3, l_max4, l_min2, l_maxL, l_minL, l_sum, l_all, l_any, l_tupL, l_tupT, l_lisL, l_lisT, r_1, r_2, r_l, i_L, i_T, i_A, if_true, if_false, ite_true, ite_false, not_false_eq_true, not_true_eq_false, Bool.false_eq_true, ite_not, b_add, b_addT, b_addL, b_sub, b_subB, b_mul, b_mulT, b_mulL, b_fdiv, b_mod, b_pow, a_add, a_sub, a_mul, a_fdiv, c_lt, c_le, c_gt, c_ge, c_eqI, c_neI, c_eqB, c_neB, seqP, pysD, Option.map_some, List.replicate_zero, List.replicate_succ, Nat.zero_add, Nat.add_zero, Nat.reduceAdd, Nat.reduceSub, Nat.reduceLeDiff, decide_eq_true_eq, Bool.not_eq_true', decide_eq_false_iff_not, Nat.sub_self, Option.some.injEq, exists_eq_left', exists_eq_left, x_pick, f_pr, f_qd, f_prT, f_qdT, x_pr0, x_pr1, x_qd0, x_qd1, x_qd2, x_qd3, g_pr, g_qd, nl_pr, nl_qd, nl_I, nl_B, nl_N, l_pr, l_qd, l_prs, l_ti, l_li, c_eq_pr, c_ne_pr, c_eq_qd, c_ne_qd, i_pr, i_qd, i_prs, i_ti, i_li, true_and, and_true, sl0, sl1, sl2, sl3, sl4, sl5, sl6, sl7, sl8, sl9, sl10, sl11, sl12, sl13, sl14, mketa, wipe1, shE_cons, shE_nil, shS_sh, shS_ow, shS_none, eq_self, and_self, decide_true, decide_false, reduceCtorEq, false_and, and_false, true_implies, false_implies, implies_true, not_true_eq_false, Bool.not_true, Bool.not_false, Bool.true_and, Bool.false_and, Bool.and_true, Bool.and_false, Bool.or_true, Bool.true_or, Bool.or_false, Bool.false_or, Int.reduceLT, Int.reduceLE, Nat.reduceLT, h_law_shares, h_law_whole, h_law_bound, h_law_windows, h_law_wrong_shares, h_law_next, h_row_within, h_judge_crowded, p_law_shares, p_law_whole, p_law_bound, p_law_windows, p_law_wrong_shares, p_law_next, p_row_within, p_judge_crowded]
    refine ⟨hg, fun b hb => ?_⟩
    have hl := good_len hg
    have hw := good_wf hg
    have hmm := good_mem hg
    have hwl := wins_len (b := b) hg
    have sP : Sh (8 * 3) 2 (prs l) := Sh.prs (fun y hy => by have := hmm y hy; exact ⟨(Z.at64 (by omega)).big (by decide), (Z.at64 (by omega)).big (by decide)⟩) hl.2
    have sR : ReprOk (prs l) := sP.ok (by decide) (by decide)
    have sB : ∀ b : Bool, ReprOk (.list [told (.bool b)]) := fun b => (Sh.told Sh.bool).ok1 (by decide) (by decide)
    have zb : ZF 64 b := ⟨Z.at64 (by have := hb.1; have := hb.2.2.1; omega), Z.at64 (by have := hb.2.1; have := hb.2.2.2.1; omega)⟩
    have l8 : ∀ x ∈ l, ZF 8 x := fun y hy => by
      have := hmm y hy
      have e : (2 : Nat) ^ 8 = 256 := by decide
      unfold ZF Z
      rw [e]
      omega
    have hok := ok_good hg
    have hob := ok_bound hb
    refine ⟨⟨rfl, sR⟩, hg, hb.2.1, zb, ?_⟩
    refine seq_by (fun ρ => ∃ ss : List (Int × Int), ss.length ≤ 37 ∧ ∃ s0 s2 s9 s10 s11 s12 s13 s14 s15 s16 s17 s18 s19 : Option Sl, ρ = [s0, some (.sh (.st)), s2, some (.sh (.py (prs l))), some (.sh (.I (wf l))), some (.sh (.py (pr b))), some (.sh (.S (prs l).shown)), some (.sh (.py (lwP l b))), some (.ow (ss.map pr)), s9, s10, s11, s12, s13, s14, s15, s16, s17, s18, s19]) (fun R hR => ?_) ?_
    · rw [w_for]
      simp only [w_nil, w_asg, w_asgL, w_unp, w_par, w_par3, w_aug, w_app, w_rem, w_ext, w_seti, w_frz, w_expr, w_ret, w_raise, w_brk, w_cont, w_pass, wp, getV, getB, initE, endF, bindG, List.map_cons, List.map_nil, List.length_cons, List.length_nil, List.cons_append, List.nil_append, List.append_nil, List.getElem?_cons_zero, List.getElem?_cons_succ, List.set_cons_zero, List.set_cons_succ, partD, k_L, k_T, l_lenT, l_lenL, l_int, l_intB, l_abs, l_max2, l_max3, l_max4, l_min2, l_maxL, l_minL, l_sum, l_all, l_any, l_tupL, l_tupT, l_lisL, l_lisT, r_1, r_2, r_l, i_L, i_T, i_A, if_true, if_false, ite_true, ite_false, not_false_eq_true, not_true_eq_false, Bool.false_eq_true, ite_not, b_add, b_addT, b_addL, b_sub, b_subB, b_mul, b_mulT, b_mulL, b_fdiv, b_mod, b_pow, a_add, a_sub, a_mul, a_fdiv, c_lt, c_le, c_gt, c_ge, c_eqI, c_neI, c_eqB, c_neB, seqP, pysD, Option.map_some, List.replicate_zero, List.replicate_succ, Nat.zero_add, Nat.add_zero, Nat.reduceAdd, Nat.reduceSub, Nat.reduceLeDiff, decide_eq_true_eq, Bool.not_eq_true', decide_eq_false_iff_not, Nat.sub_self, Option.some.injEq, exists_eq_left', exists_eq_left, x_pick, f_pr, f_qd, f_prT, f_qdT, x_pr0, x_pr1, x_qd0, x_qd1, x_qd2, x_qd3, g_pr, g_qd, nl_pr, nl_qd, nl_I, nl_B, nl_N, l_pr, l_qd, l_prs, l_ti, l_li, c_eq_pr, c_ne_pr, c_eq_qd, c_ne_qd, i_pr, i_qd, i_prs, i_ti, i_li, true_and, and_true, sl0, sl1, sl2, sl3, sl4, sl5, sl6, sl7, sl8, sl9, sl10, sl11, sl12, sl13, sl14, mketa, wipe1, shE_cons, shE_nil, shS_sh, shS_ow, shS_none, eq_self, and_self, decide_true, decide_false, reduceCtorEq, false_and, and_false, true_implies, false_implies, implies_true, not_true_eq_false, Bool.not_true, Bool.not_false, Bool.true_and, Bool.false_and, Bool.and_true, Bool.and_false, Bool.or_true, Bool.true_or, Bool.or_false, Bool.false_or, Int.reduceLT, Int.reduceLE, Nat.reduceLT, h_law_shares, h_law_whole, h_law_bound, h_law_windows, h_law_wrong_shares, h_law_next, h_row_within, h_judge_crowded, p_law_shares, p_law_whole, p_law_bound, p_law_windows, p_law_wrong_shares, p_law_next, p_row_within, p_judge_crowded]
      refine ⟨by decide, ?_⟩
      refine forW_rule (fun i ρ => ∃ ss : List (Int × Int), ss.length ≤ 7 + i ∧ ∃ s0 s2 s9 s10 s11 s12 s13 s14 s15 s16 s17 s18 s19 : Option Sl, ρ = [s0, some (.sh (.st)), s2, some (.sh (.py (prs l))), some (.sh (.I (wf l))), some (.sh (.py (pr b))), some (.sh (.S (prs l).shown)), some (.sh (.py (lwP l b))), some (.ow (ss.map pr)), s9, s10, s11, s12, s13, s14, s15, s16, s17, s18, s19]) ⟨[(0, wf l), (1, wf l + 1), (3, 1), (1, -1), (wf l + 2, wf l + 1), (wf l + 1, wf l), (-1, 2)], (by show 7 ≤ 7 + 0; decide), _, _, _, _, _, _, _, _, _, _, _, _, _, rfl⟩ ?_ ?_
      · rintro j d ρ K2 hd2 ⟨ss, hss, s0, s2, s9, s10, s11, s12, s13, s14, s15, s16, s17, s18, s19, rfl⟩ hK2
        obtain ⟨rfl, hj⟩ := rangeD_get hd2
        simp only [w_nil, w_asg, w_asgL, w_unp, w_par, w_par3, w_aug, w_app, w_rem, w_ext, w_seti, w_frz, w_expr, w_ret, w_raise, w_brk, w_cont, w_pass, wp, getV, getB, initE, endF, bindG, List.map_cons, List.map_nil, List.length_cons, List.length_nil, List.cons_append, List.nil_append, List.append_nil, List.getElem?_cons_zero, List.getElem?_cons_succ, List.set_cons_zero, List.set_cons_succ, partD, k_L, k_T, l_lenT, l_lenL, l_int, l_intB, l_abs, l_max2, l_max3, l_max4, l_min2, l_maxL, l_minL, l_sum, l_all, l_any, l_tupL, l_tupT, l_lisL, l_lisT, r_1, r_2, r_l, i_L, i_T, i_A, if_true, if_false, ite_true, ite_false, not_false_eq_true, not_true_eq_false, Bool.false_eq_true, ite_not, b_add, b_addT, b_addL, b_sub, b_subB, b_mul, b_mulT, b_mulL, b_fdiv, b_mod, b_pow, a_add, a_sub, a_mul, a_fdiv, c_lt, c_le, c_gt, c_ge, c_eqI, c_neI, c_eqB, c_neB, seqP, pysD, Option.map_some, List.replicate_zero, List.replicate_succ, Nat.zero_add, Nat.add_zero, Nat.reduceAdd, Nat.reduceSub, Nat.reduceLeDiff, decide_eq_true_eq, Bool.not_eq_true', decide_eq_false_iff_not, Nat.sub_self, Option.some.injEq, exists_eq_left', exists_eq_left, x_pick, f_pr, f_qd, f_prT, f_qdT, x_pr0, x_pr1, x_qd0, x_qd1, x_qd2, x_qd3, g_pr, g_qd, nl_pr, nl_qd, nl_I, nl_B, nl_N, l_pr, l_qd, l_prs, l_ti, l_li, c_eq_pr, c_ne_pr, c_eq_qd, c_ne_qd, i_pr, i_qd, i_prs, i_ti, i_li, true_and, and_true, sl0, sl1, sl2, sl3, sl4, sl5, sl6, sl7, sl8, sl9, sl10, sl11, sl12, sl13, sl14, mketa, wipe1, shE_cons, shE_nil, shS_sh, shS_ow, shS_none, eq_self, and_self, decide_true, decide_false, reduceCtorEq, false_and, and_false, true_implies, false_implies, implies_true, not_true_eq_false, Bool.not_true, Bool.not_false, Bool.true_and, Bool.false_and, Bool.and_true, Bool.and_false, Bool.or_true, Bool.true_or, Bool.or_false, Bool.false_or, Int.reduceLT, Int.reduceLE, Nat.reduceLT, h_law_shares, h_law_whole, h_law_bound, h_law_windows, h_law_wrong_shares, h_law_next, h_row_within, h_judge_crowded, p_law_shares, p_law_whole, p_law_bound, p_law_windows, p_law_wrong_shares, p_law_next, p_row_within, p_judge_crowded]
        refine ⟨by omega, fun x h0 h1 => ⟨by omega, fun y h2 h3 => ⟨by rw [List.length_map, sl]; omega, hK2 _ ⟨ss ++ [(1 + x, 1 + x - 1 + y)], by rw [List.length_append]; show ss.length + 1 ≤ _; omega, _, _, _, _, _, _, _, _, _, _, _, _, _, by rw [List.map_append]; rfl⟩⟩⟩⟩
      · rintro ρ ⟨ss, hss, s0, s2, s9, s10, s11, s12, s13, s14, s15, s16, s17, s18, s19, rfl⟩
        exact hR _ ⟨ss, hss, _, _, _, _, _, _, _, _, _, _, _, _, _, rfl⟩
    rintro ρ ⟨ss, hss, s0, s2, s9, s10, s11, s12, s13, s14, s15, s16, s17, s18, s19, rfl⟩
    simp only [w_nil, w_asg, w_asgL, w_unp, w_par, w_par3, w_aug, w_app, w_rem, w_ext, w_seti, w_frz, w_expr, w_ret, w_raise, w_brk, w_cont, w_pass, wp, getV, getB, initE, endF, bindG, List.map_cons, List.map_nil, List.length_cons, List.length_nil, List.cons_append, List.nil_append, List.append_nil, List.getElem?_cons_zero, List.getElem?_cons_succ, List.set_cons_zero, List.set_cons_succ, partD, k_L, k_T, l_lenT, l_lenL, l_int, l_intB, l_abs, l_max2, l_max3, l_max4, l_min2, l_maxL, l_minL, l_sum, l_all, l_any, l_tupL, l_tupT, l_lisL, l_lisT, r_1, r_2, r_l, i_L, i_T, i_A, if_true, if_false, ite_true, ite_false, not_false_eq_true, not_true_eq_false, Bool.false_eq_true, ite_not, b_add, b_addT, b_addL, b_sub, b_subB, b_mul, b_mulT, b_mulL, b_fdiv, b_mod, b_pow, a_add, a_sub, a_mul, a_fdiv, c_lt, c_le, c_gt, c_ge, c_eqI, c_neI, c_eqB, c_neB, seqP, pysD, Option.map_some, List.replicate_zero, List.replicate_succ, Nat.zero_add, Nat.add_zero, Nat.reduceAdd, Nat.reduceSub, Nat.reduceLeDiff, decide_eq_true_eq, Bool.not_eq_true', decide_eq_false_iff_not, Nat.sub_self, Option.some.injEq, exists_eq_left', exists_eq_left, x_pick, f_pr, f_qd, f_prT, f_qdT, x_pr0, x_pr1, x_qd0, x_qd1, x_qd2, x_qd3, g_pr, g_qd, nl_pr, nl_qd, nl_I, nl_B, nl_N, l_pr, l_qd, l_prs, l_ti, l_li, c_eq_pr, c_ne_pr, c_eq_qd, c_ne_qd, i_pr, i_qd, i_prs, i_ti, i_li, true_and, and_true, sl0, sl1, sl2, sl3, sl4, sl5, sl6, sl7, sl8, sl9, sl10, sl11, sl12, sl13, sl14, mketa, wipe1, shE_cons, shE_nil, shS_sh, shS_ow, shS_none, eq_self, and_self, decide_true, decide_false, reduceCtorEq, false_and, and_false, true_implies, false_implies, implies_true, not_true_eq_false, Bool.not_true, Bool.not_false, Bool.true_and, Bool.false_and, Bool.and_true, Bool.and_false, Bool.or_true, Bool.true_or, Bool.or_false, Bool.false_or, Int.reduceLT, Int.reduceLE, Nat.reduceLT, h_law_shares, h_law_whole, h_law_bound, h_law_windows, h_law_wrong_shares, h_law_next, h_row_within, h_judge_crowded, p_law_shares, p_law_whole, p_law_bound, p_law_windows, p_law_wrong_shares, p_law_next, p_row_within, p_judge_crowded]
    refine seq_by (fun ρ => ∃ sb, Str1 l b sb ∧ ∃ s0 s2 s4 s7 s8 s9 s11 s12 s13 s14 s15 s16 s17 s18 s19 : Option Sl, ρ = [s0, some (.sh (.st)), s2, some (.sh (.py (prs l))), s4, some (.sh (.py (pr b))), some (.sh (.S (prs l).shown)), s7, s8, s9, some (.sh (.B sb)), s11, s12, s13, s14, s15, s16, s17, s18, s19]) (fun R hR => ?_) ?_
    · rw [w_for]
      show forW _ _ ((ss.map pr).map D.py) _
      rw [List.map_map]
      refine forW_rule (fun i ρ => ∃ sb, Str1 l b sb ∧ ∃ s0 s2 s8 s9 s11 s12 s13 s14 s15 s16 s17 s18 s19 : Option Sl, ρ = [s0, some (.sh (.st)), s2, some (.sh (.py (prs l))), some (.sh (.I (wf l))), some (.sh (.py (pr b))), some (.sh (.S (prs l).shown)), some (.sh (.py (lwP l b))), s8, s9, some (.sh (.B sb)), s11, s12, s13, s14, s15, s16, s17, s18, s19]) ⟨false, (fun z => nomatch z), _, _, _, _, _, _, _, _, _, _, _, _, _, rfl⟩ ?_ ?_
      · rintro j d ρ K2 hd2 ⟨sb, hsb, s0, s2, s8, s9, s11, s12, s13, s14, s15, s16, s17, s18, s19, rfl⟩ hK2
        rw [List.getElem?_map] at hd2
        obtain ⟨s, _, rfl⟩ := Option.map_eq_some_iff.mp hd2
        simp only [Function.comp, g_pr, bindG, List.set_cons_zero, List.set_cons_succ]
        refine seq_by (fun ρ => ∃ s0 s2 s8 s9 s11 s12 s16 s17 s18 s19 : Option Sl, ρ = [s0, some (.sh (.st)), s2, some (.sh (.py (prs l))), some (.sh (.I (wf l))), some (.sh (.py (pr b))), some (.sh (.S (prs l).shown)), some (.sh (.py (lwP l b))), s8, s9, some (.sh (.B sb)), s11, s12, some (.sh (.I s.1)), some (.sh (.I s.2)), some (.sh (.B (inW l s.1 s.2))), s16, s17, s18, s19]) (fun R hR => ?_) ?_
        · rw [w_asg1]
          simp only [w_nil, w_asg, w_asgL, w_unp, w_par, w_par3, w_aug, w_app, w_rem, w_ext, w_seti, w_frz, w_expr, w_ret, w_raise, w_brk, w_cont, w_pass, wp, getV, getB, initE, endF, bindG, List.map_cons, List.map_nil, List.length_cons, List.length_nil, List.cons_append, List.nil_append, List.append_nil, List.getElem?_cons_zero, List.getElem?_cons_succ, List.set_cons_zero, List.set_cons_succ, partD, k_L, k_T, l_lenT, l_lenL, l_int, l_intB, l_abs, l_max2, l_max3, l_max4, l_min2, l_maxL, l_minL, l_sum, l_all, l_any, l_tupL, l_tupT, l_lisL, l_lisT, r_1, r_2, r_l, i_L, i_T, i_A, if_true, if_false, ite_true, ite_false, not_false_eq_true, not_true_eq_false, Bool.false_eq_true, ite_not, b_add, b_addT, b_addL, b_sub, b_subB, b_mul, b_mulT, b_mulL, b_fdiv, b_mod, b_pow, a_add, a_sub, a_mul, a_fdiv, c_lt, c_le, c_gt, c_ge, c_eqI, c_neI, c_eqB, c_neB, seqP, pysD, Option.map_some, List.replicate_zero, List.replicate_succ, Nat.zero_add, Nat.add_zero, Nat.reduceAdd, Nat.reduceSub, Nat.reduceLeDiff, decide_eq_true_eq, Bool.not_eq_true', decide_eq_false_iff_not, Nat.sub_self, Option.some.injEq, exists_eq_left', exists_eq_left, x_pick, f_pr, f_qd, f_prT, f_qdT, x_pr0, x_pr1, x_qd0, x_qd1, x_qd2, x_qd3, g_pr, g_qd, nl_pr, nl_qd, nl_I, nl_B, nl_N, l_pr, l_qd, l_prs, l_ti, l_li, c_eq_pr, c_ne_pr, c_eq_qd, c_ne_qd, i_pr, i_qd, i_prs, i_ti, i_li, true_and, and_true, sl0, sl1, sl2, sl3, sl4, sl5, sl6, sl7, sl8, sl9, sl10, sl11, sl12, sl13, sl14, mketa, wipe1, shE_cons, shE_nil, shS_sh, shS_ow, shS_none, eq_self, and_self, decide_true, decide_false, reduceCtorEq, false_and, and_false, true_implies, false_implies, implies_true, not_true_eq_false, Bool.not_true, Bool.not_false, Bool.true_and, Bool.false_and, Bool.and_true, Bool.and_false, Bool.or_true, Bool.true_or, Bool.or_false, Bool.false_or, Int.reduceLT, Int.reduceLE, Nat.reduceLT, h_law_shares, h_law_whole, h_law_bound, h_law_windows, h_law_wrong_shares, h_law_next, h_row_within, h_judge_crowded, p_law_shares, p_law_whole, p_law_bound, p_law_windows, p_law_wrong_shares, p_law_next, p_row_within, p_judge_crowded]
          by_cases c1 : 1 ≤ s.1
          · by_cases c2 : s.1 ≤ wf l
            · by_cases c3 : s.1 - 1 ≤ s.2
              · rw [if_pos c1, if_pos c2, if_pos c3]
                have e : inW l s.1 s.2 = decide (s.2 ≤ wf l) := by
                  unfold inW
                  rw [decide_eq_true c1, decide_eq_true c2, decide_eq_true c3]
                  rfl
                exact hR _ ⟨_, _, _, _, _, _, _, _, _, _, by rw [e]⟩
              · rw [if_pos c1, if_pos c2, if_neg c3]
                have e : inW l s.1 s.2 = false := by
                  unfold inW
                  rw [decide_eq_false c3, Bool.false_and, Bool.and_false]
                exact hR _ ⟨_, _, _, _, _, _, _, _, _, _, by rw [e]⟩
            · rw [if_pos c1, if_neg c2]
              have e : inW l s.1 s.2 = false := by
                unfold inW
                rw [decide_eq_false c2, Bool.and_false, Bool.false_and]
              exact hR _ ⟨_, _, _, _, _, _, _, _, _, _, by rw [e]⟩
          · rw [if_neg c1]
            have e : inW l s.1 s.2 = false := by
              unfold inW
              rw [decide_eq_false c1, Bool.false_and, Bool.false_and]
            exact hR _ ⟨_, _, _, _, _, _, _, _, _, _, by rw [e]⟩
        rintro ρ ⟨s0, s2, s8, s9, s11, s12, s16, s17, s18, s19, rfl⟩
        refine seq_by (fun ρ => ∃ s0 s2 s8 s9 s11 s12 s16 s17 s18 s19 : Option Sl, ρ = [s0, some (.sh (.st)), s2, some (.sh (.py (prs l))), some (.sh (.I (wf l))), some (.sh (.py (pr b))), some (.sh (.S (prs l).shown)), some (.sh (.py (lwP l b))), s8, s9, some (.sh (.B sb)), s11, s12, some (.sh (.I s.1)), some (.sh (.I s.2)), some (.sh (.B (judB l b s))), s16, s17, s18, s19]) (fun R hR => ?_) ?_
        · rw [w_ite1]
          simp only [w_nil, w_asg, w_asgL, w_unp, w_par, w_par3, w_aug, w_app, w_rem, w_ext, w_seti, w_frz, w_expr, w_ret, w_raise, w_brk, w_cont, w_pass, wp, getV, getB, initE, endF, bindG, List.map_cons, List.map_nil, List.length_cons, List.length_nil, List.cons_append, List.nil_append, List.append_nil, List.getElem?_cons_zero, List.getElem?_cons_succ, List.set_cons_zero, List.set_cons_succ, partD, k_L, k_T, l_lenT, l_lenL, l_int, l_intB, l_abs, l_max2, l_max3, l_max4, l_min2, l_maxL, l_minL, l_sum, l_all, l_any, l_tupL, l_tupT, l_lisL, l_lisT, r_1, r_2, r_l, i_L, i_T, i_A, if_true, if_false, ite_true, ite_false, not_false_eq_true, not_true_eq_false, Bool.false_eq_true, ite_not, b_add, b_addT, b_addL, b_sub, b_subB, b_mul, b_mulT, b_mulL, b_fdiv, b_mod, b_pow, a_add, a_sub, a_mul, a_fdiv, c_lt, c_le, c_gt, c_ge, c_eqI, c_neI, c_eqB, c_neB, seqP, pysD, Option.map_some, List.replicate_zero, List.replicate_succ, Nat.zero_add, Nat.add_zero, Nat.reduceAdd, Nat.reduceSub, Nat.reduceLeDiff, decide_eq_true_eq, Bool.not_eq_true', decide_eq_false_iff_not, Nat.sub_self, Option.some.injEq, exists_eq_left', exists_eq_left, x_pick, f_pr, f_qd, f_prT, f_qdT, x_pr0, x_pr1, x_qd0, x_qd1, x_qd2, x_qd3, g_pr, g_qd, nl_pr, nl_qd, nl_I, nl_B, nl_N, l_pr, l_qd, l_prs, l_ti, l_li, c_eq_pr, c_ne_pr, c_eq_qd, c_ne_qd, i_pr, i_qd, i_prs, i_ti, i_li, true_and, and_true, sl0, sl1, sl2, sl3, sl4, sl5, sl6, sl7, sl8, sl9, sl10, sl11, sl12, sl13, sl14, mketa, wipe1, shE_cons, shE_nil, shS_sh, shS_ow, shS_none, eq_self, and_self, decide_true, decide_false, reduceCtorEq, false_and, and_false, true_implies, false_implies, implies_true, not_true_eq_false, Bool.not_true, Bool.not_false, Bool.true_and, Bool.false_and, Bool.and_true, Bool.and_false, Bool.or_true, Bool.true_or, Bool.or_false, Bool.false_or, Int.reduceLT, Int.reduceLE, Nat.reduceLT, h_law_shares, h_law_whole, h_law_bound, h_law_windows, h_law_wrong_shares, h_law_next, h_row_within, h_judge_crowded, p_law_shares, p_law_whole, p_law_bound, p_law_windows, p_law_wrong_shares, p_law_next, p_row_within, p_judge_crowded, i_lwP]
          split
          · rename_i c1
            refine compW_filter (p := insB s.1 s.2) (g := fun _ => PyData.int 1) (by rw [sl]; omega) (fun q hq' K' hK1 hK0 => ?_) ?_
            · unfold insB at hK1 hK0
              simp only [w_nil, w_asg, w_asgL, w_unp, w_par, w_par3, w_aug, w_app, w_rem, w_ext, w_seti, w_frz, w_expr, w_ret, w_raise, w_brk, w_cont, w_pass, wp, getV, getB, initE, endF, bindG, List.map_cons, List.map_nil, List.length_cons, List.length_nil, List.cons_append, List.nil_append, List.append_nil, List.getElem?_cons_zero, List.getElem?_cons_succ, List.set_cons_zero, List.set_cons_succ, partD, k_L, k_T, l_lenT, l_lenL, l_int, l_intB, l_abs, l_max2, l_max3, l_max4, l_min2, l_maxL, l_minL, l_sum, l_all, l_any, l_tupL, l_tupT, l_lisL, l_lisT, r_1, r_2, r_l, i_L, i_T, i_A, if_true, if_false, ite_true, ite_false, not_false_eq_true, not_true_eq_false, Bool.false_eq_true, ite_not, b_add, b_addT, b_addL, b_sub, b_subB, b_mul, b_mulT, b_mulL, b_fdiv, b_mod, b_pow, a_add, a_sub, a_mul, a_fdiv, c_lt, c_le, c_gt, c_ge, c_eqI, c_neI, c_eqB, c_neB, seqP, pysD, Option.map_some, List.replicate_zero, List.replicate_succ, Nat.zero_add, Nat.add_zero, Nat.reduceAdd, Nat.reduceSub, Nat.reduceLeDiff, decide_eq_true_eq, Bool.not_eq_true', decide_eq_false_iff_not, Nat.sub_self, Option.some.injEq, exists_eq_left', exists_eq_left, x_pick, f_pr, f_qd, f_prT, f_qdT, x_pr0, x_pr1, x_qd0, x_qd1, x_qd2, x_qd3, g_pr, g_qd, nl_pr, nl_qd, nl_I, nl_B, nl_N, l_pr, l_qd, l_prs, l_ti, l_li, c_eq_pr, c_ne_pr, c_eq_qd, c_ne_qd, i_pr, i_qd, i_prs, i_ti, i_li, true_and, and_true, sl0, sl1, sl2, sl3, sl4, sl5, sl6, sl7, sl8, sl9, sl10, sl11, sl12, sl13, sl14, mketa, wipe1, shE_cons, shE_nil, shS_sh, shS_ow, shS_none, eq_self, and_self, decide_true, decide_false, reduceCtorEq, false_and, and_false, true_implies, false_implies, implies_true, not_true_eq_false, Bool.not_true, Bool.not_false, Bool.true_and, Bool.false_and, Bool.and_true, Bool.and_false, Bool.or_true, Bool.true_or, Bool.or_false, Bool.false_or, Int.reduceLT, Int.reduceLE, Nat.reduceLT, h_law_shares, h_law_whole, h_law_bound, h_law_windows, h_law_wrong_shares, h_law_next, h_row_within, h_judge_crowded, p_law_shares, p_law_whole, p_law_bound, p_law_windows, p_law_wrong_shares, p_law_next, p_row_within, p_judge_crowded, wipeE, g_lw]
              by_cases d1 : s.1 ≤ q.2.1
              · rw [if_pos d1]
                rw [decide_eq_true d1, Bool.true_and] at hK1 hK0
                split
                · rename_i d2
                  exact hK1 (decide_eq_true d2)
                · rename_i d2
                  exact hK0 (decide_eq_false d2)
              · rw [if_neg d1]
                rw [decide_eq_false d1, Bool.false_and] at hK0
                exact hK0 rfl
            · rw [List.length_map]
              have e : judB l b s = decide (s.2 - s.1 + 1 < (((wins l b).filter (insB s.1 s.2)).length : Int)) := by
                unfold judB
                rw [c1]
                rfl
              exact hR _ ⟨_, _, _, _, _, _, _, _, _, _, by rw [e]⟩
          · rename_i c1
            have c1 : inW l s.1 s.2 = false := by simpa using c1
            have e : judB l b s = inW l s.1 s.2 := by
              unfold judB
              rw [c1]
              rfl
            exact hR _ ⟨_, _, _, _, _, _, _, _, _, _, by rw [e]⟩
        rintro ρ ⟨s0, s2, s8, s9, s11, s12, s16, s17, s18, s19, rfl⟩
        refine seq_by (fun ρ => ∃ sb, Str1 l b sb ∧ ∃ s0 s2 s8 s9 s11 s12 s16 s17 s18 s19 : Option Sl, ρ = [s0, some (.sh (.st)), s2, some (.sh (.py (prs l))), some (.sh (.I (wf l))), some (.sh (.py (pr b))), some (.sh (.S (prs l).shown)), some (.sh (.py (lwP l b))), s8, s9, some (.sh (.B sb)), s11, s12, some (.sh (.I s.1)), some (.sh (.I s.2)), some (.sh (.B (judB l b s))), s16, s17, s18, s19]) (fun R hR => ?_) ?_
        · rw [w_asg1]
          simp only [w_nil, w_asg, w_asgL, w_unp, w_par, w_par3, w_aug, w_app, w_rem, w_ext, w_seti, w_frz, w_expr, w_ret, w_raise, w_brk, w_cont, w_pass, wp, getV, getB, initE, endF, bindG, List.map_cons, List.map_nil, List.length_cons, List.length_nil, List.cons_append, List.nil_append, List.append_nil, List.getElem?_cons_zero, List.getElem?_cons_succ, List.set_cons_zero, List.set_cons_succ, partD, k_L, k_T, l_lenT, l_lenL, l_int, l_intB, l_abs, l_max2, l_max3, l_max4, l_min2, l_maxL, l_minL, l_sum, l_all, l_any, l_tupL, l_tupT, l_lisL, l_lisT, r_1, r_2, r_l, i_L, i_T, i_A, if_true, if_false, ite_true, ite_false, not_false_eq_true, not_true_eq_false, Bool.false_eq_true, ite_not, b_add, b_addT, b_addL, b_sub, b_subB, b_mul, b_mulT, b_mulL, b_fdiv, b_mod, b_pow, a_add, a_sub, a_mul, a_fdiv, c_lt, c_le, c_gt, c_ge, c_eqI, c_neI, c_eqB, c_neB, seqP, pysD, Option.map_some, List.replicate_zero, List.replicate_succ, Nat.zero_add, Nat.add_zero, Nat.reduceAdd, Nat.reduceSub, Nat.reduceLeDiff, decide_eq_true_eq, Bool.not_eq_true', decide_eq_false_iff_not, Nat.sub_self, Option.some.injEq, exists_eq_left', exists_eq_left, x_pick, f_pr, f_qd, f_prT, f_qdT, x_pr0, x_pr1, x_qd0, x_qd1, x_qd2, x_qd3, g_pr, g_qd, nl_pr, nl_qd, nl_I, nl_B, nl_N, l_pr, l_qd, l_prs, l_ti, l_li, c_eq_pr, c_ne_pr, c_eq_qd, c_ne_qd, i_pr, i_qd, i_prs, i_ti, i_li, true_and, and_true, sl0, sl1, sl2, sl3, sl4, sl5, sl6, sl7, sl8, sl9, sl10, sl11, sl12, sl13, sl14, mketa, wipe1, shE_cons, shE_nil, shS_sh, shS_ow, shS_none, eq_self, and_self, decide_true, decide_false, reduceCtorEq, false_and, and_false, true_implies, false_implies, implies_true, not_true_eq_false, Bool.not_true, Bool.not_false, Bool.true_and, Bool.false_and, Bool.and_true, Bool.and_false, Bool.or_true, Bool.true_or, Bool.or_false, Bool.false_or, Int.reduceLT, Int.reduceLE, Nat.reduceLT, h_law_shares, h_law_whole, h_law_bound, h_law_windows, h_law_wrong_shares, h_law_next, h_row_within, h_judge_crowded, p_law_shares, p_law_whole, p_law_bound, p_law_windows, p_law_wrong_shares, p_law_next, p_row_within, p_judge_crowded]
          split
          · rename_i z
            exact hR _ ⟨true, fun _ => hsb z, _, _, _, _, _, _, _, _, _, _, rfl⟩
          · refine hR _ ⟨judB l b s, fun z => ⟨s.1, s.2, ?_⟩, _, _, _, _, _, _, _, _, _, _, rfl⟩
            unfold judB at z
            rw [Bool.and_eq_true] at z
            exact z
        rintro ρ ⟨sb2, hsb2, s0, s2, s8, s9, s11, s12, s16, s17, s18, s19, rfl⟩
        rw [w_ite]
        simp only [w_nil, w_asg, w_asgL, w_unp, w_par, w_par3, w_aug, w_app, w_rem, w_ext, w_seti, w_frz, w_expr, w_ret, w_raise, w_brk, w_cont, w_pass, wp, getV, getB, initE, endF, bindG, List.map_cons, List.map_nil, List.length_cons, List.length_nil, List.cons_append, List.nil_append, List.append_nil, List.getElem?_cons_zero, List.getElem?_cons_succ, List.set_cons_zero, List.set_cons_succ, partD, k_L, k_T, l_lenT, l_lenL, l_int, l_intB, l_abs, l_max2, l_max3, l_max4, l_min2, l_maxL, l_minL, l_sum, l_all, l_any, l_tupL, l_tupT, l_lisL, l_lisT, r_1, r_2, r_l, i_L, i_T, i_A, if_true, if_false, ite_true, ite_false, not_false_eq_true, not_true_eq_false, Bool.false_eq_true, ite_not, b_add, b_addT, b_addL, b_sub, b_subB, b_mul, b_mulT, b_mulL, b_fdiv, b_mod, b_pow, a_add, a_sub, a_mul, a_fdiv, c_lt, c_le, c_gt, c_ge, c_eqI, c_neI, c_eqB, c_neB, seqP, pysD, Option.map_some, List.replicate_zero, List.replicate_succ, Nat.zero_add, Nat.add_zero, Nat.reduceAdd, Nat.reduceSub, Nat.reduceLeDiff, decide_eq_true_eq, Bool.not_eq_true', decide_eq_false_iff_not, Nat.sub_self, Option.some.injEq, exists_eq_left', exists_eq_left, x_pick, f_pr, f_qd, f_prT, f_qdT, x_pr0, x_pr1, x_qd0, x_qd1, x_qd2, x_qd3, g_pr, g_qd, nl_pr, nl_qd, nl_I, nl_B, nl_N, l_pr, l_qd, l_prs, l_ti, l_li, c_eq_pr, c_ne_pr, c_eq_qd, c_ne_qd, i_pr, i_qd, i_prs, i_ti, i_li, true_and, and_true, sl0, sl1, sl2, sl3, sl4, sl5, sl6, sl7, sl8, sl9, sl10, sl11, sl12, sl13, sl14, mketa, wipe1, shE_cons, shE_nil, shS_sh, shS_ow, shS_none, eq_self, and_self, decide_true, decide_false, reduceCtorEq, false_and, and_false, true_implies, false_implies, implies_true, not_true_eq_false, Bool.not_true, Bool.not_false, Bool.true_and, Bool.false_and, Bool.and_true, Bool.and_false, Bool.or_true, Bool.true_or, Bool.or_false, Bool.false_or, Int.reduceLT, Int.reduceLE, Nat.reduceLT, h_law_shares, h_law_whole, h_law_bound, h_law_windows, h_law_wrong_shares, h_law_next, h_row_within, h_judge_crowded, p_law_shares, p_law_whole, p_law_bound, p_law_windows, p_law_wrong_shares, p_law_next, p_row_within, p_judge_crowded]
        exact ⟨l8, by omega, zb, fun _ => ⟨hg, sB _, hK2 _ ⟨sb2, hsb2, _, _, _, _, _, _, _, _, _, _, _, _, _, rfl⟩⟩, fun h => absurd ⟨hok, hob, hb.1⟩ h⟩
      · rintro ρ ⟨sb, hsb, s0, s2, s8, s9, s11, s12, s13, s14, s15, s16, s17, s18, s19, rfl⟩
        exact hR _ ⟨sb, hsb, _, _, _, _, _, _, _, _, _, _, _, _, _, _, _, rfl⟩
    rintro ρ ⟨sb, hsb, s0, s2, s4, s7, s8, s9, s11, s12, s13, s14, s15, s16, s17, s18, s19, rfl⟩
    refine seq_by (fun ρ => ∃ w : PyData, (sb = true → w = .tuple [.str "missing"]) ∧ SeqAt.shaped w = true ∧ ∃ s0 s2 s4 s7 s8 s9 s12 s13 s14 s15 s16 s17 s18 s19 : Option Sl, ρ = [s0, some (.sh (.st)), s2, some (.sh (.py (prs l))), s4, some (.sh (.py (pr b))), some (.sh (.S (prs l).shown)), s7, s8, s9, some (.sh (.B sb)), some (.sh (.py w)), s12, s13, s14, s15, s16, s17, s18, s19]) (fun R hR => ?_) ?_
    · rw [w_asg1]
      simp only [w_nil, w_asg, w_asgL, w_unp, w_par, w_par3, w_aug, w_app, w_rem, w_ext, w_seti, w_frz, w_expr, w_ret, w_raise, w_brk, w_cont, w_pass, wp, getV, getB, initE, endF, bindG, List.map_cons, List.map_nil, List.length_cons, List.length_nil, List.cons_append, List.nil_append, List.append_nil, List.getElem?_cons_zero, List.getElem?_cons_succ, List.set_cons_zero, List.set_cons_succ, partD, k_L, k_T, l_lenT, l_lenL, l_int, l_intB, l_abs, l_max2, l_max3, l_max4, l_min2, l_maxL, l_minL, l_sum, l_all, l_any, l_tupL, l_tupT, l_lisL, l_lisT, r_1, r_2, r_l, i_L, i_T, i_A, if_true, if_false, ite_true, ite_false, not_false_eq_true, not_true_eq_false, Bool.false_eq_true, ite_not, b_add, b_addT, b_addL, b_sub, b_subB, b_mul, b_mulT, b_mulL, b_fdiv, b_mod, b_pow, a_add, a_sub, a_mul, a_fdiv, c_lt, c_le, c_gt, c_ge, c_eqI, c_neI, c_eqB, c_neB, seqP, pysD, Option.map_some, List.replicate_zero, List.replicate_succ, Nat.zero_add, Nat.add_zero, Nat.reduceAdd, Nat.reduceSub, Nat.reduceLeDiff, decide_eq_true_eq, Bool.not_eq_true', decide_eq_false_iff_not, Nat.sub_self, Option.some.injEq, exists_eq_left', exists_eq_left, x_pick, f_pr, f_qd, f_prT, f_qdT, x_pr0, x_pr1, x_qd0, x_qd1, x_qd2, x_qd3, g_pr, g_qd, nl_pr, nl_qd, nl_I, nl_B, nl_N, l_pr, l_qd, l_prs, l_ti, l_li, c_eq_pr, c_ne_pr, c_eq_qd, c_ne_qd, i_pr, i_qd, i_prs, i_ti, i_li, true_and, and_true, sl0, sl1, sl2, sl3, sl4, sl5, sl6, sl7, sl8, sl9, sl10, sl11, sl12, sl13, sl14, mketa, wipe1, shE_cons, shE_nil, shS_sh, shS_ow, shS_none, eq_self, and_self, decide_true, decide_false, reduceCtorEq, false_and, and_false, true_implies, false_implies, implies_true, not_true_eq_false, Bool.not_true, Bool.not_false, Bool.true_and, Bool.false_and, Bool.and_true, Bool.and_false, Bool.or_true, Bool.true_or, Bool.or_false, Bool.false_or, Int.reduceLT, Int.reduceLE, Nat.reduceLT, h_law_shares, h_law_whole, h_law_bound, h_law_windows, h_law_wrong_shares, h_law_next, h_row_within, h_judge_crowded, p_law_shares, p_law_whole, p_law_bound, p_law_windows, p_law_wrong_shares, p_law_next, p_row_within, p_judge_crowded]
      refine ⟨l8, by omega, zb, fun _ => ⟨hg, fun _ => hR _ ⟨_, fun _ => rfl, shk_str (by decide +kernel), _, _, _, _, _, _, _, _, _, _, _, _, _, _, rfl⟩, fun pl ws h => ?_⟩, fun h => absurd ⟨hok, hob, hb.1⟩ h⟩
      have hro := row_ok hg zb h
      refine hR _ ⟨told (ti (rowOf pl)), fun z => ?_, (Sh.told (Sh.ti (m := 600) (fun z hz => (Z.at64 (by have := hro.1 z hz; omega)).big (by decide)) (by omega))).shaped (by decide), _, _, _, _, _, _, _, _, _, _, _, _, _, _, rfl⟩
      obtain ⟨a, c, h1, h2⟩ := hsb z
      rw [edf_calm hg h a c h1] at h2
      cases h2
    rintro ρ ⟨w, hw1, hw2, s0, s2, s4, s7, s8, s9, s12, s13, s14, s15, s16, s17, s18, s19, rfl⟩
    refine seq_by (fun ρ => ∃ s0 s2 s4 s7 s8 s9 s10 s11 s12 s13 s14 s15 s16 s17 s18 s19 : Option Sl, ρ = [s0, some (.sh (.st)), s2, some (.sh (.py (prs l))), s4, some (.sh (.py (pr b))), some (.sh (.S (prs l).shown)), s7, s8, s9, s10, s11, s12, s13, s14, s15, s16, s17, s18, s19]) (fun R hR => ?_) ?_
    · rw [w_ite1]
      simp only [w_nil, w_asg, w_asgL, w_unp, w_par, w_par3, w_aug, w_app, w_rem, w_ext, w_seti, w_frz, w_expr, w_ret, w_raise, w_brk, w_cont, w_pass, wp, getV, getB, initE, endF, bindG, List.map_cons, List.map_nil, List.length_cons, List.length_nil, List.cons_append, List.nil_append, List.append_nil, List.getElem?_cons_zero, List.getElem?_cons_succ, List.set_cons_zero, List.set_cons_succ, partD, k_L, k_T, l_lenT, l_lenL, l_int, l_intB, l_abs, l_max2, l_max3, l_max4, l_min2, l_maxL, l_minL, l_sum, l_all, l_any, l_tupL, l_tupT, l_lisL, l_lisT, r_1, r_2, r_l, i_L, i_T, i_A, if_true, if_false, ite_true, ite_false, not_false_eq_true, not_true_eq_false, Bool.false_eq_true, ite_not, b_add, b_addT, b_addL, b_sub, b_subB, b_mul, b_mulT, b_mulL, b_fdiv, b_mod, b_pow, a_add, a_sub, a_mul, a_fdiv, c_lt, c_le, c_gt, c_ge, c_eqI, c_neI, c_eqB, c_neB, seqP, pysD, Option.map_some, List.replicate_zero, List.replicate_succ, Nat.zero_add, Nat.add_zero, Nat.reduceAdd, Nat.reduceSub, Nat.reduceLeDiff, decide_eq_true_eq, Bool.not_eq_true', decide_eq_false_iff_not, Nat.sub_self, Option.some.injEq, exists_eq_left', exists_eq_left, x_pick, f_pr, f_qd, f_prT, f_qdT, x_pr0, x_pr1, x_qd0, x_qd1, x_qd2, x_qd3, g_pr, g_qd, nl_pr, nl_qd, nl_I, nl_B, nl_N, l_pr, l_qd, l_prs, l_ti, l_li, c_eq_pr, c_ne_pr, c_eq_qd, c_ne_qd, i_pr, i_qd, i_prs, i_ti, i_li, true_and, and_true, sl0, sl1, sl2, sl3, sl4, sl5, sl6, sl7, sl8, sl9, sl10, sl11, sl12, sl13, sl14, mketa, wipe1, shE_cons, shE_nil, shS_sh, shS_ow, shS_none, eq_self, and_self, decide_true, decide_false, reduceCtorEq, false_and, and_false, true_implies, false_implies, implies_true, not_true_eq_false, Bool.not_true, Bool.not_false, Bool.true_and, Bool.false_and, Bool.and_true, Bool.and_false, Bool.or_true, Bool.true_or, Bool.or_false, Bool.false_or, Int.reduceLT, Int.reduceLE, Nat.reduceLT, h_law_shares, h_law_whole, h_law_bound, h_law_windows, h_law_wrong_shares, h_law_next, h_row_within, h_judge_crowded, p_law_shares, p_law_whole, p_law_bound, p_law_windows, p_law_wrong_shares, p_law_next, p_row_within, p_judge_crowded]
      split
      · rename_i z
        have e := hw1 z
        subst e
        refine c_ne_str (shk_str (by decide +kernel)) (shk_str (by decide +kernel)) ?_
        rw [decide_eq_true rfl]
        exact hR _ ⟨_, _, _, _, _, _, _, _, _, _, _, _, _, _, _, _, rfl⟩
      · exact hR _ ⟨_, _, _, _, _, _, _, _, _, _, _, _, _, _, _, _, rfl⟩
    rintro ρ ⟨s0, s2, s4, s7, s8, s9, s10, s11, s12, s13, s14, s15, s16, s17, s18, s19, rfl⟩
    simp only [w_nil, w_asg, w_asgL, w_unp, w_par, w_par3, w_aug, w_app, w_rem, w_ext, w_seti, w_frz, w_expr, w_ret, w_raise, w_brk, w_cont, w_pass, wp, getV, getB, initE, endF, bindG, List.map_cons, List.map_nil, List.length_cons, List.length_nil, List.cons_append, List.nil_append, List.append_nil, List.getElem?_cons_zero, List.getElem?_cons_succ, List.set_cons_zero, List.set_cons_succ, partD, k_L, k_T, l_lenT, l_lenL, l_int, l_intB, l_abs, l_max2, l_max3, l_max4, l_min2, l_maxL, l_minL, l_sum, l_all, l_any, l_tupL, l_tupT, l_lisL, l_lisT, r_1, r_2, r_l, i_L, i_T, i_A, if_true, if_false, ite_true, ite_false, not_false_eq_true, not_true_eq_false, Bool.false_eq_true, ite_not, b_add, b_addT, b_addL, b_sub, b_subB, b_mul, b_mulT, b_mulL, b_fdiv, b_mod, b_pow, a_add, a_sub, a_mul, a_fdiv, c_lt, c_le, c_gt, c_ge, c_eqI, c_neI, c_eqB, c_neB, seqP, pysD, Option.map_some, List.replicate_zero, List.replicate_succ, Nat.zero_add, Nat.add_zero, Nat.reduceAdd, Nat.reduceSub, Nat.reduceLeDiff, decide_eq_true_eq, Bool.not_eq_true', decide_eq_false_iff_not, Nat.sub_self, Option.some.injEq, exists_eq_left', exists_eq_left, x_pick, f_pr, f_qd, f_prT, f_qdT, x_pr0, x_pr1, x_qd0, x_qd1, x_qd2, x_qd3, g_pr, g_qd, nl_pr, nl_qd, nl_I, nl_B, nl_N, l_pr, l_qd, l_prs, l_ti, l_li, c_eq_pr, c_ne_pr, c_eq_qd, c_ne_qd, i_pr, i_qd, i_prs, i_ti, i_li, true_and, and_true, sl0, sl1, sl2, sl3, sl4, sl5, sl6, sl7, sl8, sl9, sl10, sl11, sl12, sl13, sl14, mketa, wipe1, shE_cons, shE_nil, shS_sh, shS_ow, shS_none, eq_self, and_self, decide_true, decide_false, reduceCtorEq, false_and, and_false, true_implies, false_implies, implies_true, not_true_eq_false, Bool.not_true, Bool.not_false, Bool.true_and, Bool.false_and, Bool.and_true, Bool.and_false, Bool.or_true, Bool.true_or, Bool.or_false, Bool.false_or, Int.reduceLT, Int.reduceLE, Nat.reduceLT, h_law_shares, h_law_whole, h_law_bound, h_law_windows, h_law_wrong_shares, h_law_next, h_row_within, h_judge_crowded, p_law_shares, p_law_whole, p_law_bound, p_law_windows, p_law_wrong_shares, p_law_next, p_row_within, p_judge_crowded]
    intro l' hl'
    have hwb := wrong_bad l' hl'
    refine seq_by (fun ρ => ∃ s0 s2 s4 s7 s8 s9 s10 s11 s12 s13 s14 s15 s16 s17 s18 s19 : Option Sl, ρ = [s0, some (.sh (.st)), s2, some (.sh (.py (prs l))), s4, some (.sh (.py (pr b))), some (.sh (.S (prs l).shown)), s7, s8, s9, s10, s11, s12, s13, s14, s15, s16, s17, s18, s19]) (fun R hR => ?_) ?_
    · rw [w_for]
      simp only [w_nil, w_asg, w_asgL, w_unp, w_par, w_par3, w_aug, w_app, w_rem, w_ext, w_seti, w_frz, w_expr, w_ret, w_raise, w_brk, w_cont, w_pass, wp, getV, getB, initE, endF, bindG, List.map_cons, List.map_nil, List.length_cons, List.length_nil, List.cons_append, List.nil_append, List.append_nil, List.getElem?_cons_zero, List.getElem?_cons_succ, List.set_cons_zero, List.set_cons_succ, partD, k_L, k_T, l_lenT, l_lenL, l_int, l_intB, l_abs, l_max2, l_max3, l_max4, l_min2, l_maxL, l_minL, l_sum, l_all, l_any, l_tupL, l_tupT, l_lisL, l_lisT, r_1, r_2, r_l, i_L, i_T, i_A, if_true, if_false, ite_true, ite_false, not_false_eq_true, not_true_eq_false, Bool.false_eq_true, ite_not, b_add, b_addT, b_addL, b_sub, b_subB, b_mul, b_mulT, b_mulL, b_fdiv, b_mod, b_pow, a_add, a_sub, a_mul, a_fdiv, c_lt, c_le, c_gt, c_ge, c_eqI, c_neI, c_eqB, c_neB, seqP, pysD, Option.map_some, List.replicate_zero, List.replicate_succ, Nat.zero_add, Nat.add_zero, Nat.reduceAdd, Nat.reduceSub, Nat.reduceLeDiff, decide_eq_true_eq, Bool.not_eq_true', decide_eq_false_iff_not, Nat.sub_self, Option.some.injEq, exists_eq_left', exists_eq_left, x_pick, f_pr, f_qd, f_prT, f_qdT, x_pr0, x_pr1, x_qd0, x_qd1, x_qd2, x_qd3, g_pr, g_qd, nl_pr, nl_qd, nl_I, nl_B, nl_N, l_pr, l_qd, l_prs, l_ti, l_li, c_eq_pr, c_ne_pr, c_eq_qd, c_ne_qd, i_pr, i_qd, i_prs, i_ti, i_li, true_and, and_true, sl0, sl1, sl2, sl3, sl4, sl5, sl6, sl7, sl8, sl9, sl10, sl11, sl12, sl13, sl14, mketa, wipe1, shE_cons, shE_nil, shS_sh, shS_ow, shS_none, eq_self, and_self, decide_true, decide_false, reduceCtorEq, false_and, and_false, true_implies, false_implies, implies_true, not_true_eq_false, Bool.not_true, Bool.not_false, Bool.true_and, Bool.false_and, Bool.and_true, Bool.and_false, Bool.or_true, Bool.true_or, Bool.or_false, Bool.false_or, Int.reduceLT, Int.reduceLE, Nat.reduceLT, h_law_shares, h_law_whole, h_law_bound, h_law_windows, h_law_wrong_shares, h_law_next, h_row_within, h_judge_crowded, p_law_shares, p_law_whole, p_law_bound, p_law_windows, p_law_wrong_shares, p_law_next, p_row_within, p_judge_crowded]
      refine forW_rule (fun i ρ => ∃ s0 s2 s4 s7 s8 s9 s10 s11 s12 s13 s14 s15 s16 s17 s18 s19 : Option Sl, ρ = [s0, some (.sh (.st)), s2, some (.sh (.py (prs l))), s4, some (.sh (.py (pr b))), some (.sh (.S (prs l).shown)), s7, s8, s9, s10, s11, s12, s13, s14, s15, s16, s17, s18, s19]) ⟨_, _, _, _, _, _, _, _, _, _, _, _, _, _, _, _, rfl⟩ ?_ ?_
      · rintro j d ρ K' hd2 ⟨s0, s2, s4, s7, s8, s9, s10, s11, s12, s13, s14, s15, s16, s17, s18, s19, rfl⟩ hK'
        have hd2 := List.mem_of_getElem? hd2
        have z1 : ZF 64 ((1, 1) : Int × Int) := by decide
        obtain ⟨m, e, rfl, h1, h2, h3, h5⟩ : ∃ m e, d = .py (.tuple [prs m, pr e]) ∧ (∀ x ∈ m, ZF 8 x) ∧ m.length ≤ 1000 ∧ ZF 64 e ∧ ¬ (okSh m = true ∧ okF e = true ∧ 0 ≤ e.1) := by
          simp only [List.mem_cons, List.not_mem_nil, or_false] at hd2
          rcases hd2 with rfl | rfl | rfl
          · exact ⟨_, _, rfl, hwb.2.1, hwb.2.2, z1, fun z => by rw [hwb.1] at z; exact nomatch z.1⟩
          · exact ⟨_, _, rfl, l8, by omega, by decide, fun z => absurd z.2 (by decide)⟩
          · exact ⟨_, _, rfl, l8, by omega, by decide, fun z => absurd z.2 (by decide)⟩
        simp only [w_nil, w_asg, w_asgL, w_unp, w_par, w_par3, w_aug, w_app, w_rem, w_ext, w_seti, w_frz, w_expr, w_ret, w_raise, w_brk, w_cont, w_pass, wp, getV, getB, initE, endF, bindG, List.map_cons, List.map_nil, List.length_cons, List.length_nil, List.cons_append, List.nil_append, List.append_nil, List.getElem?_cons_zero, List.getElem?_cons_succ, List.set_cons_zero, List.set_cons_succ, partD, k_L, k_T, l_lenT, l_lenL, l_int, l_intB, l_abs, l_max2, l_max3, l_max4, l_min2, l_maxL, l_minL, l_sum, l_all, l_any, l_tupL, l_tupT, l_lisL, l_lisT, r_1, r_2, r_l, i_L, i_T, i_A, if_true, if_false, ite_true, ite_false, not_false_eq_true, not_true_eq_false, Bool.false_eq_true, ite_not, b_add, b_addT, b_addL, b_sub, b_subB, b_mul, b_mulT, b_mulL, b_fdiv, b_mod, b_pow, a_add, a_sub, a_mul, a_fdiv, c_lt, c_le, c_gt, c_ge, c_eqI, c_neI, c_eqB, c_neB, seqP, pysD, Option.map_some, List.replicate_zero, List.replicate_succ, Nat.zero_add, Nat.add_zero, Nat.reduceAdd, Nat.reduceSub, Nat.reduceLeDiff, decide_eq_true_eq, Bool.not_eq_true', decide_eq_false_iff_not, Nat.sub_self, Option.some.injEq, exists_eq_left', exists_eq_left, x_pick, f_pr, f_qd, f_prT, f_qdT, x_pr0, x_pr1, x_qd0, x_qd1, x_qd2, x_qd3, g_pr, g_qd, nl_pr, nl_qd, nl_I, nl_B, nl_N, l_pr, l_qd, l_prs, l_ti, l_li, c_eq_pr, c_ne_pr, c_eq_qd, c_ne_qd, i_pr, i_qd, i_prs, i_ti, i_li, true_and, and_true, sl0, sl1, sl2, sl3, sl4, sl5, sl6, sl7, sl8, sl9, sl10, sl11, sl12, sl13, sl14, mketa, wipe1, shE_cons, shE_nil, shS_sh, shS_ow, shS_none, eq_self, and_self, decide_true, decide_false, reduceCtorEq, false_and, and_false, true_implies, false_implies, implies_true, not_true_eq_false, Bool.not_true, Bool.not_false, Bool.true_and, Bool.false_and, Bool.and_true, Bool.and_false, Bool.or_true, Bool.true_or, Bool.or_false, Bool.false_or, Int.reduceLT, Int.reduceLE, Nat.reduceLT, h_law_shares, h_law_whole, h_law_bound, h_law_windows, h_law_wrong_shares, h_law_next, h_row_within, h_judge_crowded, p_law_shares, p_law_whole, p_law_bound, p_law_windows, p_law_wrong_shares, p_law_next, p_row_within, p_judge_crowded]
        rw [w_ite]
        simp only [w_nil, w_asg, w_asgL, w_unp, w_par, w_par3, w_aug, w_app, w_rem, w_ext, w_seti, w_frz, w_expr, w_ret, w_raise, w_brk, w_cont, w_pass, wp, getV, getB, initE, endF, bindG, List.map_cons, List.map_nil, List.length_cons, List.length_nil, List.cons_append, List.nil_append, List.append_nil, List.getElem?_cons_zero, List.getElem?_cons_succ, List.set_cons_zero, List.set_cons_succ, partD, k_L, k_T, l_lenT, l_lenL, l_int, l_intB, l_abs, l_max2, l_max3, l_max4, l_min2, l_maxL, l_minL, l_sum, l_all, l_any, l_tupL, l_tupT, l_lisL, l_lisT, r_1, r_2, r_l, i_L, i_T, i_A, if_true, if_false, ite_true, ite_false, not_false_eq_true, not_true_eq_false, Bool.false_eq_true, ite_not, b_add, b_addT, b_addL, b_sub, b_subB, b_mul, b_mulT, b_mulL, b_fdiv, b_mod, b_pow, a_add, a_sub, a_mul, a_fdiv, c_lt, c_le, c_gt, c_ge, c_eqI, c_neI, c_eqB, c_neB, seqP, pysD, Option.map_some, List.replicate_zero, List.replicate_succ, Nat.zero_add, Nat.add_zero, Nat.reduceAdd, Nat.reduceSub, Nat.reduceLeDiff, decide_eq_true_eq, Bool.not_eq_true', decide_eq_false_iff_not, Nat.sub_self, Option.some.injEq, exists_eq_left', exists_eq_left, x_pick, f_pr, f_qd, f_prT, f_qdT, x_pr0, x_pr1, x_qd0, x_qd1, x_qd2, x_qd3, g_pr, g_qd, nl_pr, nl_qd, nl_I, nl_B, nl_N, l_pr, l_qd, l_prs, l_ti, l_li, c_eq_pr, c_ne_pr, c_eq_qd, c_ne_qd, i_pr, i_qd, i_prs, i_ti, i_li, true_and, and_true, sl0, sl1, sl2, sl3, sl4, sl5, sl6, sl7, sl8, sl9, sl10, sl11, sl12, sl13, sl14, mketa, wipe1, shE_cons, shE_nil, shS_sh, shS_ow, shS_none, eq_self, and_self, decide_true, decide_false, reduceCtorEq, false_and, and_false, true_implies, false_implies, implies_true, not_true_eq_false, Bool.not_true, Bool.not_false, Bool.true_and, Bool.false_and, Bool.and_true, Bool.and_false, Bool.or_true, Bool.true_or, Bool.or_false, Bool.false_or, Int.reduceLT, Int.reduceLE, Nat.reduceLT, h_law_shares, h_law_whole, h_law_bound, h_law_windows, h_law_wrong_shares, h_law_next, h_row_within, h_judge_crowded, p_law_shares, p_law_whole, p_law_bound, p_law_windows, p_law_wrong_shares, p_law_next, p_row_within, p_judge_crowded]
        refine ⟨h1, h2, h3, fun z => absurd z h5, fun _ => ?_⟩
        refine c_refused ?_
        simp only [w_nil, w_asg, w_asgL, w_unp, w_par, w_par3, w_aug, w_app, w_rem, w_ext, w_seti, w_frz, w_expr, w_ret, w_raise, w_brk, w_cont, w_pass, wp, getV, getB, initE, endF, bindG, List.map_cons, List.map_nil, List.length_cons, List.length_nil, List.cons_append, List.nil_append, List.append_nil, List.getElem?_cons_zero, List.getElem?_cons_succ, List.set_cons_zero, List.set_cons_succ, partD, k_L, k_T, l_lenT, l_lenL, l_int, l_intB, l_abs, l_max2, l_max3, l_max4, l_min2, l_maxL, l_minL, l_sum, l_all, l_any, l_tupL, l_tupT, l_lisL, l_lisT, r_1, r_2, r_l, i_L, i_T, i_A, if_true, if_false, ite_true, ite_false, not_false_eq_true, not_true_eq_false, Bool.false_eq_true, ite_not, b_add, b_addT, b_addL, b_sub, b_subB, b_mul, b_mulT, b_mulL, b_fdiv, b_mod, b_pow, a_add, a_sub, a_mul, a_fdiv, c_lt, c_le, c_gt, c_ge, c_eqI, c_neI, c_eqB, c_neB, seqP, pysD, Option.map_some, List.replicate_zero, List.replicate_succ, Nat.zero_add, Nat.add_zero, Nat.reduceAdd, Nat.reduceSub, Nat.reduceLeDiff, decide_eq_true_eq, Bool.not_eq_true', decide_eq_false_iff_not, Nat.sub_self, Option.some.injEq, exists_eq_left', exists_eq_left, x_pick, f_pr, f_qd, f_prT, f_qdT, x_pr0, x_pr1, x_qd0, x_qd1, x_qd2, x_qd3, g_pr, g_qd, nl_pr, nl_qd, nl_I, nl_B, nl_N, l_pr, l_qd, l_prs, l_ti, l_li, c_eq_pr, c_ne_pr, c_eq_qd, c_ne_qd, i_pr, i_qd, i_prs, i_ti, i_li, true_and, and_true, sl0, sl1, sl2, sl3, sl4, sl5, sl6, sl7, sl8, sl9, sl10, sl11, sl12, sl13, sl14, mketa, wipe1, shE_cons, shE_nil, shS_sh, shS_ow, shS_none, eq_self, and_self, decide_true, decide_false, reduceCtorEq, false_and, and_false, true_implies, false_implies, implies_true, not_true_eq_false, Bool.not_true, Bool.not_false, Bool.true_and, Bool.false_and, Bool.and_true, Bool.and_false, Bool.or_true, Bool.true_or, Bool.or_false, Bool.false_or, Int.reduceLT, Int.reduceLE, Nat.reduceLT, h_law_shares, h_law_whole, h_law_bound, h_law_windows, h_law_wrong_shares, h_law_next, h_row_within, h_judge_crowded, p_law_shares, p_law_whole, p_law_bound, p_law_windows, p_law_wrong_shares, p_law_next, p_row_within, p_judge_crowded]
        exact hK' _ ⟨_, _, _, _, _, _, _, _, _, _, _, _, _, _, _, _, rfl⟩
      · rintro ρ ⟨s0, s2, s4, s7, s8, s9, s10, s11, s12, s13, s14, s15, s16, s17, s18, s19, rfl⟩
        exact hR _ ⟨_, _, _, _, _, _, _, _, _, _, _, _, _, _, _, _, rfl⟩
    rintro ρ ⟨s0, s2, s4, s7, s8, s9, s10, s11, s12, s13, s14, s15, s16, s17, s18, s19, rfl⟩
    rw [w_ite]
    simp only [w_nil, w_asg, w_asgL, w_unp, w_par, w_par3, w_aug, w_app, w_rem, w_ext, w_seti, w_frz, w_expr, w_ret, w_raise, w_brk, w_cont, w_pass, wp, getV, getB, initE, endF, bindG, List.map_cons, List.map_nil, List.length_cons, List.length_nil, List.cons_append, List.nil_append, List.append_nil, List.getElem?_cons_zero, List.getElem?_cons_succ, List.set_cons_zero, List.set_cons_succ, partD, k_L, k_T, l_lenT, l_lenL, l_int, l_intB, l_abs, l_max2, l_max3, l_max4, l_min2, l_maxL, l_minL, l_sum, l_all, l_any, l_tupL, l_tupT, l_lisL, l_lisT, r_1, r_2, r_l, i_L, i_T, i_A, if_true, if_false, ite_true, ite_false, not_false_eq_true, not_true_eq_false, Bool.false_eq_true, ite_not, b_add, b_addT, b_addL, b_sub, b_subB, b_mul, b_mulT, b_mulL, b_fdiv, b_mod, b_pow, a_add, a_sub, a_mul, a_fdiv, c_lt, c_le, c_gt, c_ge, c_eqI, c_neI, c_eqB, c_neB, seqP, pysD, Option.map_some, List.replicate_zero, List.replicate_succ, Nat.zero_add, Nat.add_zero, Nat.reduceAdd, Nat.reduceSub, Nat.reduceLeDiff, decide_eq_true_eq, Bool.not_eq_true', decide_eq_false_iff_not, Nat.sub_self, Option.some.injEq, exists_eq_left', exists_eq_left, x_pick, f_pr, f_qd, f_prT, f_qdT, x_pr0, x_pr1, x_qd0, x_qd1, x_qd2, x_qd3, g_pr, g_qd, nl_pr, nl_qd, nl_I, nl_B, nl_N, l_pr, l_qd, l_prs, l_ti, l_li, c_eq_pr, c_ne_pr, c_eq_qd, c_ne_qd, i_pr, i_qd, i_prs, i_ti, i_li, true_and, and_true, sl0, sl1, sl2, sl3, sl4, sl5, sl6, sl7, sl8, sl9, sl10, sl11, sl12, sl13, sl14, mketa, wipe1, shE_cons, shE_nil, shS_sh, shS_ow, shS_none, eq_self, and_self, decide_true, decide_false, reduceCtorEq, false_and, and_false, true_implies, false_implies, implies_true, not_true_eq_false, Bool.not_true, Bool.not_false, Bool.true_and, Bool.false_and, Bool.and_true, Bool.and_false, Bool.or_true, Bool.true_or, Bool.or_false, Bool.false_or, Int.reduceLT, Int.reduceLE, Nat.reduceLT, h_law_shares, h_law_whole, h_law_bound, h_law_windows, h_law_wrong_shares, h_law_next, h_row_within, h_judge_crowded, p_law_shares, p_law_whole, p_law_bound, p_law_windows, p_law_wrong_shares, p_law_next, p_row_within, p_judge_crowded]
    refine ⟨⟨rfl, sR⟩, c_ne_kept shOk_prs ?_⟩
    simp only [w_nil, w_asg, w_asgL, w_unp, w_par, w_par3, w_aug, w_app, w_rem, w_ext, w_seti, w_frz, w_expr, w_ret, w_raise, w_brk, w_cont, w_pass, wp, getV, getB, initE, endF, bindG, List.map_cons, List.map_nil, List.length_cons, List.length_nil, List.cons_append, List.nil_append, List.append_nil, List.getElem?_cons_zero, List.getElem?_cons_succ, List.set_cons_zero, List.set_cons_succ, partD, k_L, k_T, l_lenT, l_lenL, l_int, l_intB, l_abs, l_max2, l_max3, l_max4, l_min2, l_maxL, l_minL, l_sum, l_all, l_any, l_tupL, l_tupT, l_lisL, l_lisT, r_1, r_2, r_l, i_L, i_T, i_A, if_true, if_false, ite_true, ite_false, not_false_eq_true, not_true_eq_false, Bool.false_eq_true, ite_not, b_add, b_addT, b_addL, b_sub, b_subB, b_mul, b_mulT, b_mulL, b_fdiv, b_mod, b_pow, a_add, a_sub, a_mul, a_fdiv, c_lt, c_le, c_gt, c_ge, c_eqI, c_neI, c_eqB, c_neB, seqP, pysD, Option.map_some, List.replicate_zero, List.replicate_succ, Nat.zero_add, Nat.add_zero, Nat.reduceAdd, Nat.reduceSub, Nat.reduceLeDiff, decide_eq_true_eq, Bool.not_eq_true', decide_eq_false_iff_not, Nat.sub_self, Option.some.injEq, exists_eq_left', exists_eq_left, x_pick, f_pr, f_qd, f_prT, f_qdT, x_pr0, x_pr1, x_qd0, x_qd1, x_qd2, x_qd3, g_pr, g_qd, nl_pr, nl_qd, nl_I, nl_B, nl_N, l_pr, l_qd, l_prs, l_ti, l_li, c_eq_pr, c_ne_pr, c_eq_qd, c_ne_qd, i_pr, i_qd, i_prs, i_ti, i_li, true_and, and_true, sl0, sl1, sl2, sl3, sl4, sl5, sl6, sl7, sl8, sl9, sl10, sl11, sl12, sl13, sl14, mketa, wipe1, shE_cons, shE_nil, shS_sh, shS_ow, shS_none, eq_self, and_self, decide_true, decide_false, reduceCtorEq, false_and, and_false, true_implies, false_implies, implies_true, not_true_eq_false, Bool.not_true, Bool.not_false, Bool.true_and, Bool.false_and, Bool.and_true, Bool.and_false, Bool.or_true, Bool.true_or, Bool.or_false, Bool.false_or, Int.reduceLT, Int.reduceLE, Nat.reduceLT, h_law_shares, h_law_whole, h_law_bound, h_law_windows, h_law_wrong_shares, h_law_next, h_row_within, h_judge_crowded, p_law_shares, p_law_whole, p_law_bound, p_law_windows, p_law_wrong_shares, p_law_next, p_row_within, p_judge_crowded]
    exact hK _ ⟨_, _, _, _, _, _, _, _, _, _, _, _, _, _, _, _, _, _, _, rfl⟩
  · rintro ρ ⟨s0, s2, s3, s4, s5, s6, s7, s8, s9, s10, s11, s12, s13, s14, s15, s16, s17, s18, s19, rfl⟩
    simp only [w_nil, w_asg, w_asgL, w_unp, w_par, w_par3, w_aug, w_app, w_rem, w_ext, w_seti, w_frz, w_expr, w_ret, w_raise, w_brk, w_cont, w_pass, wp, getV, getB, initE, endF, bindG, List.map_cons, List.map_nil, List.length_cons, List.length_nil, List.cons_append, List.nil_append, List.append_nil, List.getElem?_cons_zero, List.getElem?_cons_succ, List.set_cons_zero, List.set_cons_succ, partD, k_L, k_T, l_lenT, l_lenL, l_int, l_intB, l_abs, l_max2, l_max3, l_max4, l_min2, l_maxL, l_minL, l_sum, l_all, l_any, l_tupL, l_tupT, l_lisL, l_lisT, r_1, r_2, r_l, i_L, i_T, i_A, if_true, if_false, ite_true, ite_false, not_false_eq_true, not_true_eq_false, Bool.false_eq_true, ite_not, b_add, b_addT, b_addL, b_sub, b_subB, b_mul, b_mulT, b_mulL, b_fdiv, b_mod, b_pow, a_add, a_sub, a_mul, a_fdiv, c_lt, c_le, c_gt, c_ge, c_eqI, c_neI, c_eqB, c_neB, seqP, pysD, Option.map_some, List.replicate_zero, List.replicate_succ, Nat.zero_add, Nat.add_zero, Nat.reduceAdd, Nat.reduceSub, Nat.reduceLeDiff, decide_eq_true_eq, Bool.not_eq_true', decide_eq_false_iff_not, Nat.sub_self, Option.some.injEq, exists_eq_left', exists_eq_left, x_pick, f_pr, f_qd, f_prT, f_qdT, x_pr0, x_pr1, x_qd0, x_qd1, x_qd2, x_qd3, g_pr, g_qd, nl_pr, nl_qd, nl_I, nl_B, nl_N, l_pr, l_qd, l_prs, l_ti, l_li, c_eq_pr, c_ne_pr, c_eq_qd, c_ne_qd, i_pr, i_qd, i_prs, i_ti, i_li, true_and, and_true, sl0, sl1, sl2, sl3, sl4, sl5, sl6, sl7, sl8, sl9, sl10, sl11, sl12, sl13, sl14, mketa, wipe1, shE_cons, shE_nil, shS_sh, shS_ow, shS_none, eq_self, and_self, decide_true, decide_false, reduceCtorEq, false_and, and_false, true_implies, false_implies, implies_true, not_true_eq_false, Bool.not_true, Bool.not_false, Bool.true_and, Bool.false_and, Bool.and_true, Bool.and_false, Bool.or_true, Bool.true_or, Bool.or_false, Bool.false_or, Int.reduceLT, Int.reduceLE, Nat.reduceLT, h_law_shares, h_law_whole, h_law_bound, h_law_windows, h_law_wrong_shares, h_law_next, h_row_within, h_judge_crowded, p_law_shares, p_law_whole, p_law_bound, p_law_windows, p_law_wrong_shares, p_law_next, p_row_within, p_judge_crowded]
end Y

/-! part A39 -/
set_option Elab.async false
set_option linter.all false
set_option maxRecDepth 100000
set_option maxHeartbeats 0
set_option exponentiation.threshold 5000
namespace K39
open Y PySem PySem.Spec PyProof.Rows
def top (i : Nat) : Stmt := PySem.Challenge.pw_evenspread_k39_crowded_stretches_judged.main.body.getD i (.Pass ⟨0, 0, 0, 0⟩)
def drs : List Nat := [0, 1, 0, 0, 27670116110564327429, 0, 4, 0, 1, 0, 0, 0, 0, 0, 0, 0, 0, 0, 0, 0, 0, 0, 0, 0, 0, 0, 0, 0, 0, 0, 0, 0, 0, 0, 0, 0, 0, 0, 0, 0, 0]
def lvs : List Nat := [1, 1, 1, 2, 3, 2, 3, 1, 2, 1000, 1000, 1, 2, 3, 3, 2, 4, 3, 1, 4, 1000, 1000, 1000, 1000, 1000, 1000, 1000, 1000, 1000, 1000, 1000, 1000, 1000, 1000, 1000, 1000, 3, 5, 6, 7, 6]
def gts : List (Str × Gk) := ([(("_law_stream" : Str), Gk.fn 0), (("_law_next" : Str), Gk.fn 1), (("_law_divisor" : Str), Gk.fn 2), (("_law_reduced" : Str), Gk.fn 3), (("_law_shares" : Str), Gk.fn 4), (("_law_whole" : Str), Gk.fn 5), (("_law_bound" : Str), Gk.fn 6), (("_law_window" : Str), Gk.fn 7), (("_law_windows" : Str), Gk.fn 36), (("_law_wrong_shares" : Str), Gk.fn 8), (("divisor" : Str), Gk.fn 11), (("fraction" : Str), Gk.fn 12), (("added" : Str), Gk.fn 13), (("whole_of" : Str), Gk.fn 14), (("is_fraction" : Str), Gk.fn 15), (("check_shares" : Str), Gk.fn 16), (("check_bound" : Str), Gk.fn 17), (("quotient" : Str), Gk.fn 18), (("window" : Str), Gk.fn 19), (("all_windows" : Str), Gk.fn 37), (("placed" : Str), Gk.fn 38), (("row_within" : Str), Gk.fn 39), (("judge_crowded" : Str), Gk.fn 40), (("MAX_SHARES" : Str), Gk.int 8), (("MAX_WHOLE" : Str), Gk.int 60), (("len" : Str), Gk.abs), (("int" : Str), Gk.abs), (("abs" : Str), Gk.abs), (("max" : Str), Gk.abs), (("min" : Str), Gk.abs)] : List (Str × Gk)) ++ ([(("all" : Str), Gk.abs), (("tuple" : Str), Gk.abs), (("range" : Str), Gk.abs), (("enumerate" : Str), Gk.abs), (("repr" : Str), Gk.abs), (("isinstance" : Str), Gk.abs), (("NotAllowed" : Str), Gk.ex 0), (("TooLarge" : Str), Gk.ex 1), (("Missing" : Str), Gk.ex 2)] : List (Str × Gk))
def tbs : List Str := ["placed"]
def T : Tb := ⟨gts, fun k => lvs.getD k 1000⟩
def dr (k : Nat) : Nat := drs.getD k 0
def fnScope (i : Nat) : Scope := L2.defScope (top i)
def fnBody (i : Nat) : List Stmt := L2.defBody (top i)
theorem c_law_stream : fnCk T dr 0 n_law_stream ["script"] (fnScope 27) (fnBody 27) b_law_stream 0 = true := by decide +kernel
theorem c_law_divisor : fnCk T dr 2 n_law_divisor ["first", "second"] (fnScope 31) (fnBody 31) b_law_divisor 0 = true := by decide +kernel
theorem c_law_reduced : fnCk T dr 3 n_law_reduced ["top", "below"] (fnScope 32) (fnBody 32) b_law_reduced 1 = true := by decide +kernel
theorem c_law_shares : fnCk T dr 4 n_law_shares ["state"] (fnScope 33) (fnBody 33) b_law_shares 2 = true := by decide +kernel
theorem c_law_whole : fnCk T dr 5 n_law_whole ["shares"] (fnScope 34) (fnBody 34) b_law_whole 1 = true := by decide +kernel
theorem c_law_bound : fnCk T dr 6 n_law_bound ["state", "shares"] (fnScope 41) (fnBody 41) b_law_bound 2 = true := by decide +kernel
theorem c_law_window : fnCk T dr 7 n_law_window ["shares", "bound", "one", "count"] (fnScope 42) (fnBody 42) b_law_window 0 = true := by decide +kernel
theorem c_law_windows : fnCk T dr 36 n_law_windows ["shares", "bound"] (fnScope 43) (fnBody 43) b_law_windows 2 = true := by decide +kernel
theorem c_law_wrong_shares : fnCk T dr 8 n_law_wrong_shares ["state", "shares"] (fnScope 45) (fnBody 45) b_law_wrong_shares 1 = true := by decide +kernel
theorem c_divisor : fnCk T dr 11 n_divisor ["first", "second"] (fnScope 9) (fnBody 9) b_divisor 0 = true := by decide +kernel
theorem c_fraction : fnCk T dr 12 n_fraction ["top", "below"] (fnScope 10) (fnBody 10) b_fraction 1 = true := by decide +kernel
theorem c_added : fnCk T dr 13 n_added ["first", "second"] (fnScope 12) (fnBody 12) b_added 2 = true := by decide +kernel
theorem c_whole_of : fnCk T dr 14 n_whole_of ["shares"] (fnScope 16) (fnBody 16) b_whole_of 2 = true := by decide +kernel
theorem c_is_fraction : fnCk T dr 15 n_is_fraction ["value"] (fnScope 11) (fnBody 11) b_is_fraction 1 = true := by decide +kernel
theorem c_check_shares : fnCk T dr 16 n_check_shares ["shares"] (fnScope 17) (fnBody 17) b_check_shares 3 = true := by decide +kernel
theorem c_check_bound : fnCk T dr 17 n_check_bound ["bound"] (fnScope 18) (fnBody 18) b_check_bound 2 = true := by decide +kernel
theorem c_quotient : fnCk T dr 18 n_quotient ["first", "second"] (fnScope 19) (fnBody 19) b_quotient 0 = true := by decide +kernel
theorem c_window : fnCk T dr 19 n_window ["shares", "bound", "one", "count"] (fnScope 20) (fnBody 20) b_window 3 = true := by decide +kernel
theorem c_all_windows : fnCk T dr 37 n_all_windows ["shares", "bound", "turns"] (fnScope 21) (fnBody 21) b_all_windows 4 = true := by decide +kernel
theorem c_placed : fnCk T dr 38 n_placed ["shares", "bound"] (fnScope 22) (fnBody 22) b_placed 5 true = true := by decide +kernel
theorem c_row_within : fnCk T dr 39 n_row_within ["shares", "bound"] (fnScope 23) (fnBody 23) b_row_within 6 = true := by decide +kernel
theorem c_judge_crowded : fnCk T dr 40 n_judge_crowded ["shares", "bound", "stretch"] (fnScope 24) (fnBody 24) b_judge_crowded 5 = true := by decide +kernel
theorem c_next : (nextSc (fnScope 28) && isNx (fnBody 28)) = true := by decide +kernel
theorem c_told : toldB (fnScope 30) (fnBody 30) = true := by decide +kernel
theorem c_same : sameB (fnScope 26) (fnBody 26) = true := by decide +kernel
theorem c_sc : C8.scC n_k39 ["script"] (fnScope 46) = true := by decide +kernel
theorem c_l0 : law0B T dr 0 1 n_k39 (fnScope 46) 9 b_k39 (fnBody 46) = true := by decide +kernel
theorem c_dw : decide (drwS dr b_k39 ≤ BIG) = true := by decide +kernel
def Φ : PhiT := fun k => match k with
  | 0 => C_law_stream
  | 1 => C_law_next
  | 2 => C_law_divisor
  | 3 => C_law_reduced
  | 4 => C_law_shares
  | 5 => C_law_whole
  | 6 => C_law_bound
  | 7 => C_law_window
  | 36 => C_law_windows
  | 8 => C_law_wrong_shares
  | 11 => C_divisor
  | 12 => C_fraction
  | 13 => C_added
  | 14 => C_whole_of
  | 15 => C_is_fraction
  | 16 => C_check_shares
  | 17 => C_check_bound
  | 18 => C_quotient
  | 19 => C_window
  | 37 => C_all_windows
  | 38 => C_placed
  | 39 => C_row_within
  | 40 => C_judge_crowded
  | _ => fun _ _ _ => False
def nums : List Nat := [0, 1, 2, 3, 4, 5, 6, 7, 36, 8, 11, 12, 13, 14, 15, 16, 17, 18, 19, 37, 38, 39, 40]
theorem lv_big : ∀ j, lvs.length ≤ j → lvs.getD j 1000 = 1000 := fun j h => by rw [List.getD_eq_getElem?_getD, List.getElem?_eq_none h] <;> rfl
theorem inv0 : ∀ j < lvs.length, lvs.getD j 1000 ≤ 900 → j ∈ nums := by decide +kernel
theorem inv (j : Nat) (h : lvs.getD j 1000 ≤ 900) : j ∈ nums := by
  rcases Nat.lt_or_ge j lvs.length with z | z
  · exact inv0 j z h
  · rw [lv_big j z] at h
    exact absurd h (by decide)
theorem low : ∀ j ∈ nums, ¬ lvs.getD j 1000 ≤ 0 := by decide +kernel
def dd (x : Str) (i : Nat) : He.DefD := dDef x (top i)
def fn : List He.DefD := ([dd "_law_stream" 27, dd "_law_next" 28, dd "_law_divisor" 31, dd "_law_reduced" 32, dd "_law_shares" 33, dd "_law_whole" 34, dd "_law_bound" 41, dd "_law_window" 42, dd "_law_windows" 43, dd "_law_wrong_shares" 45, dd "divisor" 9, dd "fraction" 10, dd "added" 12, dd "whole_of" 16, dd "is_fraction" 11, dd "check_shares" 17, dd "check_bound" 18, dd "quotient" 19, dd "window" 20, dd "all_windows" 21, dd "placed" 22, dd "row_within" 23, dd "judge_crowded" 24, dd "_law_told" 30, dd "_law_same" 26, dd "law" 46] : List He.DefD)
section
variable {P : Program} {w : World} {K : PySem.W.Frag} {mg : Str → Option Value} {base h : Heap}
abbrev LamA (P : Program) (w : World) (K : PySem.W.Frag) (mg : Str → Option Value) (base : Heap) : Prop := ∀ x ∈ tbs, ∀ params body sc fd, L2.FunD K x x params body sc [] [] (He.ga K x) fd → LamOk (SOf gts tbs P w K mg base) x fd
theorem lvT (j : Nat) : T.lv j = lvs.getD j 1000 := rfl
theorem k_law_stream (c : He.SaysD (faOf gts) fn K) (bs : Bas (SOf gts tbs P w K mg base) T) (lam : LamA P w K mg base) (fh : ∀ j, T.lv j ≤ 0 → FHeld (SOf gts tbs P w K mg base) Φ dr T.lv j) : FHeld (SOf gts tbs P w K mg base) Φ dr T.lv 0 := by
  obtain ⟨fd, F⟩ := def_of (x := "_law_stream") (st := top 27) c (by unfold fn dd; simp only [List.mem_append, List.mem_cons, true_or, or_true])
  have e : He.ga K "_law_stream" = (SOf gts tbs P w K mg base).fa 0 := by
    show _ = He.ga K (nmOf gts 0)
    rw [show nmOf gts 0 = ("_law_stream" : Str) by decide +kernel]
  rw [e] at F
  refine fheld (L := 0) (ps := ["script"]) bs (fnCk_ok c_law_stream) F (L2.FunD.bindsN F fun _ _ _ _ _ _ us hl => match us, hl with | [_], _ => rfl) fh fun ds Q E h => ?_
  exact s_law_stream (Φ := Φ)  ds Q E h
theorem k_law_next (c : He.SaysD (faOf gts) fn K) (bs : Bas (SOf gts tbs P w K mg base) T) (lam : LamA P w K mg base) (fh : ∀ j, T.lv j ≤ 0 → FHeld (SOf gts tbs P w K mg base) Φ dr T.lv j) (mL : mg "len" = none) (mI : mg "int" = none) : FHeld (SOf gts tbs P w K mg base) Φ dr T.lv 1 := by
  obtain ⟨fd, F⟩ := def_of (x := "_law_next") (st := top 28) c (by unfold fn dd; simp only [List.mem_append, List.mem_cons, true_or, or_true])
  have e : He.ga K "_law_next" = (SOf gts tbs P w K mg base).fa 1 := by
    show _ = He.ga K (nmOf gts 1)
    rw [show nmOf gts 1 = ("_law_next" : Str) by decide +kernel]
  rw [e] at F
  have cc := c_next
  rw [Bool.and_eq_true] at cc
  refine next_held F (L2.FunD.bindsN F fun _ _ _ _ _ _ us hl => match us, hl with | [_, _], _ => rfl) cc.1 cc.2 mL mI (by decide +kernel) (by decide +kernel) fun ds Q E h => h
theorem k_law_divisor (c : He.SaysD (faOf gts) fn K) (bs : Bas (SOf gts tbs P w K mg base) T) (lam : LamA P w K mg base) (fh : ∀ j, T.lv j ≤ 0 → FHeld (SOf gts tbs P w K mg base) Φ dr T.lv j) : FHeld (SOf gts tbs P w K mg base) Φ dr T.lv 2 := by
  obtain ⟨fd, F⟩ := def_of (x := "_law_divisor") (st := top 31) c (by unfold fn dd; simp only [List.mem_append, List.mem_cons, true_or, or_true])
  have e : He.ga K "_law_divisor" = (SOf gts tbs P w K mg base).fa 2 := by
    show _ = He.ga K (nmOf gts 2)
    rw [show nmOf gts 2 = ("_law_divisor" : Str) by decide +kernel]
  rw [e] at F
  refine fheld (L := 0) (ps := ["first", "second"]) bs (fnCk_ok c_law_divisor) F (L2.FunD.bindsN F fun _ _ _ _ _ _ us hl => match us, hl with | [_, _], _ => rfl) fh fun ds Q E h => ?_
  exact s_law_divisor (Φ := Φ)  ds Q E h
theorem k_law_reduced (c : He.SaysD (faOf gts) fn K) (bs : Bas (SOf gts tbs P w K mg base) T) (lam : LamA P w K mg base) (fh : ∀ j, T.lv j ≤ 1 → FHeld (SOf gts tbs P w K mg base) Φ dr T.lv j) : FHeld (SOf gts tbs P w K mg base) Φ dr T.lv 3 := by
  obtain ⟨fd, F⟩ := def_of (x := "_law_reduced") (st := top 32) c (by unfold fn dd; simp only [List.mem_append, List.mem_cons, true_or, or_true])
  have e : He.ga K "_law_reduced" = (SOf gts tbs P w K mg base).fa 3 := by
    show _ = He.ga K (nmOf gts 3)
    rw [show nmOf gts 3 = ("_law_reduced" : Str) by decide +kernel]
  rw [e] at F
  refine fheld (L := 1) (ps := ["top", "below"]) bs (fnCk_ok c_law_reduced) F (L2.FunD.bindsN F fun _ _ _ _ _ _ us hl => match us, hl with | [_, _], _ => rfl) fh fun ds Q E h => ?_
  exact s_law_reduced (Φ := Φ) rfl ds Q E h
theorem k_law_shares (c : He.SaysD (faOf gts) fn K) (bs : Bas (SOf gts tbs P w K mg base) T) (lam : LamA P w K mg base) (fh : ∀ j, T.lv j ≤ 2 → FHeld (SOf gts tbs P w K mg base) Φ dr T.lv j) : FHeld (SOf gts tbs P w K mg base) Φ dr T.lv 4 := by
  obtain ⟨fd, F⟩ := def_of (x := "_law_shares") (st := top 33) c (by unfold fn dd; simp only [List.mem_append, List.mem_cons, true_or, or_true])
  have e : He.ga K "_law_shares" = (SOf gts tbs P w K mg base).fa 4 := by
    show _ = He.ga K (nmOf gts 4)
    rw [show nmOf gts 4 = ("_law_shares" : Str) by decide +kernel]
  rw [e] at F
  refine fheld (L := 2) (ps := ["state"]) bs (fnCk_ok c_law_shares) F (L2.FunD.bindsN F fun _ _ _ _ _ _ us hl => match us, hl with | [_], _ => rfl) fh fun ds Q E h => ?_
  exact s_law_shares (Φ := Φ) rfl rfl ds Q E h
theorem k_law_whole (c : He.SaysD (faOf gts) fn K) (bs : Bas (SOf gts tbs P w K mg base) T) (lam : LamA P w K mg base) (fh : ∀ j, T.lv j ≤ 1 → FHeld (SOf gts tbs P w K mg base) Φ dr T.lv j) : FHeld (SOf gts tbs P w K mg base) Φ dr T.lv 5 := by
  obtain ⟨fd, F⟩ := def_of (x := "_law_whole") (st := top 34) c (by unfold fn dd; simp only [List.mem_append, List.mem_cons, true_or, or_true])
  have e : He.ga K "_law_whole" = (SOf gts tbs P w K mg base).fa 5 := by
    show _ = He.ga K (nmOf gts 5)
    rw [show nmOf gts 5 = ("_law_whole" : Str) by decide +kernel]
  rw [e] at F
  refine fheld (L := 1) (ps := ["shares"]) bs (fnCk_ok c_law_whole) F (L2.FunD.bindsN F fun _ _ _ _ _ _ us hl => match us, hl with | [_], _ => rfl) fh fun ds Q E h => ?_
  exact s_law_whole (Φ := Φ) rfl ds Q E h
theorem k_law_bound (c : He.SaysD (faOf gts) fn K) (bs : Bas (SOf gts tbs P w K mg base) T) (lam : LamA P w K mg base) (fh : ∀ j, T.lv j ≤ 2 → FHeld (SOf gts tbs P w K mg base) Φ dr T.lv j) : FHeld (SOf gts tbs P w K mg base) Φ dr T.lv 6 := by
  obtain ⟨fd, F⟩ := def_of (x := "_law_bound") (st := top 41) c (by unfold fn dd; simp only [List.mem_append, List.mem_cons, true_or, or_true])
  have e : He.ga K "_law_bound" = (SOf gts tbs P w K mg base).fa 6 := by
    show _ = He.ga K (nmOf gts 6)
    rw [show nmOf gts 6 = ("_law_bound" : Str) by decide +kernel]
  rw [e] at F
  refine fheld (L := 2) (ps := ["state", "shares"]) bs (fnCk_ok c_law_bound) F (L2.FunD.bindsN F fun _ _ _ _ _ _ us hl => match us, hl with | [_, _], _ => rfl) fh fun ds Q E h => ?_
  exact s_law_bound (Φ := Φ) rfl rfl rfl ds Q E h
theorem k_law_window (c : He.SaysD (faOf gts) fn K) (bs : Bas (SOf gts tbs P w K mg base) T) (lam : LamA P w K mg base) (fh : ∀ j, T.lv j ≤ 0 → FHeld (SOf gts tbs P w K mg base) Φ dr T.lv j) : FHeld (SOf gts tbs P w K mg base) Φ dr T.lv 7 := by
  obtain ⟨fd, F⟩ := def_of (x := "_law_window") (st := top 42) c (by unfold fn dd; simp only [List.mem_append, List.mem_cons, true_or, or_true])
  have e : He.ga K "_law_window" = (SOf gts tbs P w K mg base).fa 7 := by
    show _ = He.ga K (nmOf gts 7)
    rw [show nmOf gts 7 = ("_law_window" : Str) by decide +kernel]
  rw [e] at F
  refine fheld (L := 0) (ps := ["shares", "bound", "one", "count"]) bs (fnCk_ok c_law_window) F (L2.FunD.bindsN F fun _ _ _ _ _ _ us hl => match us, hl with | [_, _, _, _], _ => rfl) fh fun ds Q E h => ?_
  exact s_law_window (Φ := Φ)  ds Q E h
theorem k_law_windows (c : He.SaysD (faOf gts) fn K) (bs : Bas (SOf gts tbs P w K mg base) T) (lam : LamA P w K mg base) (fh : ∀ j, T.lv j ≤ 2 → FHeld (SOf gts tbs P w K mg base) Φ dr T.lv j) : FHeld (SOf gts tbs P w K mg base) Φ dr T.lv 36 := by
  obtain ⟨fd, F⟩ := def_of (x := "_law_windows") (st := top 43) c (by unfold fn dd; simp only [List.mem_append, List.mem_cons, true_or, or_true])
  have e : He.ga K "_law_windows" = (SOf gts tbs P w K mg base).fa 36 := by
    show _ = He.ga K (nmOf gts 36)
    rw [show nmOf gts 36 = ("_law_windows" : Str) by decide +kernel]
  rw [e] at F
  refine fheld (L := 2) (ps := ["shares", "bound"]) bs (fnCk_ok c_law_windows) F (L2.FunD.bindsN F fun _ _ _ _ _ _ us hl => match us, hl with | [_, _], _ => rfl) fh fun ds Q E h => ?_
  exact s_law_windows (Φ := Φ) rfl rfl ds Q E h
theorem k_law_wrong_shares (c : He.SaysD (faOf gts) fn K) (bs : Bas (SOf gts tbs P w K mg base) T) (lam : LamA P w K mg base) (fh : ∀ j, T.lv j ≤ 1 → FHeld (SOf gts tbs P w K mg base) Φ dr T.lv j) : FHeld (SOf gts tbs P w K mg base) Φ dr T.lv 8 := by
  obtain ⟨fd, F⟩ := def_of (x := "_law_wrong_shares") (st := top 45) c (by unfold fn dd; simp only [List.mem_append, List.mem_cons, true_or, or_true])
  have e : He.ga K "_law_wrong_shares" = (SOf gts tbs P w K mg base).fa 8 := by
    show _ = He.ga K (nmOf gts 8)
    rw [show nmOf gts 8 = ("_law_wrong_shares" : Str) by decide +kernel]
  rw [e] at F
  refine fheld (L := 1) (ps := ["state", "shares"]) bs (fnCk_ok c_law_wrong_shares) F (L2.FunD.bindsN F fun _ _ _ _ _ _ us hl => match us, hl with | [_, _], _ => rfl) fh fun ds Q E h => ?_
  exact s_law_wrong_shares (Φ := Φ) rfl ds Q E h
theorem k_divisor (c : He.SaysD (faOf gts) fn K) (bs : Bas (SOf gts tbs P w K mg base) T) (lam : LamA P w K mg base) (fh : ∀ j, T.lv j ≤ 0 → FHeld (SOf gts tbs P w K mg base) Φ dr T.lv j) : FHeld (SOf gts tbs P w K mg base) Φ dr T.lv 11 := by
  obtain ⟨fd, F⟩ := def_of (x := "divisor") (st := top 9) c (by unfold fn dd; simp only [List.mem_append, List.mem_cons, true_or, or_true])
  have e : He.ga K "divisor" = (SOf gts tbs P w K mg base).fa 11 := by
    show _ = He.ga K (nmOf gts 11)
    rw [show nmOf gts 11 = ("divisor" : Str) by decide +kernel]
  rw [e] at F
  refine fheld (L := 0) (ps := ["first", "second"]) bs (fnCk_ok c_divisor) F (L2.FunD.bindsN F fun _ _ _ _ _ _ us hl => match us, hl with | [_, _], _ => rfl) fh fun ds Q E h => ?_
  exact s_divisor (Φ := Φ)  ds Q E h
theorem k_fraction (c : He.SaysD (faOf gts) fn K) (bs : Bas (SOf gts tbs P w K mg base) T) (lam : LamA P w K mg base) (fh : ∀ j, T.lv j ≤ 1 → FHeld (SOf gts tbs P w K mg base) Φ dr T.lv j) : FHeld (SOf gts tbs P w K mg base) Φ dr T.lv 12 := by
  obtain ⟨fd, F⟩ := def_of (x := "fraction") (st := top 10) c (by unfold fn dd; simp only [List.mem_append, List.mem_cons, true_or, or_true])
  have e : He.ga K "fraction" = (SOf gts tbs P w K mg base).fa 12 := by
    show _ = He.ga K (nmOf gts 12)
    rw [show nmOf gts 12 = ("fraction" : Str) by decide +kernel]
  rw [e] at F
  refine fheld (L := 1) (ps := ["top", "below"]) bs (fnCk_ok c_fraction) F (L2.FunD.bindsN F fun _ _ _ _ _ _ us hl => match us, hl with | [_, _], _ => rfl) fh fun ds Q E h => ?_
  exact s_fraction (Φ := Φ) rfl ds Q E h
theorem k_added (c : He.SaysD (faOf gts) fn K) (bs : Bas (SOf gts tbs P w K mg base) T) (lam : LamA P w K mg base) (fh : ∀ j, T.lv j ≤ 2 → FHeld (SOf gts tbs P w K mg base) Φ dr T.lv j) : FHeld (SOf gts tbs P w K mg base) Φ dr T.lv 13 := by
  obtain ⟨fd, F⟩ := def_of (x := "added") (st := top 12) c (by unfold fn dd; simp only [List.mem_append, List.mem_cons, true_or, or_true])
  have e : He.ga K "added" = (SOf gts tbs P w K mg base).fa 13 := by
    show _ = He.ga K (nmOf gts 13)
    rw [show nmOf gts 13 = ("added" : Str) by decide +kernel]
  rw [e] at F
  refine fheld (L := 2) (ps := ["first", "second"]) bs (fnCk_ok c_added) F (L2.FunD.bindsN F fun _ _ _ _ _ _ us hl => match us, hl with | [_, _], _ => rfl) fh fun ds Q E h => ?_
  exact s_added (Φ := Φ) rfl ds Q E h
theorem k_whole_of (c : He.SaysD (faOf gts) fn K) (bs : Bas (SOf gts tbs P w K mg base) T) (lam : LamA P w K mg base) (fh : ∀ j, T.lv j ≤ 2 → FHeld (SOf gts tbs P w K mg base) Φ dr T.lv j) : FHeld (SOf gts tbs P w K mg base) Φ dr T.lv 14 := by
  obtain ⟨fd, F⟩ := def_of (x := "whole_of") (st := top 16) c (by unfold fn dd; simp only [List.mem_append, List.mem_cons, true_or, or_true])
  have e : He.ga K "whole_of" = (SOf gts tbs P w K mg base).fa 14 := by
    show _ = He.ga K (nmOf gts 14)
    rw [show nmOf gts 14 = ("whole_of" : Str) by decide +kernel]
  rw [e] at F
  refine fheld (L := 2) (ps := ["shares"]) bs (fnCk_ok c_whole_of) F (L2.FunD.bindsN F fun _ _ _ _ _ _ us hl => match us, hl with | [_], _ => rfl) fh fun ds Q E h => ?_
  exact s_whole_of (Φ := Φ) rfl ds Q E h
theorem k_is_fraction (c : He.SaysD (faOf gts) fn K) (bs : Bas (SOf gts tbs P w K mg base) T) (lam : LamA P w K mg base) (fh : ∀ j, T.lv j ≤ 1 → FHeld (SOf gts tbs P w K mg base) Φ dr T.lv j) : FHeld (SOf gts tbs P w K mg base) Φ dr T.lv 15 := by
  obtain ⟨fd, F⟩ := def_of (x := "is_fraction") (st := top 11) c (by unfold fn dd; simp only [List.mem_append, List.mem_cons, true_or, or_true])
  have e : He.ga K "is_fraction" = (SOf gts tbs P w K mg base).fa 15 := by
    show _ = He.ga K (nmOf gts 15)
    rw [show nmOf gts 15 = ("is_fraction" : Str) by decide +kernel]
  rw [e] at F
  refine fheld (L := 1) (ps := ["value"]) bs (fnCk_ok c_is_fraction) F (L2.FunD.bindsN F fun _ _ _ _ _ _ us hl => match us, hl with | [_], _ => rfl) fh fun ds Q E h => ?_
  exact s_is_fraction (Φ := Φ) rfl ds Q E h
theorem k_check_shares (c : He.SaysD (faOf gts) fn K) (bs : Bas (SOf gts tbs P w K mg base) T) (lam : LamA P w K mg base) (fh : ∀ j, T.lv j ≤ 3 → FHeld (SOf gts tbs P w K mg base) Φ dr T.lv j) : FHeld (SOf gts tbs P w K mg base) Φ dr T.lv 16 := by
  obtain ⟨fd, F⟩ := def_of (x := "check_shares") (st := top 17) c (by unfold fn dd; simp only [List.mem_append, List.mem_cons, true_or, or_true])
  have e : He.ga K "check_shares" = (SOf gts tbs P w K mg base).fa 16 := by
    show _ = He.ga K (nmOf gts 16)
    rw [show nmOf gts 16 = ("check_shares" : Str) by decide +kernel]
  rw [e] at F
  refine fheld (L := 3) (ps := ["shares"]) bs (fnCk_ok c_check_shares) F (L2.FunD.bindsN F fun _ _ _ _ _ _ us hl => match us, hl with | [_], _ => rfl) fh fun ds Q E h => ?_
  exact s_check_shares (Φ := Φ) rfl rfl rfl ds Q E h
theorem k_check_bound (c : He.SaysD (faOf gts) fn K) (bs : Bas (SOf gts tbs P w K mg base) T) (lam : LamA P w K mg base) (fh : ∀ j, T.lv j ≤ 2 → FHeld (SOf gts tbs P w K mg base) Φ dr T.lv j) : FHeld (SOf gts tbs P w K mg base) Φ dr T.lv 17 := by
  obtain ⟨fd, F⟩ := def_of (x := "check_bound") (st := top 18) c (by unfold fn dd; simp only [List.mem_append, List.mem_cons, true_or, or_true])
  have e : He.ga K "check_bound" = (SOf gts tbs P w K mg base).fa 17 := by
    show _ = He.ga K (nmOf gts 17)
    rw [show nmOf gts 17 = ("check_bound" : Str) by decide +kernel]
  rw [e] at F
  refine fheld (L := 2) (ps := ["bound"]) bs (fnCk_ok c_check_bound) F (L2.FunD.bindsN F fun _ _ _ _ _ _ us hl => match us, hl with | [_], _ => rfl) fh fun ds Q E h => ?_
  exact s_check_bound (Φ := Φ) rfl ds Q E h
theorem k_quotient (c : He.SaysD (faOf gts) fn K) (bs : Bas (SOf gts tbs P w K mg base) T) (lam : LamA P w K mg base) (fh : ∀ j, T.lv j ≤ 0 → FHeld (SOf gts tbs P w K mg base) Φ dr T.lv j) : FHeld (SOf gts tbs P w K mg base) Φ dr T.lv 18 := by
  obtain ⟨fd, F⟩ := def_of (x := "quotient") (st := top 19) c (by unfold fn dd; simp only [List.mem_append, List.mem_cons, true_or, or_true])
  have e : He.ga K "quotient" = (SOf gts tbs P w K mg base).fa 18 := by
    show _ = He.ga K (nmOf gts 18)
    rw [show nmOf gts 18 = ("quotient" : Str) by decide +kernel]
  rw [e] at F
  refine fheld (L := 0) (ps := ["first", "second"]) bs (fnCk_ok c_quotient) F (L2.FunD.bindsN F fun _ _ _ _ _ _ us hl => match us, hl with | [_, _], _ => rfl) fh fun ds Q E h => ?_
  exact s_quotient (Φ := Φ)  ds Q E h
theorem k_window (c : He.SaysD (faOf gts) fn K) (bs : Bas (SOf gts tbs P w K mg base) T) (lam : LamA P w K mg base) (fh : ∀ j, T.lv j ≤ 3 → FHeld (SOf gts tbs P w K mg base) Φ dr T.lv j) : FHeld (SOf gts tbs P w K mg base) Φ dr T.lv 19 := by
  obtain ⟨fd, F⟩ := def_of (x := "window") (st := top 20) c (by unfold fn dd; simp only [List.mem_append, List.mem_cons, true_or, or_true])
  have e : He.ga K "window" = (SOf gts tbs P w K mg base).fa 19 := by
    show _ = He.ga K (nmOf gts 19)
    rw [show nmOf gts 19 = ("window" : Str) by decide +kernel]
  rw [e] at F
  refine fheld (L := 3) (ps := ["shares", "bound", "one", "count"]) bs (fnCk_ok c_window) F (L2.FunD.bindsN F fun _ _ _ _ _ _ us hl => match us, hl with | [_, _, _, _], _ => rfl) fh fun ds Q E h => ?_
  exact s_window (Φ := Φ) rfl rfl ds Q E h
theorem k_all_windows (c : He.SaysD (faOf gts) fn K) (bs : Bas (SOf gts tbs P w K mg base) T) (lam : LamA P w K mg base) (fh : ∀ j, T.lv j ≤ 4 → FHeld (SOf gts tbs P w K mg base) Φ dr T.lv j) : FHeld (SOf gts tbs P w K mg base) Φ dr T.lv 37 := by
  obtain ⟨fd, F⟩ := def_of (x := "all_windows") (st := top 21) c (by unfold fn dd; simp only [List.mem_append, List.mem_cons, true_or, or_true])
  have e : He.ga K "all_windows" = (SOf gts tbs P w K mg base).fa 37 := by
    show _ = He.ga K (nmOf gts 37)
    rw [show nmOf gts 37 = ("all_windows" : Str) by decide +kernel]
  rw [e] at F
  refine fheld (L := 4) (ps := ["shares", "bound", "turns"]) bs (fnCk_ok c_all_windows) F (L2.FunD.bindsN F fun _ _ _ _ _ _ us hl => match us, hl with | [_, _, _], _ => rfl) fh fun ds Q E h => ?_
  exact s_all_windows (Φ := Φ) rfl ds Q E h
theorem k_placed (c : He.SaysD (faOf gts) fn K) (bs : Bas (SOf gts tbs P w K mg base) T) (lam : LamA P w K mg base) (fh : ∀ j, T.lv j ≤ 5 → FHeld (SOf gts tbs P w K mg base) Φ dr T.lv j) : FHeld (SOf gts tbs P w K mg base) Φ dr T.lv 38 := by
  obtain ⟨fd, F⟩ := def_of (x := "placed") (st := top 22) c (by unfold fn dd; simp only [List.mem_append, List.mem_cons, true_or, or_true])
  have e : He.ga K "placed" = (SOf gts tbs P w K mg base).fa 38 := by
    show _ = He.ga K (nmOf gts 38)
    rw [show nmOf gts 38 = ("placed" : Str) by decide +kernel]
  rw [e] at F
  have lf : LamOk (SOf gts tbs P w K mg base) "placed" fd := lam "placed" (by decide) _ _ _ fd (by rw [e]; exact F)
  refine fheldG (lm := true) (L := 5) (ps := ["shares", "bound"]) bs (fnCk_ok c_placed) (fun _ => lf) F (L2.FunD.bindsN F fun _ _ _ _ _ _ us hl => match us, hl with | [_, _], _ => rfl) fh fun ds Q E h => ?_
  exact s_placed (Φ := Φ) rfl rfl ds Q E h
theorem k_row_within (c : He.SaysD (faOf gts) fn K) (bs : Bas (SOf gts tbs P w K mg base) T) (lam : LamA P w K mg base) (fh : ∀ j, T.lv j ≤ 6 → FHeld (SOf gts tbs P w K mg base) Φ dr T.lv j) : FHeld (SOf gts tbs P w K mg base) Φ dr T.lv 39 := by
  obtain ⟨fd, F⟩ := def_of (x := "row_within") (st := top 23) c (by unfold fn dd; simp only [List.mem_append, List.mem_cons, true_or, or_true])
  have e : He.ga K "row_within" = (SOf gts tbs P w K mg base).fa 39 := by
    show _ = He.ga K (nmOf gts 39)
    rw [show nmOf gts 39 = ("row_within" : Str) by decide +kernel]
  rw [e] at F
  refine fheld (L := 6) (ps := ["shares", "bound"]) bs (fnCk_ok c_row_within) F (L2.FunD.bindsN F fun _ _ _ _ _ _ us hl => match us, hl with | [_, _], _ => rfl) fh fun ds Q E h => ?_
  exact s_row_within (Φ := Φ) rfl rfl rfl ds Q E h
theorem k_judge_crowded (c : He.SaysD (faOf gts) fn K) (bs : Bas (SOf gts tbs P w K mg base) T) (lam : LamA P w K mg base) (fh : ∀ j, T.lv j ≤ 5 → FHeld (SOf gts tbs P w K mg base) Φ dr T.lv j) : FHeld (SOf gts tbs P w K mg base) Φ dr T.lv 40 := by
  obtain ⟨fd, F⟩ := def_of (x := "judge_crowded") (st := top 24) c (by unfold fn dd; simp only [List.mem_append, List.mem_cons, true_or, or_true])
  have e : He.ga K "judge_crowded" = (SOf gts tbs P w K mg base).fa 40 := by
    show _ = He.ga K (nmOf gts 40)
    rw [show nmOf gts 40 = ("judge_crowded" : Str) by decide +kernel]
  rw [e] at F
  refine fheld (L := 5) (ps := ["shares", "bound", "stretch"]) bs (fnCk_ok c_judge_crowded) F (L2.FunD.bindsN F fun _ _ _ _ _ _ us hl => match us, hl with | [_, _, _], _ => rfl) fh fun ds Q E h => ?_
  exact s_judge_crowded (Φ := Φ) rfl rfl rfl rfl ds Q E h
theorem helds (c : He.SaysD (faOf gts) fn K) (bs : Bas (SOf gts tbs P w K mg base) T) (lam : LamA P w K mg base) (mL : mg "len" = none) (mI : mg "int" = none) : ∀ n, n ≤ 900 → ∀ j, T.lv j ≤ n → FHeld (SOf gts tbs P w K mg base) Φ dr T.lv j := by
  intro n
  induction n with
  | zero =>
    intro _ j hj
    have h1 : lvs.getD j 1000 ≤ 0 := hj
    have hm := inv j (by omega)
    exact absurd h1 (low j hm)
  | succ n ih =>
    intro hn j hj
    have hj' : lvs.getD j 1000 ≤ n + 1 := hj
    have hm := inv j (by omega)
    have ih := ih (by omega)
    unfold nums at hm
    simp only [List.mem_cons, List.not_mem_nil, or_false] at hm
    rcases hm with rfl | rfl | rfl | rfl | rfl | rfl | rfl | rfl | rfl | rfl | rfl | rfl | rfl | rfl | rfl | rfl | rfl | rfl | rfl | rfl | rfl | rfl | rfl
    · exact k_law_stream c bs lam (fun i hi => ih i (Nat.le_trans hi (by have h2 : 1 ≤ n + 1 := hj'; omega)))
    · exact k_law_next c bs lam (fun i hi => ih i (Nat.le_trans hi (by have h2 : 1 ≤ n + 1 := hj'; omega))) mL mI
    · exact k_law_divisor c bs lam (fun i hi => ih i (Nat.le_trans hi (by have h2 : 1 ≤ n + 1 := hj'; omega)))
    · exact k_law_reduced c bs lam (fun i hi => ih i (Nat.le_trans hi (by have h2 : 2 ≤ n + 1 := hj'; omega)))
    · exact k_law_shares c bs lam (fun i hi => ih i (Nat.le_trans hi (by have h2 : 3 ≤ n + 1 := hj'; omega)))
    · exact k_law_whole c bs lam (fun i hi => ih i (Nat.le_trans hi (by have h2 : 2 ≤ n + 1 := hj'; omega)))
    · exact k_law_bound c bs lam (fun i hi => ih i (Nat.le_trans hi (by have h2 : 3 ≤ n + 1 := hj'; omega)))
    · exact k_law_window c bs lam (fun i hi => ih i (Nat.le_trans hi (by have h2 : 1 ≤ n + 1 := hj'; omega)))
    · exact k_law_windows c bs lam (fun i hi => ih i (Nat.le_trans hi (by have h2 : 3 ≤ n + 1 := hj'; omega)))
    · exact k_law_wrong_shares c bs lam (fun i hi => ih i (Nat.le_trans hi (by have h2 : 2 ≤ n + 1 := hj'; omega)))
    · exact k_divisor c bs lam (fun i hi => ih i (Nat.le_trans hi (by have h2 : 1 ≤ n + 1 := hj'; omega)))
    · exact k_fraction c bs lam (fun i hi => ih i (Nat.le_trans hi (by have h2 : 2 ≤ n + 1 := hj'; omega)))
    · exact k_added c bs lam (fun i hi => ih i (Nat.le_trans hi (by have h2 : 3 ≤ n + 1 := hj'; omega)))
    · exact k_whole_of c bs lam (fun i hi => ih i (Nat.le_trans hi (by have h2 : 3 ≤ n + 1 := hj'; omega)))
    · exact k_is_fraction c bs lam (fun i hi => ih i (Nat.le_trans hi (by have h2 : 2 ≤ n + 1 := hj'; omega)))
    · exact k_check_shares c bs lam (fun i hi => ih i (Nat.le_trans hi (by have h2 : 4 ≤ n + 1 := hj'; omega)))
    · exact k_check_bound c bs lam (fun i hi => ih i (Nat.le_trans hi (by have h2 : 3 ≤ n + 1 := hj'; omega)))
    · exact k_quotient c bs lam (fun i hi => ih i (Nat.le_trans hi (by have h2 : 1 ≤ n + 1 := hj'; omega)))
    · exact k_window c bs lam (fun i hi => ih i (Nat.le_trans hi (by have h2 : 4 ≤ n + 1 := hj'; omega)))
    · exact k_all_windows c bs lam (fun i hi => ih i (Nat.le_trans hi (by have h2 : 5 ≤ n + 1 := hj'; omega)))
    · exact k_placed c bs lam (fun i hi => ih i (Nat.le_trans hi (by have h2 : 6 ≤ n + 1 := hj'; omega)))
    · exact k_row_within c bs lam (fun i hi => ih i (Nat.le_trans hi (by have h2 : 7 ≤ n + 1 := hj'; omega)))
    · exact k_judge_crowded c bs lam (fun i hi => ih i (Nat.le_trans hi (by have h2 : 6 ≤ n + 1 := hj'; omega)))
end
theorem pk : Pk gts tbs T.lv dr fn Φ 9 (top 30) (top 26) (top 46) n_k39 b_k39 0 1 where
  ok := by decide +kernel
  mT := by unfold fn dd; simp only [List.mem_append, List.mem_cons, true_or, or_true]
  mS := by unfold fn dd; simp only [List.mem_append, List.mem_cons, true_or, or_true]
  mL := by unfold fn dd; simp only [List.mem_append, List.mem_cons, true_or, or_true]
  told := c_told
  same := c_same
  bT := fun F => L2.FunD.bindsN F fun _ _ _ _ _ _ us hl => match us, hl with | [_], _ => rfl
  bS := fun F => L2.FunD.bindsN F fun _ _ _ _ _ _ us hl => match us, hl with | [_, _], _ => rfl
  bL := fun F s u => L2.FunD.bindsA (ps := ["script"]) F (fun _ _ _ _ _ _ us hl => match us, hl with | [_], _ => rfl) s [u] rfl
  sc := c_sc
  l0 := c_l0
  rm := ⟨by decide, by decide, by decide⟩
  lS := by decide +kernel
  dS := by decide +kernel
  dw := of_decide_eq_true c_dw
  i0 := by decide
  fh := fun P w K mg base h X G c bs lam j hj => helds c bs lam (He.free_ok X G (c.facts (fa_free (by simp)))) (He.free_ok X G (c.facts (fa_free (by simp)))) 9 (by decide) j hj
  str := fun Q h => ⟨rfl, h⟩
  law := s_k39 (Φ := Φ) rfl rfl rfl rfl rfl rfl rfl rfl
abbrev R : PySem.W.OpenRow := PySem.W.OpenLaw.row PySem.Challenge.rw_evenspread_k39_crowded_stretches_judged
abbrev hk : PySem.W.Hook := He.hookX 4 (faOf gts) fn [] (tbN tbs) (exG gts tbs)
def ob (s : PySem.W.SharedT) : He.AlX := He.obsX 4 (faOf gts) fn [] (tbN tbs) (exG gts tbs) (HandSHeadRun.getT s)
theorem ob_eq (s : PySem.W.SharedT) : ob s = hk.obs s.abs := He.obsX_eq (HandSHeadRun.getT_eq s)
def loose : List PySem.Str := (["__name__", "SpreadError", "NotAllowed", "TooLarge", "Missing", "BadPaper", "BadForm", "Broken", "__name__", "divisor", "fraction", "is_fraction", "added", "__name__", "MAX_SHARES", "MAX_WHOLE", "whole_of", "check_shares", "check_bound", "quotient", "window", "all_windows", "placed", "row_within", "judge_crowded", "__name__", "_law_same", "_law_stream", "_law_next", "_law_great"] : List PySem.Str) ++ (["_law_told", "_law_divisor", "_law_reduced", "_law_shares", "_law_whole", "_law_row", "_law_nearly", "_law_offs", "_law_more", "_law_size", "_law_deviation", "_law_bound", "_law_window", "_law_windows", "_law_crowds", "_law_wrong_shares"] : List PySem.Str)
theorem run (w : World) : HandSHeadRun.RunEq R (PySem.W.view R.prog [46]) hk ob 4000 loose w := by
  intro os
  kernel_rfl
end K39
open PySem PySem.W PySem.Calls PyProof.Rows
set_option maxRecDepth 100000 in
set_option maxHeartbeats 0 in
theorem PySem.Challenge.cw_evenspread_k39_crowded_stretches_judged_holds : PySem.Challenge.rw_evenspread_k39_crowded_stretches_judged.Holds := by
  w_on; o_law
  refine HandSHeadRun.head_any (r := OpenLaw.row PySem.Challenge.rw_evenspread_k39_crowded_stretches_judged) (q := view (OpenLaw.row PySem.Challenge.rw_evenspread_k39_crowded_stretches_judged).prog [46]) (H := K39.hk) (ob := K39.ob) (M := 4000) (loose := K39.loose) (d := HandSHeadRun.topDef (OpenLaw.row PySem.Challenge.rw_evenspread_k39_crowded_stretches_judged).prog 46) (kwd := []) K39.ob_eq
    (by kernel_rfl) (fun s => by kernel_rfl) K39.run (by kernel_rfl) (by kernel_rfl) (by kernel_rfl) (by rfl) (by first | assumption | decide +kernel) (by decide +kernel) ⟨rfl, rfl, rfl, rfl, rfl, by decide +kernel⟩ ?hw ?hc
  case hw => w_witness2
  case hc => exact Y.law_walk (l := PySem.Challenge.rw_evenspread_k39_crowded_stretches_judged) rfl (by kernel_rfl) (by kernel_rfl) K39.pk

