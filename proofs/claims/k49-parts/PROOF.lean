import PyProof.Rows.All
import Wide.All
import OpenK.AllK
import Wide.FinOn
import HandS.ForMost
import HandS.Deep
import HandS.Zip
import HandS.Rev
import HandS.WideBits
import HandS.Lambda
import HandS.ExcCtx
import HandS.TupAny
import HandS.TupMul
import HandS.Star
import HandS.AnyAll
import HandS.MakeKw
import HandS.CallLocal
import PyProof.MaxThree
import KE.GoesMore
import HandS.SetFor
import HandS.Conv
import HandS.HotCalls
import HandS.ExcIs
import HandS.Defaults
import PyProof.ReprRoads
import KE.KDflt
import HandS.Style
import HandS.WordsExc
import HandS.Codes
import HandS.EndTab
import HandS.Words
import HandS.Head0
import HandS.Head1
import HandS.Head2
import HandS.HeadEnd
import HandS.HeadWalk
import HandS.HeadHook4
import HandS.EndBits
import PyProof.ReprBulk
import PySem.Challenge.RW_evenspread_k49_whole_limited_parts
/-! part Y1 -/
set_option Elab.async false
set_option linter.all false
set_option maxRecDepth 100000
/-! Y1: data, environments, the small language C, S and its weakest preconditions. -/
namespace Y
open PySem PySem.Spec PyProof.Rows L2

/-- what an expression yields: data, a def, the state, a list of arguments -/
inductive D where
  | py (p : PyData) | fn (k : Nat) | st | scr | args (ds : List D)
abbrev D.I (i : Int) : D := .py (.int i)
abbrev D.B (b : Bool) : D := .py (.bool b)
abbrev D.N : D := .py .none
abbrev D.T (ps : List PyData) : D := .py (.tuple ps)
abbrev D.L (ps : List PyData) : D := .py (.list ps)
abbrev D.S (x : Str) : D := .py (.str x)
/-- a slot: data that is never changed, or a list that is the slot's own -/
inductive Sl where
  | sh (d : D) | ow (ps : List PyData)
abbrev Ev := List (Option Sl)

inductive BO where
  | add | sub | mul | fdiv | mod | pow
inductive BI where
  | len | int | abs | max | min | sum | all | any | tuple | list
inductive ME where
  | index | count
/-- expressions -/
inductive C where
  | var (i : Nat) | bvar (i : Nat) | scr (i : Nat) | glob (p : PyData) | fnv (k : Nat) | lit (p : PyData)
  | nil | cons (a r : C) | star (a r : C)
  | tup (as : C) | lst (as : C)
  | bin (op : BO) (a b : C) | neg (a : C)
  | cmp (op : CmpOp) (a b : C) | chain (o1 o2 : CmpOp) (a b c : C)
  | and (a b : C) | or (a b : C) | not (a : C)
  | ite (t a b : C)
  | ix (a i : C) | slc (a lo hi : C) | rvs (a : C)
  | call (f : Nat) (as : C) | callv (i : Nat) (fs : List Nat) (as : C)
  | told (a : C) | toldd (i : Nat) (a : C) | same (a b : C) | repr (a : C)
  | bi (b : BI) (as : C) | isi (a : C) (ty : String) | meth (m : ME) (o as : C)
  | rng (as : C) | lrg (a b : C) | enum (a : C) | zip (a b : C) | rev (a : C) | fns (ks : List Nat)
  | comp (own : List (Str × Nat)) (el : C) (tg : C) (src ifs : C)
  | comp2 (own : List (Str × Nat)) (vs1 : List Nat) (el : C) (tg : C) (src ifs : C) (tg1 src1 ifs1 : C)
/-- statements (a list of them by seq; nil) -/
inductive S where
  | nil | seq (s r : S)
  | frz (i : Nat)
  | asg (i : Nat) (c : C) | asgL (i : Nat) (c : C)
  | unp (tg c : C) | par (i j : Nat) (a b : C) | par3 (i j l : Nat) (a b c : C)
  | aug (i : Nat) (op : BO) (c : C)
  | app (i : Nat) (c : C) | ext (i : Nat) (c : C) | seti (i : Nat) (ci c : C)
  | expr (c : C)
  | ite (t : C) (a b : S)
  | for_ (tg src : C) (body : S)
  | while_ (t : C) (body : S)
  | ret (c : C) | raise (k : Nat) (as : C) | brk | cont | pass

/-! ### operations on data -/
def binD : BO → D → D → (D → Prop) → Prop
  | .add, .py (.int i), .py (.int j), Q => Q (.I (i + j))
  | .add, .py (.tuple xs), .py (.tuple ys), Q => xs.length + ys.length ≤ sizeLine ∧ Q (.T (xs ++ ys))
  | .add, .py (.list xs), .py (.list ys), Q => xs.length + ys.length ≤ sizeLine ∧ Q (.L (xs ++ ys))
  | .sub, .py (.int i), .py (.int j), Q => Q (.I (i - j))
  | .sub, .py (.bool i), .py (.bool j), Q => Q (.I (PyProof.Rows.b2i i - PyProof.Rows.b2i j))
  | .mul, .py (.int i), .py (.int j), Q => CMulX i j ∧ Q (.I (i * j))
  | .mul, .py (.list xs), .py (.int k), Q => (-(2 ^ 63) ≤ k ∧ k < 2 ^ 63 ∧ xs.length * k.toNat ≤ sizeLine) ∧ Q (.L (List.replicate k.toNat xs).flatten)
  | .mul, .py (.tuple xs), .py (.int k), Q => (2 ≤ k ∧ k ≤ 1000 ∧ 0 < xs.length ∧ xs.length ≤ 1000) ∧ Q (.T (List.replicate k.toNat xs).flatten)
  | .fdiv, .py (.int i), .py (.int j), Q => (j ≠ 0 ∧ j.natAbs.log2 < 9000) ∧ Q (.I (i.fdiv j))
  | .mod, .py (.int i), .py (.int j), Q => j ≠ 0 ∧ Q (.I (i.fmod j))
  | .pow, .py (.int i), .py (.int j), Q => (0 ≤ j ∧ j ≤ 1000000 ∧ i.natAbs < 2 ^ 64) ∧ Q (.I (i ^ j.toNat))
  | _, _, _, _ => False
def flatP : PyData → Bool
  | .none => true | .bool _ => true | .int _ => true | .str _ => true | _ => false
def isNone : PyData → Bool
  | .none => true | _ => false
def cmpD : CmpOp → D → D → (D → Prop) → Prop
  | .Lt, .py (.int i), .py (.int j), Q => Q (.B (decide (i < j)))
  | .LtE, .py (.int i), .py (.int j), Q => Q (.B (decide (i ≤ j)))
  | .Gt, .py (.int i), .py (.int j), Q => Q (.B (decide (j < i)))
  | .GtE, .py (.int i), .py (.int j), Q => Q (.B (decide (j ≤ i)))
  | .Eq, .py p, .py q, Q => (SeqAt.shaped p = true ∧ SeqAt.shaped q = true) ∧ Q (.B (PyData.eqv p q))
  | .NotEq, .py p, .py q, Q => (SeqAt.shaped p = true ∧ SeqAt.shaped q = true) ∧ Q (.B (!PyData.eqv p q))
  | .In, .py p, .py (.list ds), Q => (SeqAt.shaped p = true ∧ SeqAt.shaped (.list ds) = true) ∧ Q (.B (ds.any fun z => PyData.eqv z p))
  | .NotIn, .py p, .py (.list ds), Q => (SeqAt.shaped p = true ∧ SeqAt.shaped (.list ds) = true) ∧ Q (.B (!ds.any fun z => PyData.eqv z p))
  | .In, .py p, .py (.tuple ds), Q => ((flatP p = true ∧ ds.all flatP = true) ∨ (SeqAt.shaped p = true ∧ SeqAt.shaped (.tuple ds) = true)) ∧ Q (.B (ds.any fun z => PyData.eqv z p))
  | .NotIn, .py p, .py (.tuple ds), Q => ((flatP p = true ∧ ds.all flatP = true) ∨ (SeqAt.shaped p = true ∧ SeqAt.shaped (.tuple ds) = true)) ∧ Q (.B (!ds.any fun z => PyData.eqv z p))
  | .Is, .py p, .py .none, Q => Q (.B (isNone p))
  | .IsNot, .py p, .py .none, Q => Q (.B (!isNone p))
  | .Is, .py (.bool b), .py (.bool c), Q => Q (.B (b == c))
  | .IsNot, .py (.bool b), .py (.bool c), Q => Q (.B (b != c))
  | _, _, _, _ => False
/-- x op= y, ints -/
def augD : BO → D → D → (D → Prop) → Prop
  | .add, .py (.int i), .py (.int j), Q => Q (.I (i + j))
  | .sub, .py (.int i), .py (.int j), Q => Q (.I (i - j))
  | .mul, .py (.int i), .py (.int j), Q => CMulX i j ∧ Q (.I (i * j))
  | .fdiv, .py (.int i), .py (.int j), Q => (j ≠ 0 ∧ j.natAbs.log2 < 9000) ∧ Q (.I (i.fdiv j))
  | _, _, _, _ => False
def intsP : List PyData → Option (List Int)
  | [] => some []
  | .int i :: r => (intsP r).map (i :: ·)
  | _ => none
/-- o.count(k), o a tuple of ints; o.index(k), o a list of ints, k in it -/
def methD : ME → D → D → (D → Prop) → Prop
  | .count, .py (.tuple xs), .args [.py (.int k)], Q => ∃ ns, intsP xs = some ns ∧ Q (.I (ns.count k : Nat))
  | .index, .py (.list xs), .args [.py (.int k)], Q => ∃ ns, intsP xs = some ns ∧ k ∈ ns ∧ Q (.I (ns.idxOf k : Nat))
  | _, _, _, _ => False
def tyM : ME → D → Bool
  | .count, .py (.tuple _) => true
  | .index, .py (.list _) => true
  | _, _ => false
/-- list(range(x, y)) -/
def lrgD : D → D → (D → Prop) → Prop
  | .py (.int i), .py (.int j), Q => (-(2 ^ 62) ≤ i ∧ i < 2 ^ 62 ∧ -(2 ^ 62) ≤ j ∧ j < 2 ^ 62 ∧ (j - i).toNat ≤ 2 ^ 24) ∧ Q (.L ((List.range (j - i).toNat).map fun (k : Nat) => PyData.int (i + (k : Int))))
  | _, _, _ => False
/-- an item by its place -/
def ixD : D → D → (D → Prop) → Prop
  | .py (.list xs), .py (.int i), Q => ∃ p, atI xs i = some p ∧ Q (.py p)
  | .py (.tuple xs), .py (.int i), Q => ∃ p, atI xs i = some p ∧ Q (.py p)
  | _, _, _ => False
def cutP (xs : List PyData) (lo hi : Option Int) : List PyData := (xs.drop (HT.sIx xs.length 0 lo)).take (HT.sIx xs.length xs.length hi - HT.sIx xs.length 0 lo)
/-- a slice's part -/
def partD : D → (Option Int → Prop) → Prop
  | .py (.int i), Q => Q (some i)
  | .args [], Q => Q none
  | _, _ => False
def slcD : D → Option Int → Option Int → (D → Prop) → Prop
  | .py (.list xs), lo, hi, Q => Q (.L (cutP xs lo hi))
  | .py (.tuple xs), lo, hi, Q => Q (.T (cutP xs lo hi))
  | _, _, _, _ => False
def boolsP : List PyData → Option (List Bool)
  | [] => some []
  | .bool i :: r => (boolsP r).map (i :: ·)
  | _ => none
def pysD : List D → Option (List PyData)
  | [] => some []
  | .py p :: r => (pysD r).map (p :: ·)
  | _ => none
/-- what repr asks -/
def ReprOk (p : PyData) : Prop := p.showable = true ∧ p.hasDict = false ∧ p.depth ≤ 50 ∧ p.shown.length ≤ sizeLine
def seqB : PyData → Bool
  | .list _ => true
  | .tuple _ => true
  | _ => false
def biD : BI → List D → (D → Prop) → Prop
  | .len, [.py (.list xs)], Q => Q (.I xs.length)
  | .len, [.py (.tuple xs)], Q => Q (.I xs.length)
  | .int, [.py (.int i)], Q => Q (.I i)
  | .int, [.py (.bool b)], Q => Q (.I (if b then 1 else 0))
  | .abs, [.py (.int i)], Q => Q (.I (if i < 0 then -i else i))
  | .max, [.py (.list xs)], Q => ∃ ns, intsP xs = some ns ∧ 0 < ns.length ∧ ∀ m, m ∈ ns → (∀ y ∈ ns, y ≤ m) → Q (.I m)
  | .max, [.py (.int i), .py (.int j)], Q => Q (.I (max i j))
  | .max, [.py (.int i), .py (.int j), .py (.int k)], Q => Q (.I (max (max i j) k))
  | .max, [.py (.int i), .py (.int j), .py (.int k), .py (.int l)], Q => Q (.I (max (max (max i j) k) l))
  | .min, [.py (.list xs)], Q => ∃ ns, intsP xs = some ns ∧ 0 < ns.length ∧ ∀ m, m ∈ ns → (∀ y ∈ ns, m ≤ y) → Q (.I m)
  | .min, [.py (.int i), .py (.int j)], Q => Q (.I (min i j))
  | .sum, [.py (.list xs)], Q => ∃ ns, intsP xs = some ns ∧ Q (.I ns.sum)
  | .all, [.py (.list xs)], Q => ∃ bs, boolsP xs = some bs ∧ Q (.B (bs.all id))
  | .any, [.py (.list xs)], Q => ∃ bs, boolsP xs = some bs ∧ Q (.B (bs.any id))
  | .tuple, [.py (.list xs)], Q => Q (.T xs)
  | .tuple, [.py (.tuple xs)], Q => Q (.T xs)
  | .list, [.py (.list xs)], Q => Q (.L xs)
  | .list, [.py (.tuple xs)], Q => Q (.L xs)
  | _, _, _ => False
def isiD : PyData → String → Option Bool
  | .tuple _, "tuple" => some true
  | .list _, "tuple" => some false
  | .none, "tuple" => some false
  | .int _, "tuple" => some false
  | .int _, "int" => some true
  | _, _ => none
/-- the items of what a loop walks -/
def itemsD : D → Option (List D)
  | .py (.list xs) => some (xs.map D.py)
  | .py (.tuple xs) => some (xs.map D.py)
  | .args ds => some ds
  | _ => none
def rangeD (lo hi : Int) : List D := (List.range (hi - lo).toNat).map fun (i : Nat) => D.I (lo + i)
def range3D (lo hi st : Int) : List D := (List.range ((hi - lo + st - 1) / st).toNat).map fun (i : Nat) => D.I (lo + i * st)
def rngD : List D → (D → Prop) → Prop
  | [.py (.int hi)], Q => (-(2 ^ 62) ≤ hi ∧ hi < 2 ^ 62) ∧ Q (.args (rangeD 0 hi))
  | [.py (.int lo), .py (.int hi)], Q => (-(2 ^ 62) ≤ lo ∧ lo < 2 ^ 62 ∧ -(2 ^ 62) ≤ hi ∧ hi < 2 ^ 62) ∧ Q (.args (rangeD lo hi))
  | [.py (.int lo), .py (.int hi), .py (.int st)], Q => (-(2 ^ 62) ≤ lo ∧ lo < 2 ^ 62 ∧ -(2 ^ 62) ≤ hi ∧ hi < 2 ^ 62 ∧ 0 < st ∧ st < 2 ^ 30) ∧ Q (.args (range3D lo hi st))
  | _, _ => False
def enumP (xs : List PyData) : List D := xs.zipIdx.map fun (p, i) => D.T [.int i, p]
def zipP (xs ys : List PyData) : List D := (xs.zip ys).map fun (p, q) => D.T [p, q]
def seqP : D → Option (List PyData)
  | .py (.list xs) => some xs
  | .py (.tuple xs) => some xs
  | _ => none

/-! ### environments -/
def getV (ρ : Ev) (i : Nat) (Q : D → Prop) : Prop :=
  match ρ[i]? with
  | some (some (.sh d)) => Q d
  | _ => False
def getB (ρ : Ev) (i : Nat) (Q : D → Prop) : Prop :=
  match ρ[i]? with
  | some (some (.sh d)) => Q d
  | some (some (.ow ps)) => Q (.L ps)
  | _ => False
/-- a target takes a value -/
def bindG : C → D → Ev → (Ev → Prop) → Prop
  | .var i, d, ρ, K => K (ρ.set i (some (.sh d)))
  | .tup as, .py (.tuple ps), ρ, K => bindG as (.args (ps.map D.py)) ρ K
  | .nil, .args [], ρ, K => K ρ
  | .cons a r, .args (d :: ds), ρ, K => bindG a d ρ fun ρ1 => bindG r (.args ds) ρ1 K
  | _, _, _, _ => False
/-- what a lambda sees: no slot's own list -/
def shE (ρ : Ev) : Ev := ρ.map fun s => match s with
  | some (.sh d) => some (.sh d)
  | _ => none
def wipeE (ρ : Ev) : List Nat → Ev
  | [] => ρ
  | v :: vs => (wipeE ρ vs).set v none

/-- comprehension over items -/
def compW (step : D → (List PyData → Prop) → Prop) : List D → List PyData → (List PyData → Prop) → Prop
  | [], acc, K => K acc
  | d :: ds, acc, K => step d fun new => acc.length + new.length ≤ sizeLine ∧ compW step ds (acc ++ new) K
/-- the same, each turn told what is there -/
def compA (step : D → List PyData → (List PyData → Prop) → Prop) : List D → List PyData → (List PyData → Prop) → Prop
  | [], acc, K => K acc
  | d :: ds, acc, K => step d acc fun acc' => compA step ds acc' K

section
variable (Φ : Nat → List D → (D → Prop) → (Nat → Prop) → Prop) (exN : Nat → Str)
def noE : Nat → Prop := fun _ => False
/-- THE READING of an expression: Q holds of its value, E of the class of what it raises -/
def wp : C → Ev → (D → Prop) → (Nat → Prop) → Prop
  | .var i, ρ, Q, _ => getV ρ i Q
  | .bvar i, ρ, Q, _ => getB ρ i Q
  | .scr i, ρ, Q, _ => getV ρ i fun d => match d with
      | .scr => ∀ ns : List Int, ns.length ≤ 63 → (∀ z ∈ ns, Builtin.Int.intBits z ≤ 1048576) → Q (.L (ns.map PyData.int))
      | _ => False
  | .glob p, _, Q, _ => Q (.py p)
  | .fnv k, _, Q, _ => Q (.fn k)
  | .lit p, _, Q, _ => Q (.py p)
  | .nil, _, Q, _ => Q (.args [])
  | .cons a r, ρ, Q, E => wp a ρ (fun d => wp r ρ (fun x => match x with | .args ds => Q (.args (d :: ds)) | _ => False) E) E
  | .star a r, ρ, Q, E => wp a ρ (fun d => match itemsD d with | some es => wp r ρ (fun x => match x with | .args ds => Q (.args (es ++ ds)) | _ => False) E | none => False) E
  | .tup as, ρ, Q, E => wp as ρ (fun x => match x with | .args ds => ∃ ps, pysD ds = some ps ∧ ps.length ≤ sizeLine ∧ Q (.T ps) | _ => False) E
  | .lst as, ρ, Q, E => wp as ρ (fun x => match x with | .args ds => ∃ ps, pysD ds = some ps ∧ ps.length ≤ sizeLine ∧ Q (.L ps) | _ => False) E
  | .bin op a b, ρ, Q, E => wp a ρ (fun x => wp b ρ (fun y => binD op x y Q) E) E
  | .neg a, ρ, Q, E => wp a ρ (fun x => match x with | .py (.int i) => Q (.I (-i)) | _ => False) E
  | .cmp op a b, ρ, Q, E => wp a ρ (fun x => wp b ρ (fun y => cmpD op x y Q) E) E
  | .chain o1 o2 a b c, ρ, Q, E => wp a ρ (fun x => wp b ρ (fun y => cmpD o1 x y fun k => match k with
      | .py (.bool k) => if k = true then wp c ρ (fun z => cmpD o2 y z Q) E else Q (.B false)
      | _ => False) E) E
  | .and a b, ρ, Q, E => wp a ρ (fun x => match x with | .py (.bool k) => if k = true then wp b ρ Q E else Q (.B false) | _ => False) E
  | .or a b, ρ, Q, E => wp a ρ (fun x => match x with | .py (.bool k) => if k = true then Q (.B true) else wp b ρ Q E | _ => False) E
  | .not a, ρ, Q, E => wp a ρ (fun x => match x with | .py (.bool k) => Q (.B (!k)) | _ => False) E
  | .ite t a b, ρ, Q, E => wp t ρ (fun x => match x with | .py (.bool k) => if k = true then wp a ρ Q E else wp b ρ Q E | _ => False) E
  | .ix a i, ρ, Q, E => wp a ρ (fun x => wp i ρ (fun y => ixD x y Q) E) E
  | .slc a lo hi, ρ, Q, E => wp a ρ (fun x => wp lo ρ (fun l => partD l fun l => wp hi ρ (fun h => partD h fun h => slcD x l h Q) E) E) E
  | .rvs a, ρ, Q, E => wp a ρ (fun x => match x with | .py (.tuple ps) => Q (.T ps.reverse) | _ => False) E
  | .call f as, ρ, Q, E => wp as ρ (fun x => match x with | .args ds => Φ f ds Q E | _ => False) E
  | .callv i fs as, ρ, Q, E => getV ρ i fun g => match g with
      | .fn k => k ∈ fs ∧ wp as ρ (fun x => match x with | .args ds => Φ k ds Q E | _ => False) E
      | _ => False
  | .told a, ρ, Q, E => wp a (shE ρ) (fun x => match x with | .py p => Q (.T [.str "told", p]) | _ => False) (fun k => k < 3 ∧ Q (.T [.str (exN k)]))
  | .toldd i a, ρ, Q, E => wp a (wipeE (shE ρ) [i]) (fun x => match x with | .py p => Q (.T [.str "told", p]) | _ => False) (fun k => k < 3 ∧ Q (.T [.str (exN k)]))
  | .same a b, ρ, Q, E => wp a ρ (fun x => wp b ρ (fun y => match x, y with
      | .py p, .py q => (ReprOk (.list [p]) ∧ ReprOk (.list [q])) ∧ Q (.B (decide ((PyData.list [p]).shown = (PyData.list [q]).shown)))
      | _, _ => False) E) E
  | .repr a, ρ, Q, E => wp a ρ (fun x => match x with | .py p => (seqB p = true ∧ ReprOk p) ∧ Q (.S p.shown) | _ => False) E
  | .bi b as, ρ, Q, E => wp as ρ (fun x => match x with | .args ds => biD b ds Q | _ => False) E
  | .isi a ty, ρ, Q, E => wp a ρ (fun x => match x with | .py p => ∃ b, isiD p ty = some b ∧ Q (.B b) | _ => False) E
  | .meth m o as, ρ, Q, E => wp o ρ (fun x => tyM m x = true ∧ wp as ρ (fun y => methD m x y Q) E) E
  | .rng as, ρ, Q, E => wp as ρ (fun x => match x with | .args ds => rngD ds Q | _ => False) E
  | .lrg a b, ρ, Q, E => wp a ρ (fun x => wp b ρ (fun y => lrgD x y Q) E) E
  | .enum a, ρ, Q, E => wp a ρ (fun x => match seqP x with | some xs => Q (.args (enumP xs)) | none => False) E
  | .zip a b, ρ, Q, E => wp a ρ (fun x => wp b ρ (fun y => match x, y with | .py (.list xs), .py (.list ys) => Q (.args (zipP xs ys)) | .py (.tuple xs), .py (.tuple ys) => Q (.args (zipP xs ys)) | _, _ => False) E) E
  | .rev a, ρ, Q, E => wp a ρ (fun x => match seqP x with | some xs => Q (.args (xs.reverse.map D.py)) | none => False) E
  | .fns ks, _, Q, _ => Q (.args (ks.map D.fn))
  | .comp own el tg src ifs, ρ, Q, E => wp src ρ (fun x => match itemsD x with
      | some ds => compW (fun d K => bindG tg d (wipeE ρ (own.map (·.2))) fun ρ1 => wp ifs ρ1 (fun t => match t with
          | .py (.bool k) => if k = true then wp el ρ1 (fun y => match y with | .py p => K [p] | _ => False) noE else K []
          | _ => False) noE) ds [] fun out => Q (.L out)
      | none => False) E
  | .comp2 own vs1 el tg src ifs tg1 src1 ifs1, ρ, Q, E => wp src ρ (fun x => match itemsD x with
      | some ds => compA (fun d acc K => bindG tg d (wipeE ρ (own.map (·.2))) fun ρ1 => wp ifs ρ1 (fun t => match t with
          | .py (.bool k) => if k = true then wp src1 ρ1 (fun x1 => match itemsD x1 with
              | some ds1 => compW (fun d1 K1 => bindG tg1 d1 (wipeE ρ1 vs1) fun ρ2 => wp ifs1 ρ2 (fun t1 => match t1 with
                  | .py (.bool k1) => if k1 = true then wp el ρ2 (fun y => match y with | .py p => K1 [p] | _ => False) noE else K1 []
                  | _ => False) noE) ds1 acc K
              | none => False) noE else K acc
          | _ => False) noE) ds [] fun out => Q (.L out)
      | none => False) E

/-- what is wanted behind a statement -/
structure En where
  nx : Ev → Prop
  rt : D → Prop
  bk : Ev → Prop
  ct : Ev → Prop
  ex : Nat → Prop
def forW (step : D → Ev → (Ev → Prop) → Prop) (nx : Ev → Prop) : List D → Ev → Prop
  | [], ρ => nx ρ
  | d :: ds, ρ => step d ρ (forW step nx ds)
def whileW (turn : Ev → (Ev → Prop) → Prop) : Nat → Ev → Prop
  | 0, _ => False
  | n + 1, ρ => turn ρ (whileW turn n)
def wpS : S → Ev → En → Prop
  | .nil, ρ, D => D.nx ρ
  | .seq s r, ρ, D => wpS s ρ { D with nx := fun ρ1 => wpS r ρ1 D }
  | .frz i, ρ, D => match ρ[i]? with
      | some (some (.ow ps)) => D.nx (ρ.set i (some (.sh (.L ps))))
      | _ => D.nx ρ
  | .asg i c, ρ, D => wp Φ exN c ρ (fun d => D.nx (ρ.set i (some (.sh d)))) D.ex
  | .asgL i c, ρ, D => wp Φ exN c ρ (fun d => match d with | .py (.list ps) => D.nx (ρ.set i (some (.ow ps))) | _ => False) D.ex
  | .unp tg c, ρ, D => wp Φ exN c ρ (fun d => bindG tg d ρ D.nx) D.ex
  | .par3 i j l a b c, ρ, D => wp Φ exN a ρ (fun x => wp Φ exN b ρ (fun y => wp Φ exN c ρ (fun z => D.nx (((ρ.set i (some (.sh x))).set j (some (.sh y))).set l (some (.sh z)))) D.ex) D.ex) D.ex
  | .par i j a b, ρ, D => wp Φ exN a ρ (fun x => wp Φ exN b ρ (fun y => D.nx ((ρ.set i (some (.sh x))).set j (some (.sh y)))) D.ex) D.ex
  | .aug i op c, ρ, D => getV ρ i fun x => wp Φ exN c ρ (fun y => augD op x y fun z => D.nx (ρ.set i (some (.sh z)))) D.ex
  | .app i c, ρ, D => match ρ[i]? with
      | some (some (.ow ps)) => wp Φ exN c ρ (fun d => match d with
        | .py p => ps.length < sizeLine ∧ D.nx (ρ.set i (some (.ow (ps ++ [p]))))
        | _ => False) D.ex
      | _ => False
  | .ext i c, ρ, D => match ρ[i]? with
      | some (some (.ow ps)) => wp Φ exN c ρ (fun d => match d with
        | .py (.list qs) => ps.length + qs.length ≤ sizeLine ∧ D.nx (ρ.set i (some (.ow (ps ++ qs))))
        | _ => False) D.ex
      | _ => False
  | .seti i ci c, ρ, D => match ρ[i]? with
      | some (some (.ow ps)) => wp Φ exN c ρ (fun d => wp Φ exN ci ρ (fun x => match x, d with
        | .py (.int k), .py p => ∃ j, ixN ps.length k = some j ∧ D.nx (ρ.set i (some (.ow (ps.set j p))))
        | _, _ => False) D.ex) D.ex
      | _ => False
  | .expr c, ρ, D => wp Φ exN c ρ (fun _ => D.nx ρ) D.ex
  | .ite t a b, ρ, D => wp Φ exN t ρ (fun x => match x with | .py (.bool k) => if k = true then wpS a ρ D else wpS b ρ D | _ => False) D.ex
  | .for_ tg src body, ρ, D => wp Φ exN src ρ (fun x => match itemsD x with
      | some ds => forW (fun d ρ1 K => bindG tg d ρ1 fun ρ2 => wpS body ρ2 { D with nx := K, ct := K, bk := D.nx }) D.nx ds ρ
      | none => False) D.ex
  | .while_ t body, ρ, D => ∃ n, whileW (fun ρ1 K => wp Φ exN t ρ1 (fun x => match x with
      | .py (.bool k) => if k = true then wpS body ρ1 { D with nx := K, ct := K, bk := D.nx } else D.nx ρ1
      | _ => False) D.ex) n ρ
  | .ret c, ρ, D => wp Φ exN c ρ D.rt D.ex
  | .raise k as, ρ, D => wp Φ exN as ρ (fun _ => D.ex k) D.ex
  | .brk, ρ, D => D.bk ρ
  | .cont, ρ, D => D.ct ρ
  | .pass, ρ, D => D.nx ρ
end
end Y

/-! part Y2 -/
set_option Elab.async false
set_option linter.all false
set_option maxRecDepth 100000
set_option maxHeartbeats 1000000
/-! Y2: what the data stand for in the heap; the invariant of a body. -/
namespace Y
open PySem PySem.Spec
open PyProof.Rows hiding St
open L2

/-- what may change, though it is tracked: the state's list; the tables of code objects -/
structure SA where
  s : Option (Addr × Addr)
  T : List (Addr × Str)
def NotS (sa : SA) (b : Addr) : Prop := (∀ s n, sa.s = some (s, n) → b ≠ s) ∧ ∀ p ∈ sa.T, b ≠ p.1
/-- all that was tracked is as it was, but the state and the tables -/
def Ext (sa : SA) (H H' : Hp) : Prop := ∀ b o, H b = some o → NotS sa b → H' b = some o
def StOk (sa : SA) (n : Nat) (H : Hp) : Prop := (∀ s b, sa.s = some (s, b) → ∃ (c : Int) (ns : List Int),
  H s = some (.lst [V.ref b, V.int c]) ∧ 0 ≤ c ∧ c ≤ n ∧ H b = some (.lst (ns.map V.int)) ∧ 0 < ns.length ∧ ns.length ≤ 4000 ∧ ∀ x ∈ ns, 0 ≤ x ∧ x < 1009) ∧ LamX.Tabs sa.T H
/-- they stood at the entry -/
def S0 (sa : SA) (H0 : Hp) : Prop := (∀ s b, sa.s = some (s, b) → H0 s ≠ none ∧ H0 b ≠ none) ∧ ∀ p ∈ sa.T, H0 p.1 ≠ none
def solid : HO → Prop
  | .tup _ => True
  | .frz _ _ => True
  | _ => False
def Keep (F : Addr → Prop) (H H' : Hp) : Prop := ∀ b o, H b = some o → (F b ∨ solid o) → H' b = some o
theorem Ext.refl {sa : SA} {H : Hp} : Ext sa H H := fun _ _ e _ => e
theorem Ext.trans {sa : SA} {H H1 H2 : Hp} (a : Ext sa H H1) (b : Ext sa H1 H2) : Ext sa H H2 := fun c o e n => b c o (a c o e n) n
theorem StOk.mono {sa : SA} {n m : Nat} {H : Hp} (h : StOk sa n H) (l : n ≤ m) : StOk sa m H := ⟨fun s b e => by
  obtain ⟨c, ns, h1, h2, h3, h4, h5, h6, h7⟩ := h.1 s b e
  exact ⟨c, ns, h1, h2, by omega, h4, h5, h6, h7⟩, h.2⟩
theorem notS_of {sa : SA} {n : Nat} {H : Hp} {p : Addr} (st : StOk sa n H) (h : H p = none) : NotS sa p := by
  refine ⟨fun s b e q => ?_, fun r hr q => ?_⟩
  · obtain ⟨c, ns, h1, _⟩ := st.1 s b e
    rw [q, h1] at h
    cases h
  · obtain ⟨ps, h1, _⟩ := st.2 r hr
    rw [q, h1] at h
    cases h
theorem Ext.fresh {sa : SA} {n : Nat} {H H' : Hp} {p : Addr} (e : Ext sa H H') (st : StOk sa n H') (h : H' p = none) : H p = none := by
  cases q : H p with
  | none => rfl
  | some o =>
    rw [e p o q (notS_of st h)] at h
    cases h
theorem S0.notS {sa : SA} {H0 : Hp} {p : Addr} (h : S0 sa H0) (h0 : H0 p = none) : NotS sa p := ⟨fun s b e z => (h.1 s b e).1 (by rw [← z]; exact h0), fun r hr z => h.2 r hr (by rw [← z]; exact h0)⟩
theorem StOk.s0 {sa : SA} {n : Nat} {H : Hp} (h : StOk sa n H) : S0 sa H := ⟨fun s b e => by
    obtain ⟨c, ns, h1, _, _, h4, _⟩ := h.1 s b e
    exact ⟨by rw [h1]; exact fun z => (nomatch z), by rw [h4]; exact fun z => (nomatch z)⟩, fun p hp => by
    obtain ⟨ps, h1, _⟩ := h.2 p hp
    rw [h1]; exact fun z => (nomatch z)⟩
/-- a list, or nothing, is written where no state is -/
theorem StOk.put {sa : SA} {n : Nat} {H : Hp} (st : StOk sa n H) {p : Addr} {o : HO} (h1 : ∀ s b, sa.s = some (s, b) → s ≠ p ∧ b ≠ p) (h2 : ∀ o', H p = some o' → ∃ vs, o' = .lst vs) : StOk sa n (L2.upd H p o) := by
  refine ⟨fun s b es => ?_, fun r hr => ?_⟩
  · obtain ⟨c, ns, q1, q2, q3, q4, q5⟩ := st.1 s b es
    obtain ⟨g1, g2⟩ := h1 s b es
    exact ⟨c, ns, by rw [upd_ne g1]; exact q1, q2, q3, by rw [upd_ne g2]; exact q4, q5⟩
  · obtain ⟨ps, q1, q2, q3⟩ := st.2 r hr
    refine ⟨ps, ?_, q2, fun pos cv hc => ?_⟩
    · rw [upd_ne ?_]
      · exact q1
      · intro z
        rw [z] at q1
        obtain ⟨vs, e⟩ := h2 _ q1
        cases e
    · obtain ⟨c, e1, e2⟩ := q3 pos cv hc
      refine ⟨c, e1, ?_⟩
      rw [upd_ne ?_]
      · exact e2
      · intro z
        rw [z] at e2
        obtain ⟨vs, e⟩ := h2 _ e2
        cases e

mutual
inductive Rp (K : PySem.W.Frag) (F : Addr → Prop) (H : Hp) : V → PyData → Prop
  | non : Rp K F H .non .none
  | bl (b : Bool) : Rp K F H (.bl b) (.bool b)
  | int (i : Int) : Rp K F H (.int i) (.int i)
  | str (x : Str) : Rp K F H (.str x) (.str x)
  | lst {a : Addr} {vs : List V} {ds : List PyData} : H a = some (.lst vs) → F a → RpAll K F H vs ds → Rp K F H (.ref a) (.list ds)
  | tup {a : Addr} {vs : List V} {ds : List PyData} : SqT K H a vs → RpAll K F H vs ds → Rp K F H (.ref a) (.tuple ds)
inductive RpAll (K : PySem.W.Frag) (F : Addr → Prop) (H : Hp) : List V → List PyData → Prop
  | nil : RpAll K F H [] []
  | cons {v : V} {vs : List V} {d : PyData} {ds : List PyData} : Rp K F H v d → RpAll K F H vs ds → RpAll K F H (v :: vs) (d :: ds)
end
section
variable {K : PySem.W.Frag} {F F' : Addr → Prop} {H H' : Hp}
theorem Keep.sqt (k : Keep F H H') {a : Addr} {vs : List V} (h : SqT K H a vs) : SqT K H' a vs := by
  rcases h with (h | ⟨o, h⟩) | h
  · exact .inl (.inl (k _ _ h (.inr trivial)))
  · exact .inl (.inr ⟨o, k _ _ h (.inr trivial)⟩)
  · exact .inr h
mutual
theorem Rp.mono (k : Keep F H H') (f : ∀ a, F a → F' a) : ∀ {v : V} {p : PyData}, Rp K F H v p → Rp K F' H' v p
  | _, _, .non => .non
  | _, _, .bl b => .bl b
  | _, _, .int i => .int i
  | _, _, .str x => .str x
  | _, _, .lst h1 h2 h3 => .lst (k _ _ h1 (.inl h2)) (f _ h2) (RpAll.mono k f h3)
  | _, _, .tup h1 h2 => .tup (k.sqt h1) (RpAll.mono k f h2)
theorem RpAll.mono (k : Keep F H H') (f : ∀ a, F a → F' a) : ∀ {vs : List V} {ps : List PyData}, RpAll K F H vs ps → RpAll K F' H' vs ps
  | _, _, .nil => .nil
  | _, _, .cons h1 h2 => .cons (Rp.mono k f h1) (RpAll.mono k f h2)
end
mutual
theorem Rp.dp : ∀ {v : V} {p : PyData}, Rp K F H v p → Dp K H v p
  | _, _, .non => .non
  | _, _, .bl b => .bl b
  | _, _, .int i => .int i
  | _, _, .str x => .str x
  | _, _, .lst h1 h2 h3 => .lst (SqL.of h1) (RpAll.dp h3)
  | _, _, .tup h1 h2 => .tup h1 (RpAll.dp h2)
theorem RpAll.dp : ∀ {vs : List V} {ps : List PyData}, RpAll K F H vs ps → DpAll K H vs ps
  | _, _, .nil => .nil
  | _, _, .cons h1 h2 => .cons (Rp.dp h1) (RpAll.dp h2)
end
theorem RpAll.length : ∀ {vs : List V} {ps : List PyData}, RpAll K F H vs ps → vs.length = ps.length
  | _, _, .nil => rfl
  | _, _, .cons _ h => congrArg (· + 1) h.length
theorem RpAll.append : ∀ {vs ws : List V} {ps qs : List PyData}, RpAll K F H vs ps → RpAll K F H ws qs → RpAll K F H (vs ++ ws) (ps ++ qs)
  | _, _, _, _, .nil, h => h
  | _, _, _, _, .cons a t, h => .cons a (t.append h)
theorem RpAll.get : ∀ {vs : List V} {ps : List PyData} {i : Nat} {p : PyData}, RpAll K F H vs ps → ps[i]? = some p → ∃ v, vs[i]? = some v ∧ Rp K F H v p
  | _, _, _, _, .nil, e => by simp at e
  | _, _, 0, _, .cons a t, e => by simp at e; subst e; exact ⟨_, rfl, a⟩
  | _, _, i + 1, p, .cons a t, e => by
    obtain ⟨v, h1, h2⟩ := RpAll.get (i := i) (p := p) t (by simpa using e)
    exact ⟨v, by simpa using h1, h2⟩
theorem RpAll.get' : ∀ {vs : List V} {ps : List PyData} {i : Nat} {v : V}, RpAll K F H vs ps → vs[i]? = some v → ∃ p, ps[i]? = some p ∧ Rp K F H v p
  | _, _, _, _, .nil, e => by simp at e
  | _, _, 0, _, .cons a t, e => by simp at e; subst e; exact ⟨_, rfl, a⟩
  | _, _, i + 1, p, .cons a t, e => by
    obtain ⟨v, h1, h2⟩ := RpAll.get' (i := i) (v := p) t (by simpa using e)
    exact ⟨v, by simpa using h1, h2⟩
theorem RpAll.take : ∀ {vs : List V} {ps : List PyData} (n : Nat), RpAll K F H vs ps → RpAll K F H (vs.take n) (ps.take n)
  | _, _, 0, _ => .nil
  | _, _, _ + 1, .nil => .nil
  | _, _, n + 1, .cons a t => .cons a (t.take n)
theorem RpAll.drop : ∀ {vs : List V} {ps : List PyData} (n : Nat), RpAll K F H vs ps → RpAll K F H (vs.drop n) (ps.drop n)
  | _, _, 0, h => h
  | _, _, _ + 1, .nil => .nil
  | _, _, n + 1, .cons _ t => t.drop n
theorem RpAll.set : ∀ {vs : List V} {ps : List PyData} (i : Nat) {v : V} {p : PyData}, RpAll K F H vs ps → Rp K F H v p → RpAll K F H (vs.set i v) (ps.set i p)
  | _, _, _, _, _, .nil, _ => .nil
  | _, _, 0, _, _, .cons _ t, r => .cons r t
  | _, _, i + 1, _, _, .cons a t, r => .cons a (t.set i r)
theorem RpAll.reverse : ∀ {vs : List V} {ps : List PyData}, RpAll K F H vs ps → RpAll K F H vs.reverse ps.reverse
  | _, _, .nil => .nil
  | _, _, .cons a t => by
    rw [List.reverse_cons, List.reverse_cons]
    exact t.reverse.append (.cons a .nil)
theorem RpAll.rep {vs : List V} {ps : List PyData} (h : RpAll K F H vs ps) : ∀ k : Nat, RpAll K F H (List.replicate k vs).flatten (List.replicate k ps).flatten
  | 0 => .nil
  | k + 1 => by
    rw [List.replicate_succ, List.replicate_succ, List.flatten_cons, List.flatten_cons]
    exact h.append (h.rep k)
theorem RpAll.cut {vs : List V} {ps : List PyData} (h : RpAll K F H vs ps) (lo hi : Option Int) : RpAll K F H (cutV vs lo hi) (cutP ps lo hi) := by
  unfold cutV cutP
  rw [h.length]
  exact (h.drop _).take _
theorem RpAll.ints : ∀ {vs : List V} {ps : List PyData} {ns : List Int}, RpAll K F H vs ps → intsP ps = some ns → vs = ns.map V.int
  | _, _, ns, .nil, e => by
    simp only [intsP, Option.some.injEq] at e
    subst e
    rfl
  | _, _, ns, .cons (d := d) (ds := ds) a t, e => by
    cases d with
    | int i =>
      cases a
      simp only [intsP] at e
      cases q : intsP ds with
      | none => rw [q] at e; cases e
      | some ms =>
        rw [q] at e
        simp only [Option.map_some, Option.some.injEq] at e
        subst e
        rw [t.ints q]
        rfl
    | _ => simp [intsP] at e
theorem RpAll.bools : ∀ {vs : List V} {ps : List PyData} {ns : List Bool}, RpAll K F H vs ps → boolsP ps = some ns → vs = ns.map V.bl
  | _, _, ns, .nil, e => by
    simp only [boolsP, Option.some.injEq] at e
    subst e
    rfl
  | _, _, ns, .cons (d := d) (ds := ds) a t, e => by
    cases d with
    | bool i =>
      cases a
      simp only [boolsP] at e
      cases q : boolsP ds with
      | none => rw [q] at e; cases e
      | some ms =>
        rw [q] at e
        simp only [Option.map_some, Option.some.injEq] at e
        subst e
        rw [t.bools q]
        rfl
    | _ => simp [boolsP] at e
end

/-- the program's facts -/
structure RS where
  P : Program
  w : World
  K : PySem.W.Frag
  mg : Str → Option Value
  base : Heap
  fa : Nat → Addr
  ex : Nat → Addr
/-- a run of a def: the program's facts, the state's addresses, its entry; nb: how many draws there may be at most at its end -/
structure RT where
  S : RS
  sa : SA
  nb : Nat
  H0 : Hp
  F0 : Addr → Prop
abbrev RT.K (R : RT) : PySem.W.Frag := R.S.K
abbrev RT.fa (R : RT) : Nat → Addr := R.S.fa
abbrev RT.ex (R : RT) : Nat → Addr := R.S.ex
/-- a list that nobody writes: the script -/
def FzL (K : PySem.W.Frag) (H : Hp) (a : Addr) (vs : List V) : Prop := SqL K H a vs ∧ ∀ H' : Hp, (∀ b o, H b = some o → solid o → H' b = some o) → SqL K H' a vs
def RD (R : RT) (F : Addr → Prop) (H : Hp) : V → D → Prop
  | v, .py p => Rp R.K F H v p
  | v, .fn k => v = V.ref (R.fa k)
  | v, .st => ∃ s b, R.sa.s = some (s, b) ∧ v = V.ref s
  | v, .scr => ∃ (a : Addr) (ns : List Int), v = V.ref a ∧ FzL R.K H a (ns.map V.int) ∧ ns.length ≤ 63 ∧ ∀ z ∈ ns, Builtin.Int.intBits z ≤ 1048576
  | _, .args _ => False
def RA (R : RT) (F : Addr → Prop) (H : Hp) : List V → List D → Prop
  | [], [] => True
  | v :: vs, d :: ds => RD R F H v d ∧ RA R F H vs ds
  | _, _ => False
/-- data, or a list that may be somebody's own -/
def RB (R : RT) (F : Addr → Prop) (H : Hp) (v : V) (d : D) : Prop :=
  RD R F H v d ∨ ∃ a vs ps, d = .L ps ∧ v = V.ref a ∧ H a = some (.lst vs) ∧ NotS R.sa a ∧ RpAll R.K F H vs ps
/-- data, or a new list (none yet at H0) -/
def RN (R : RT) (H0 : Hp) (F : Addr → Prop) (H : Hp) (v : V) (d : D) : Prop :=
  (RD R F H v d ∧ ∀ ps, d ≠ .L ps) ∨ ∃ a vs ps, d = .L ps ∧ v = V.ref a ∧ H0 a = none ∧ H a = some (.lst vs) ∧ ¬ F a ∧ RpAll R.K F H vs ps
def SlotOk (R : RT) (F : Addr → Prop) (σ : St) (H : Hp) (i : Nat) : Sl → Prop
  | .sh d => ∃ v, σ[i]? = some (some v) ∧ RD R F H v d
  | .ow ps => ∃ a vs, σ[i]? = some (some (V.ref a)) ∧ H a = some (.lst vs) ∧ RpAll R.K F H vs ps ∧ ¬ F a ∧ R.H0 a = none
structure EnvOk (R : RT) (n : Nat) (F : Addr → Prop) (σ : St) (H : Hp) (ρ : Ev) : Prop where
  ext : Ext R.sa R.H0 H
  st : StOk R.sa n H
  s0 : S0 R.sa R.H0
  fs : ∀ b, F b → NotS R.sa b
  fr : ∀ a, F a → H a ≠ none
  new : ∀ a, F a → R.F0 a ∨ R.H0 a = none
  len : ρ.length = σ.length
  slot : ∀ (i : Nat) (s : Sl), ρ[i]? = some (some s) → SlotOk R F σ H i s
  apart : ∀ (i j : Nat) (a : Addr) (ps qs : List PyData), ρ[i]? = some (some (Sl.ow ps)) → ρ[j]? = some (some (Sl.ow qs)) → σ[i]? = some (some (V.ref a)) → σ[j]? = some (some (V.ref a)) → i = j
section
variable {R : RT} {F F' F1 F2 : Addr → Prop} {H H' H1 H2 : Hp} {σ : St} {ρ : Ev} {n m : Nat}
theorem EnvOk.mono (e : EnvOk R n F σ H ρ) (l : n ≤ m) : EnvOk R m F σ H ρ := { e with st := e.st.mono l }
theorem EnvOk.notS (e : EnvOk R n F σ H ρ) {a : Addr} (h : F a) : NotS R.sa a := e.fs a h
theorem EnvOk.keep (e : EnvOk R n F σ H ρ) (x : Ext R.sa H H') : Keep F H H' := fun b o q h => by
  refine x b o q ?_
  rcases h with h | h
  · exact e.notS h
  · refine ⟨fun s n' es z => ?_, fun r hr z => ?_⟩
    · obtain ⟨c, ns, h1, _⟩ := e.st.1 s n' es
      rw [z, h1] at q
      cases q
      exact h
    · obtain ⟨ps, h1, _⟩ := e.st.2 r hr
      rw [z, h1] at q
      cases q
      exact h
theorem RD.mono (k : Keep F H H') (f : ∀ a, F a → F' a) {v : V} {d : D} (h : RD R F H v d) : RD R F' H' v d := by
  cases d with
  | py p => exact Rp.mono k f h
  | fn j => exact h
  | st => exact h
  | scr =>
    obtain ⟨a, ns, h1, h2, h3⟩ := h
    exact ⟨a, ns, h1, ⟨h2.2 _ fun b o q s => k b o q (.inr s), fun H2 k2 => h2.2 _ fun b o q s => k2 b o (k b o q (.inr s)) s⟩, h3⟩
  | args ds => exact h
theorem RA.mono (k : Keep F H H') (f : ∀ a, F a → F' a) : ∀ {vs : List V} {ds : List D}, RA R F H vs ds → RA R F' H' vs ds
  | [], [], _ => trivial
  | v :: vs, d :: ds, ⟨a, b⟩ => ⟨a.mono k f, RA.mono k f b⟩
  | [], _ :: _, h => h.elim
  | _ :: _, [], h => h.elim
theorem RA.length : ∀ {vs : List V} {ds : List D}, RA R F H vs ds → vs.length = ds.length
  | [], [], _ => rfl
  | v :: vs, d :: ds, ⟨a, b⟩ => congrArg (· + 1) b.length
  | [], _ :: _, h => h.elim
  | _ :: _, [], h => h.elim
theorem RA.append : ∀ {vs ws : List V} {ds es : List D}, RA R F H vs ds → RA R F H ws es → RA R F H (vs ++ ws) (ds ++ es)
  | [], _, [], _, _, h => h
  | v :: vs, _, d :: ds, _, ⟨a, b⟩, h => ⟨a, RA.append b h⟩
  | [], _, _ :: _, _, h, _ => h.elim
  | _ :: _, _, [], _, h, _ => h.elim
theorem RA.pys : ∀ {vs : List V} {ds : List D} {ps : List PyData}, RA R F H vs ds → pysD ds = some ps → RpAll R.K F H vs ps
  | [], [], ps, _, e => by
    simp only [pysD, Option.some.injEq] at e
    subst e
    exact .nil
  | v :: vs, d :: ds, ps, ⟨a, b⟩, e => by
    cases d with
    | py p =>
      simp only [pysD] at e
      cases q : pysD ds with
      | none => rw [q] at e; cases e
      | some qs =>
        rw [q] at e
        simp only [Option.map_some, Option.some.injEq] at e
        subst e
        exact .cons a (RA.pys b q)
    | _ => simp [pysD] at e
  | [], _ :: _, _, h, _ => h.elim
  | _ :: _, [], _, h, _ => h.elim
theorem RpAll.ra : ∀ {vs : List V} {ps : List PyData}, RpAll R.K F H vs ps → RA R F H vs (ps.map D.py)
  | _, _, .nil => trivial
  | _, _, .cons a t => ⟨a, t.ra⟩
theorem RB.mono (e : EnvOk R n F σ H ρ) (x : Ext R.sa H H') (f : ∀ a, F a → F' a) {v : V} {d : D} (h : RB R F H v d) : RB R F' H' v d := by
  rcases h with h | ⟨a, vs, ps, h1, h2, h3, h4, h5⟩
  · exact .inl (h.mono (e.keep x) f)
  · exact .inr ⟨a, vs, ps, h1, h2, x _ _ h3 h4, h4, h5.mono (e.keep x) f⟩
theorem RB.dp {v : V} {p : PyData} (h : RB R F H v (.py p)) : Dp R.K H v p := by
  rcases h with h | ⟨a, vs, ps, h1, h2, h3, h4, h5⟩
  · exact Rp.dp h
  · cases h1
    subst h2
    exact .lst (SqL.of h3) h5.dp
theorem RB.list (e : EnvOk R n F σ H ρ) {v : V} {ps : List PyData} (h : RB R F H v (.L ps)) : ∃ a vs, v = V.ref a ∧ H a = some (.lst vs) ∧ NotS R.sa a ∧ RpAll R.K F H vs ps := by
  rcases h with h | ⟨a, vs, ps, h1, h2, h3, h4, h5⟩
  · cases h with
    | lst h1 h2 h3 => exact ⟨_, _, rfl, h1, e.notS h2, h3⟩
  · cases h1
    exact ⟨a, vs, h2, h3, h4, h5⟩
theorem RB.tuple {v : V} {ps : List PyData} (h : RB R F H v (.T ps)) : ∃ a vs, v = V.ref a ∧ SqT R.K H a vs ∧ RpAll R.K F H vs ps := by
  rcases h with h | ⟨a, vs, ps, h1, h2, h3, h4, h5⟩
  · cases h with
    | tup h1 h2 => exact ⟨_, _, rfl, h1, h2⟩
  · cases h1
theorem RB.int {v : V} {i : Int} (h : RB R F H v (.I i)) : v = .int i := by
  rcases h with h | ⟨a, vs, ps, h1, _⟩
  · cases h; rfl
  · cases h1
theorem RB.bool {v : V} {b : Bool} (h : RB R F H v (.B b)) : v = .bl b := by
  rcases h with h | ⟨a, vs, ps, h1, _⟩
  · cases h; rfl
  · cases h1
theorem RB.flat {v : V} {p : PyData} (f : flatP p = true) (h : RB R F H v (.py p)) : Rp R.K F H v p := by
  rcases h with h | ⟨a, vs, ps, h1, _⟩
  · exact h
  · cases h1
    cases f
/-- the heap behind an expression -/
structure Nxt (R : RT) (m : Nat) (σ : St) (ρ : Ev) (F : Addr → Prop) (H : Hp) (F' : Addr → Prop) (H' : Hp) : Prop where
  env : EnvOk R m F' σ H' ρ
  ext : Ext R.sa H H'
  sub : ∀ a, F a → F' a
  nw : ∀ a, F' a → F a ∨ H a = none
theorem Nxt.refl (e : EnvOk R m F σ H ρ) : Nxt R m σ ρ F H F H := ⟨e, .refl, fun _ h => h, fun _ h => .inl h⟩
theorem Nxt.trans (a : Nxt R n σ ρ F H F1 H1) (b : Nxt R m σ ρ F1 H1 F2 H2) : Nxt R m σ ρ F H F2 H2 := ⟨b.env, a.ext.trans b.ext, fun c h => b.sub c (a.sub c h), fun c h => by
  rcases b.nw c h with h | h
  · exact a.nw c h
  · exact .inr (a.ext.fresh a.env.st h)⟩
theorem Nxt.mono (a : Nxt R n σ ρ F H F1 H1) (l : n ≤ m) : Nxt R m σ ρ F H F1 H1 := ⟨a.env.mono l, a.ext, a.sub, a.nw⟩
/-- a new object, not frozen -/
theorem EnvOk.upd (e : EnvOk R n F σ H ρ) {p : Addr} {o : HO} (h : H p = none) : EnvOk R n F σ (upd H p o) ρ := by
  have x : Ext R.sa H (L2.upd H p o) := fun b u q _ => by
    rw [upd_ne (ne_of_none q h)]
    exact q
  refine ⟨e.ext.trans x, e.st.put (fun s b es => ?_) (fun o' q => by rw [h] at q; cases q), e.s0, e.fs, fun a ha => ?_, e.new, e.len, fun i s hs => ?_, e.apart⟩
  · obtain ⟨c, ns, h1, h2, h3, h4, h5⟩ := e.st.1 s b es
    exact ⟨ne_of_none h1 h, ne_of_none h4 h⟩
  · intro z
    cases q : H a with
    | none => exact e.fr a ha q
    | some u =>
      rw [upd_ne (ne_of_none q h), q] at z
      cases z
  · have q := e.slot i s hs
    cases s with
    | sh d =>
      obtain ⟨v, h1, h2⟩ := q
      exact ⟨v, h1, h2.mono (e.keep x) fun _ h => h⟩
    | ow ps =>
      obtain ⟨a, vs, h1, h2, h3, h4, h5⟩ := q
      exact ⟨a, vs, h1, by rw [upd_ne (ne_of_none h2 h)]; exact h2, h3.mono (e.keep x) fun _ h => h, h4, h5⟩
theorem Nxt.upd (e : EnvOk R n F σ H ρ) {p : Addr} {o : HO} (h : H p = none) : Nxt R n σ ρ F H F (upd H p o) := ⟨e.upd h, fun b u q _ => by
    rw [upd_ne (ne_of_none q h)]
    exact q, fun _ h => h, fun _ h => .inl h⟩
/-- a list that nobody has is frozen -/
theorem EnvOk.freeze (e : EnvOk R n F σ H ρ) {p : Addr} (h : H p ≠ none) (hn : NotS R.sa p) (h0 : R.H0 p = none) (ho : ∀ (i : Nat) (ps : List PyData), ρ[i]? = some (some (Sl.ow ps)) → σ[i]? ≠ some (some (V.ref p))) :
    EnvOk R n (fun a => F a ∨ a = p) σ H ρ := by
  refine ⟨e.ext, e.st, e.s0, fun b hb => ?_, fun a ha => ?_, fun a ha => ?_, e.len, fun i s hs => ?_, e.apart⟩
  · rcases hb with z | z
    · exact e.fs b z
    · rw [z]; exact hn
  · rcases ha with z | z
    · exact e.fr a z
    · rw [z]; exact h
  · rcases ha with z | z
    · exact e.new a z
    · rw [z]; exact .inr h0
  · have q := e.slot i s hs
    cases s with
    | sh d =>
      obtain ⟨v, h1, h2⟩ := q
      exact ⟨v, h1, h2.mono (fun _ _ q _ => q) fun _ h => .inl h⟩
    | ow ps =>
      obtain ⟨a, vs, h1, h2, h3, h4, h5⟩ := q
      refine ⟨a, vs, h1, h2, h3.mono (fun _ _ q _ => q) fun _ h => .inl h, ?_, h5⟩
      rintro (z | z)
      · exact h4 z
      · rw [z] at h1
        exact ho i ps hs h1
theorem EnvOk.ownH (e : EnvOk R n F σ H ρ) {p : Addr} (h : H p = none) : ∀ (i : Nat) (ps : List PyData), ρ[i]? = some (some (Sl.ow ps)) → σ[i]? ≠ some (some (V.ref p)) := fun i ps hs z => by
  obtain ⟨a, vs, h1, h2, _⟩ := e.slot i _ hs
  rw [z] at h1
  cases h1
  rw [h] at h2
  cases h2
theorem EnvOk.h0 (e : EnvOk R n F σ H ρ) {p : Addr} (h : H p = none) : R.H0 p = none := e.ext.fresh e.st h
end
end Y

/-! part Y3 -/
set_option Elab.async false
set_option linter.all false
set_option maxRecDepth 100000
set_option maxHeartbeats 1000000
/-! Y3: the operations' rules over data. -/
namespace Y
open PySem PySem.Spec
open PyProof.Rows hiding St
open L2

/-! ### weaker readings -/
section
variable {X : Cx}
theorem PEw {e : Expr} {t t' : TE} (h : PE X e t) (w : ∀ σ H Q, t' σ H Q → t σ H Q) : PE X e t' := ⟨fun pins s σ H Q I q => h.run pins s σ H Q I (w _ _ _ q)⟩
theorem PTw {e : Expr} {t t' : TT} (h : PT X e t) (w : ∀ σ H Q, t' σ H Q → t σ H Q) : PT X e t' := ⟨fun pins s σ H Q I q => h.run pins s σ H Q I (w _ _ _ q)⟩
theorem PWw {e : Expr} {t t' : TT} (h : PW X e t) (w : ∀ σ H Q, t' σ H Q → t σ H Q) : PW X e t' := ⟨fun wh pins s σ H Q I q => h.run wh pins s σ H Q I (w _ _ _ q)⟩
theorem PAw {e : List Expr} {t t' : TA} (h : PA X e t) (w : ∀ σ H Q, t' σ H Q → t σ H Q) : PA X e t' := ⟨fun p pins s σ H Q I q => h.run p pins s σ H Q I (w _ _ _ q)⟩
theorem PSw {e : Stmt} {t t' : TS} (h : PS X e t) (w : ∀ D σ H, t' D σ H → t D σ H) : PS X e t' := ⟨fun pins s σ H D I q => h.run pins s σ H D I (w _ _ _ q)⟩
theorem PSsw {e : List Stmt} {t t' : TS} (h : PSs X e t) (w : ∀ D σ H, t' D σ H → t D σ H) : PSs X e t' := ⟨fun pins s σ H D I q => h.run pins s σ H D I (w _ _ _ q)⟩
theorem PIw {tg e : Expr} {t t' : TI} (h : PI X tg e t) (w : ∀ σ H Q, t' σ H Q → t σ H Q) : PI X tg e t' := ⟨fun pins s σ H Q I q => h.run pins s σ H Q I (w _ _ _ q)⟩
theorem PGw {tg : Expr} {t t' : TG} (h : PG X tg t) (w : ∀ v σ H Q, t' v σ H Q → t v σ H Q) : PG X tg t' := ⟨fun pins s σ H v u Q I r q => h.run pins s σ H v u Q I r (w _ _ _ _ q)⟩
theorem PTsw {e : List Expr} {t t' : TT} (h : PTs X e t) (w : ∀ σ H Q, t' σ H Q → t σ H Q) : PTs X e t' := ⟨fun pins s σ H Q I q => h.run pins s σ H Q I (w _ _ _ q)⟩
end

/-! ### binary operators -/
def opM : BO → Operator
  | .add => .Add | .sub => .Sub | .mul => .Mult | .fdiv => .FloorDiv | .mod => .Mod | .pow => .Pow
def CDivG (_ j : Int) : Prop := j ≠ 0 ∧ j.natAbs.log2 < 9000
def rSubB : R2 := fun x y H Q => ∃ i j, x = .bl i ∧ y = .bl j ∧ Q (.int (PyProof.Rows.b2i i - PyProof.Rows.b2i j)) H
theorem op_subB {X : Cx} : OpR X (binaryOp .Sub) rSubB := by
  intro pins s σ H x y v u Q I rx ry h
  obtain ⟨i, j, rfl, rfl, q⟩ := h
  cases rx; cases ry
  exact PyProof.Rows.sub_bool ⟨.int _, H, I.tok _, ⟨_, rfl⟩, q⟩
def rB (K : PySem.W.Frag) : BO → R2
  | .add => fun x y H Q => rI0 (fun i j => .int (i + j)) x y H Q ∨ rCatA K x y H Q ∨ rCat x y H Q
  | .sub => fun x y H Q => rI0 (fun i j => .int (i - j)) x y H Q ∨ rSubB x y H Q
  | .mul => fun x y H Q => rI CMulX (fun i j => .int (i * j)) x y H Q ∨ rRep x y H Q ∨ rRepT K x y H Q
  | .fdiv => rI CDivG fun i j => .int (i.fdiv j)
  | .mod => rI (fun _ j => j ≠ 0) fun i j => .int (i.fmod j)
  | .pow => rI CPow fun i j => .int (i ^ j.toNat)
theorem op_bin {X : Cx} (op : BO) : OpR X (binaryOp (opM op)) (rB X.K op) := by
  cases op with
  | add => exact OpR.or op_add (OpR.or op_catA op_cat)
  | sub => exact OpR.or op_sub op_subB
  | mul => exact OpR.or op_mulX (OpR.or op_rep op_repT)
  | fdiv => exact opI fun i j _ _ _ _ _ hc q => floordiv_int hc.1 q (.inl (PyProof.noPylong_of_log2 hc.2))
  | mod => exact op_modN
  | pow => exact op_pow
section
variable {R : RT} {F F' F1 F2 : Addr → Prop} {H H' H1 H2 : Hp} {σ : St} {ρ : Ev} {n m : Nat}
theorem RN.of_int {i : Int} : RN R H F H1 (.int i) (.I i) := .inl ⟨.int i, fun _ z => nomatch z⟩
theorem RN.of_bool {i : Bool} : RN R H F H1 (.bl i) (.B i) := .inl ⟨.bl i, fun _ z => nomatch z⟩
theorem RN.of_tup {a : Addr} {vs : List V} {ps : List PyData} (h : SqT R.K H1 a vs) (h2 : RpAll R.K F H1 vs ps) : RN R H F H1 (.ref a) (.T ps) := .inl ⟨.tup h h2, fun _ z => nomatch z⟩
theorem SqT.new {K : PySem.W.Frag} {H : Hp} {p : Addr} {vs : List V} : SqT K (upd H p (.tup vs)) p vs := .inl (.inl upd_same)
/-- a new tuple, a new list at p -/
theorem EnvOk.newT (e : EnvOk R n F σ H ρ) {p : Addr} {vs : List V} {ps : List PyData} (hp : H p = none) (r : RpAll R.K F H vs ps) : RN R H F (L2.upd H p (.tup vs)) (.ref p) (.T ps) :=
  RN.of_tup SqT.new (r.mono (e.keep (Nxt.upd e hp).ext) fun _ h => h)
theorem EnvOk.newL (e : EnvOk R n F σ H ρ) {p : Addr} {vs : List V} {ps : List PyData} (hp : H p = none) (r : RpAll R.K F H vs ps) : RN R H F (L2.upd H p (.lst vs)) (.ref p) (.L ps) :=
  .inr ⟨p, vs, ps, rfl, rfl, hp, upd_same, fun z => e.fr p z hp, r.mono (e.keep (Nxt.upd e hp).ext) fun _ h => h⟩
theorem bin_ok {op : BO} {x y : V} {d e : D} {Qd : D → Prop} {Q : VK} (E : EnvOk R n F σ H ρ) (rx : RB R F H x d) (ry : RB R F H y e) (q : binD op d e Qd)
    (k : ∀ d' v F' H', Qd d' → Nxt R n σ ρ F H F' H' → RN R H F' H' v d' → Q v H') : rB R.K op x y H Q := by
  unfold binD at q
  split at q
  · cases rx.int; cases ry.int
    exact .inl ⟨_, _, rfl, rfl, k _ _ _ _ q (.refl E) .of_int⟩
  · rename_i xs ys Q
    obtain ⟨a, vs, rfl, h1, h2⟩ := rx.tuple
    obtain ⟨b, ws, rfl, h3, h4⟩ := ry.tuple
    obtain ⟨hz, q⟩ := q
    refine .inr (.inl ⟨a, b, vs, ws, rfl, rfl, h1, h3, by rw [h2.length, h4.length]; exact hz, fun z => ?_, fun _ z => ?_, fun _ _ p hp => ?_⟩)
    · subst z
      cases h2
      exact k _ _ _ _ q (.refl E) (RN.of_tup h3 (by simpa using h4))
    · subst z
      cases h4
      exact k _ _ _ _ q (.refl E) (RN.of_tup h1 (by simpa using h2))
    · exact k _ _ _ _ q (Nxt.upd E hp) (E.newT hp (h2.append h4))
  · rename_i xs ys Q
    obtain ⟨a, vs, rfl, h1, _, h2⟩ := rx.list E
    obtain ⟨b, ws, rfl, h3, _, h4⟩ := ry.list E
    obtain ⟨hz, q⟩ := q
    exact .inr (.inr ⟨a, b, vs, ws, rfl, rfl, h1, h3, by rw [h2.length, h4.length]; exact hz, fun p hp => k _ _ _ _ q (Nxt.upd E hp) (E.newL hp (h2.append h4))⟩)
  · cases rx.int; cases ry.int
    exact .inl ⟨_, _, rfl, rfl, k _ _ _ _ q (.refl E) .of_int⟩
  · cases rx.bool; cases ry.bool
    exact .inr ⟨_, _, rfl, rfl, k _ _ _ _ q (.refl E) .of_int⟩
  · cases rx.int; cases ry.int
    exact .inl ⟨_, _, rfl, rfl, q.1, k _ _ _ _ q.2 (.refl E) .of_int⟩
  · obtain ⟨a, vs, rfl, h1, _, h2⟩ := rx.list E
    cases ry.int
    obtain ⟨⟨z1, z2, z3⟩, q⟩ := q
    exact .inr (.inl ⟨a, _, vs, rfl, rfl, h1, z1, z2, by rw [h2.length]; exact z3, fun p hp => k _ _ _ _ q (Nxt.upd E hp) (E.newL hp (h2.rep _))⟩)
  · obtain ⟨a, vs, rfl, h1, h2⟩ := rx.tuple
    cases ry.int
    obtain ⟨⟨z1, z2, z3, z4⟩, q⟩ := q
    have hl := h2.length
    refine .inr (.inr ⟨a, _, vs, rfl, rfl, h1, fun z => ?_, z1, z2, by omega, fun p hp => k _ _ _ _ q (Nxt.upd E hp) (E.newT hp (h2.rep _))⟩)
    rw [z] at hl
    simp only [List.length_nil] at hl
    omega
  · cases rx.int; cases ry.int
    exact ⟨_, _, rfl, rfl, q.1, k _ _ _ _ q.2 (.refl E) .of_int⟩
  · cases rx.int; cases ry.int
    exact ⟨_, _, rfl, rfl, q.1, k _ _ _ _ q.2 (.refl E) .of_int⟩
  · cases rx.int; cases ry.int
    exact ⟨_, _, rfl, rfl, q.1, k _ _ _ _ q.2 (.refl E) .of_int⟩
  · exact q.elim

/-! ### comparisons -/
/-- x in a tuple, deep -/
def rInT (K : PySem.W.Frag) (neg : Bool) : R2 := fun x y H Q => ∃ d ds, Dp K H x d ∧ Dp K H y (.tuple ds) ∧ SeqAt.shaped d = true ∧ SeqAt.shaped (.tuple ds) = true ∧ Q (.bl (if neg then !(ds.any fun z => PyData.eqv z d) else ds.any fun z => PyData.eqv z d)) H
theorem op_inT {X : Cx} (hu : X.A.units + 65 < cLine) : OpR X (compareOp .In) (rInT X.K false) := by
  intro pins s σ H x y v u Q I rx ry h
  obtain ⟨d, ds, hd, he, sd, se, q⟩ := h
  obtain ⟨as, r1⟩ := Dp.reads I d x v hd rx
  obtain ⟨bs, r2⟩ := Dp.reads I (.tuple ds) y u he ry
  exact SeqAt.in_tuple_reads r2 r1 (SeqAt.canLay_of_shaped se) (SeqAt.canLay_of_shaped sd) (room_in_shaped sd hu) ⟨.bl _, H, I, rfl, q⟩
theorem op_notInT {X : Cx} (hu : X.A.units + 65 < cLine) : OpR X (compareOp .NotIn) (rInT X.K true) := by
  intro pins s σ H x y v u Q I rx ry h
  obtain ⟨d, ds, hd, he, sd, se, q⟩ := h
  obtain ⟨as, r1⟩ := Dp.reads I d x v hd rx
  obtain ⟨bs, r2⟩ := Dp.reads I (.tuple ds) y u he ry
  exact SeqAt.notIn_tuple_reads r2 r1 (SeqAt.canLay_of_shaped se) (SeqAt.canLay_of_shaped sd) (room_in_shaped sd hu) ⟨.bl _, H, I, rfl, q⟩
def rC (K : PySem.W.Frag) : CmpOp → R2
  | .Lt => rI0 fun i j => .bl (decide (i < j))
  | .LtE => rI0 fun i j => .bl (decide (i ≤ j))
  | .Gt => rI0 fun i j => .bl (decide (j < i))
  | .GtE => rI0 fun i j => .bl (decide (j ≤ i))
  | .Eq => rEqD K
  | .NotEq => rNeD K
  | .In => fun x y H Q => rInD K x y H Q ∨ (rIn K false x y H Q ∨ rInT K false x y H Q)
  | .NotIn => fun x y H Q => rNotInD K x y H Q ∨ (rIn K true x y H Q ∨ rInT K true x y H Q)
  | .Is => fun x y H Q => (y = .non ∧ Q (.bl (decide (x = .non))) H) ∨ (∃ b c, x = .bl b ∧ y = .bl c ∧ Q (.bl (b == c)) H)
  | .IsNot => fun x y H Q => (y = .non ∧ Q (.bl (!decide (x = .non))) H) ∨ (∃ b c, x = .bl b ∧ y = .bl c ∧ Q (.bl (b != c)) H)
/-- is between truth values -/
theorem op_isB {X : Cx} : OpR X (compareOp .Is) (fun x y H Q => ∃ b c, x = .bl b ∧ y = .bl c ∧ Q (.bl (b == c)) H) := by
  intro pins s σ H x y v u Q I rx ry h
  obtain ⟨b, c, rfl, rfl, q⟩ := h
  cases rx
  cases ry
  by_cases e : b = c
  · subst e
    exact wpAny_is_self rfl ⟨.bl true, H, I, rfl, by simpa using q⟩
  · rw [show (b == c) = false from beq_eq_false_iff_ne.mpr e] at q
    exact wpAny_is_other rfl (fun z => e (Value.bool.inj z)) ⟨.bl false, H, I, rfl, q⟩
theorem op_notB {X : Cx} : OpR X (compareOp .IsNot) (fun x y H Q => ∃ b c, x = .bl b ∧ y = .bl c ∧ Q (.bl (b != c)) H) := by
  intro pins s σ H x y v u Q I rx ry h
  obtain ⟨b, c, rfl, rfl, q⟩ := h
  cases rx
  cases ry
  by_cases e : b = c
  · subst e
    exact wpAny_isNot_self rfl ⟨.bl false, H, I, rfl, by simpa using q⟩
  · rw [show (b != c) = true from bne_iff_ne.mpr e] at q
    exact wpAny_isNot_other rfl (fun z => e (Value.bool.inj z)) ⟨.bl true, H, I, rfl, q⟩
theorem op_cmp {X : Cx} {k : Nat} (hr : Room k X.A) (op : CmpOp) : OpR X (compareOp op) (rC X.K op) := by
  have h1 : X.A.units + 65 < cLine := by have := hr.un; omega
  cases op with
  | Lt => exact op_lt
  | LtE => exact op_le
  | Gt => exact op_gt
  | GtE => exact op_ge
  | Eq => exact op_eqD (by omega)
  | NotEq => exact op_neD (by omega)
  | In => exact OpR.or (op_inD h1) (OpR.or op_in_seq (op_inT h1))
  | NotIn => exact OpR.or (op_notInD h1) (OpR.or op_notIn_seq (op_notInT h1))
  | Is => exact OpR.or op_isN op_isB
  | IsNot => exact OpR.or op_notN op_notB
theorem flat_v {v : V} {p : PyData} (h : Rp R.K F H v p) (f : flatP p = true) : flatV v = true := by
  cases h <;> first | rfl | cases f
theorem eqv_flat {v w : V} {p q : PyData} (h : Rp R.K F H v p) (h2 : Rp R.K F H w q) (f : flatP p = true) (f2 : flatP q = true) : eqV v w = PyData.eqv p q := by
  cases h <;> (first | cases f; done | skip) <;> cases h2 <;> first
    | cases f2; done
    | (simp only [eqV, PyData.eqv]; done)
    | rfl
theorem any_flat {w : V} {q : PyData} (h2 : Rp R.K F H w q) (f2 : flatP q = true) : ∀ {vs : List V} {ps : List PyData}, RpAll R.K F H vs ps → ps.all flatP = true → vs.all flatV = true ∧ inV w vs = ps.any fun z => PyData.eqv z q
  | _, _, .nil, _ => ⟨rfl, rfl⟩
  | v :: vs, p :: ps, .cons a t, f => by
    simp only [List.all_cons, Bool.and_eq_true] at f
    obtain ⟨i1, i2⟩ := any_flat h2 f2 t f.2
    refine ⟨by simp only [List.all_cons, flat_v a f.1, i1, Bool.and_self], ?_⟩
    unfold inV at i2 ⊢
    rw [List.any_cons, List.any_cons, i2, eqv_flat a h2 f.1 f2]
theorem none_v {v : V} {p : PyData} (h : RB R F H v (.py p)) : decide (v = .non) = isNone p := by
  rcases h with h | ⟨a, vs, ps, h1, h2, _⟩
  · cases h <;> simp [isNone]
  · cases h1
    subst h2
    simp [isNone]
theorem cmp_ok {op : CmpOp} {x y : V} {d e : D} {Qd : D → Prop} {Q : VK} (E : EnvOk R n F σ H ρ) (rx : RB R F H x d) (ry : RB R F H y e) (q : cmpD op d e Qd)
    (k : ∀ b, Qd (.B b) → Q (.bl b) H) : rC R.K op x y H Q := by
  unfold cmpD at q
  split at q
  · cases rx.int; cases ry.int; exact ⟨_, _, rfl, rfl, k _ q⟩
  · cases rx.int; cases ry.int; exact ⟨_, _, rfl, rfl, k _ q⟩
  · cases rx.int; cases ry.int; exact ⟨_, _, rfl, rfl, k _ q⟩
  · cases rx.int; cases ry.int; exact ⟨_, _, rfl, rfl, k _ q⟩
  · exact ⟨_, _, rx.dp, ry.dp, q.1.1, q.1.2, k _ q.2⟩
  · exact ⟨_, _, rx.dp, ry.dp, q.1.1, q.1.2, k _ q.2⟩
  · exact .inl ⟨_, _, rx.dp, ry.dp, q.1.1, q.1.2, k _ q.2⟩
  · exact .inl ⟨_, _, rx.dp, ry.dp, q.1.1, q.1.2, k _ q.2⟩
  · rcases q with ⟨q1 | q1, q2⟩
    · obtain ⟨a, vs, rfl, h1, h2⟩ := ry.tuple
      obtain ⟨h3, h4⟩ := any_flat (rx.flat q1.1) q1.1 h2 q1.2
      refine .inr (.inl ⟨a, vs, rfl, .inr h1, flat_v (rx.flat q1.1) q1.1, h3, ?_⟩)
      show Q (.bl (inV x vs)) H
      rw [h4]
      exact k _ q2
    · exact .inr (.inr ⟨_, _, rx.dp, ry.dp, q1.1, q1.2, k _ q2⟩)
  · rcases q with ⟨q1 | q1, q2⟩
    · obtain ⟨a, vs, rfl, h1, h2⟩ := ry.tuple
      obtain ⟨h3, h4⟩ := any_flat (rx.flat q1.1) q1.1 h2 q1.2
      refine .inr (.inl ⟨a, vs, rfl, .inr h1, flat_v (rx.flat q1.1) q1.1, h3, ?_⟩)
      show Q (.bl (!inV x vs)) H
      rw [h4]
      exact k _ q2
    · exact .inr (.inr ⟨_, _, rx.dp, ry.dp, q1.1, q1.2, k _ q2⟩)
  · refine .inl ⟨?_, ?_⟩
    · cases (ry.flat rfl); rfl
    · rw [none_v rx]; exact k _ q
  · refine .inl ⟨?_, ?_⟩
    · cases (ry.flat rfl); rfl
    · rw [none_v rx]; exact k _ q
  · cases (rx.flat rfl); cases (ry.flat rfl)
    exact .inr ⟨_, _, rfl, rfl, k _ q⟩
  · cases (rx.flat rfl); cases (ry.flat rfl)
    exact .inr ⟨_, _, rfl, rfl, k _ q⟩
  · exact q.elim

/-! ### items and slices -/
theorem at_rp {vs : List V} {ps : List PyData} {i : Int} {p : PyData} (h : RpAll R.K F H vs ps) (e : atI ps i = some p) : ∃ v, atI vs i = some v ∧ Rp R.K F H v p := by
  unfold atI at e ⊢
  rw [h.length]
  cases q : ixN ps.length i with
  | none => rw [q] at e; cases e
  | some j =>
    rw [q] at e
    exact h.get e
theorem ix_ok {x y : V} {d e : D} {Qd : D → Prop} {Q : VK} (E : EnvOk R n F σ H ρ) (rx : RB R F H x d) (ry : RB R F H y e) (q : ixD d e Qd)
    (k : ∀ p v, Qd (.py p) → Rp R.K F H v p → Q v H) : rIx R.K x y H Q := by
  unfold ixD at q
  split at q
  · obtain ⟨a, vs, rfl, h1, _, h2⟩ := rx.list E
    cases ry.int
    obtain ⟨p, e1, q⟩ := q
    obtain ⟨v, e2, r⟩ := at_rp h2 e1
    exact .inl ⟨a, vs, _, v, rfl, rfl, SqL.of h1, e2, k p v q r⟩
  · obtain ⟨a, vs, rfl, h1, h2⟩ := rx.tuple
    cases ry.int
    obtain ⟨p, e1, q⟩ := q
    obtain ⟨v, e2, r⟩ := at_rp h2 e1
    exact .inr (.inl ⟨a, vs, _, v, rfl, rfl, h1, e2, k p v q r⟩)
  · exact q.elim
def rSl (K : PySem.W.Frag) : V → Option Int → Option Int → Hp → VK → Prop := fun x lo hi H Q => rSlL K x lo hi H Q ∨ rSlA K x lo hi H Q
theorem sl_any {X : Cx} : SlR X (rSl X.K) := SlR.or sl_list sl_tupA
theorem cut_whole {α : Type} (xs : List α) (lo hi : Option Int) (h : HT.sIx xs.length 0 lo = 0 ∧ HT.sIx xs.length xs.length hi = xs.length) : (xs.drop (HT.sIx xs.length 0 lo)).take (HT.sIx xs.length xs.length hi - HT.sIx xs.length 0 lo) = xs := by
  rw [h.1, h.2]
  simp
theorem slc_ok {x : V} {d : D} {lo hi : Option Int} {Qd : D → Prop} {Q : VK} (E : EnvOk R n F σ H ρ) (rx : RB R F H x d) (q : slcD d lo hi Qd)
    (k : ∀ d' v F' H', Qd d' → Nxt R n σ ρ F H F' H' → RN R H F' H' v d' → Q v H') : rSl R.K x lo hi H Q := by
  unfold slcD at q
  split at q
  · obtain ⟨a, vs, rfl, h1, _, h2⟩ := rx.list E
    exact .inl ⟨a, vs, rfl, SqL.of h1, fun p hp => k _ _ _ _ q (Nxt.upd E hp) (E.newL hp (h2.cut _ _))⟩
  · obtain ⟨a, vs, rfl, h1, h2⟩ := rx.tuple
    refine .inr ⟨a, vs, rfl, h1, fun z => ?_, fun z p hp => k _ _ _ _ q (Nxt.upd E hp) (E.newT hp (h2.cut _ _))⟩
    have hc := h2.cut lo hi
    have e : cutV vs lo hi = vs := cut_whole vs lo hi z
    rw [e] at hc
    exact k _ _ _ _ q (.refl E) (RN.of_tup h1 hc)
  · exact q.elim
end
end Y

/-! part Y4 -/
set_option Elab.async false
set_option linter.all false
set_option maxRecDepth 100000
set_option maxHeartbeats 1000000
/-! Y4: the readings of expressions, node by node. -/
namespace Y
open PySem PySem.Spec
open PyProof.Rows hiding St
open L2

/-! ### how many draws at most -/
def manyD : Nat := 2 ^ 63
def drw (dr : Nat → Nat) : C → Nat
  | .cons a r => drw dr a + drw dr r
  | .star a r => drw dr a + drw dr r
  | .tup as => drw dr as
  | .lst as => drw dr as
  | .bin _ a b => drw dr a + drw dr b
  | .neg a => drw dr a
  | .cmp _ a b => drw dr a + drw dr b
  | .chain _ _ a b c => drw dr a + drw dr b + drw dr c
  | .and a b => drw dr a + drw dr b
  | .or a b => drw dr a + drw dr b
  | .not a => drw dr a
  | .ite t a b => drw dr t + (drw dr a + drw dr b)
  | .ix a i => drw dr a + drw dr i
  | .slc a lo hi => drw dr a + drw dr lo + drw dr hi
  | .rvs a => drw dr a
  | .call f as => drw dr as + dr f
  | .callv _ fs as => drw dr as + (fs.map dr).foldr max 0
  | .told a => drw dr a
  | .toldd _ a => drw dr a
  | .same a b => drw dr a + drw dr b
  | .repr a => drw dr a
  | .bi _ as => drw dr as
  | .isi a _ => drw dr a
  | .meth _ o as => drw dr o + drw dr as
  | .rng as => drw dr as
  | .lrg a b => drw dr a + drw dr b
  | .enum a => drw dr a
  | .zip a b => drw dr a + drw dr b
  | .rev a => drw dr a
  | .comp _ el _ src ifs => drw dr src + manyD * (drw dr ifs + drw dr el)
  | .comp2 _ _ el _ src ifs _ src1 ifs1 => drw dr src + manyD * (drw dr ifs + (drw dr src1 + manyD * (drw dr ifs1 + drw dr el)))
  | _ => 0
def lenC : C → Option Nat
  | .nil => some 0
  | .cons _ r => (lenC r).map (· + 1)
  | _ => none

/-! ### where one stands -/
structure Pz where
  N : List Str
  sc : Scope
  own : Option Scope
  L : Nat
  gd : Bool := false
structure At (S : RS) (z : Pz) (X : Cx) : Prop where
  hP : X.prog = S.P
  hw : X.w = S.w
  hK : X.K = S.K
  hm : X.mg = S.mg
  hb : X.base = S.base
  hN : X.N = z.N
  nd : X.N.Nodup
  hs : X.env.scope = z.sc
  hf : ∀ x, (match z.own with | none => true | some s => s.names.lookup x == some .cell) = true → X.fn x = true
  calm : X.calm = true
  hr : Room z.L X.A
  hg : z.gd = true → X.A.guards = some []
/-- the largest number of draws -/
def BIG : Nat := 2 ^ 4000
/-- what is wished of an exception -/
structure Wsh (R : RT) (Ed : Nat → Prop) (X : Cx) : Prop where
  ex : ∃ W, L2N.Takes X W ∧ ∀ k σ H', Ed k → Ext R.sa R.H0 H' → StOk R.sa R.nb H' → W (.ref (R.ex k)) none σ H'
  big : R.nb ≤ BIG

section
variable (Φ : Nat → List D → (D → Prop) → (Nat → Prop) → Prop) (exN : Nat → Str) (dr : Nat → Nat)
abbrev Rl := Hp → (Addr → Prop) → Hp → V → D → Prop
def rlD (R : RT) : Rl := fun _ F' H' v d => RD R F' H' v d
def rlB (R : RT) : Rl := fun _ F' H' v d => RB R F' H' v d
def rlN (R : RT) : Rl := fun H F' H' v d => RN R H F' H' v d
/-- an expression's reading over data -/
def TEx (R : RT) (rl : Rl) (Ed : Nat → Prop) (c : C) : TE := fun σ H Q => ∃ n F ρ Qd, EnvOk R n F σ H ρ ∧ n + drw dr c ≤ R.nb ∧ wp Φ exN c ρ Qd Ed ∧
  ∀ d v F' H', Qd d → Nxt R (n + drw dr c) σ ρ F H F' H' → rl H F' H' v d → Q v H'
/-- a test's -/
def TTx (R : RT) (Ed : Nat → Prop) (c : C) : TT := fun σ H Q => ∃ n F ρ Qd, EnvOk R n F σ H ρ ∧ n + drw dr c ≤ R.nb ∧ wp Φ exN c ρ Qd Ed ∧
  ∀ d F' H', Qd d → Nxt R (n + drw dr c) σ ρ F H F' H' → ∃ k, d = .B k ∧ Q k H'
/-- an argument list's -/
def RAx (rl : V → D → Prop) : List V → List D → Prop
  | [], [] => True
  | v :: vs, d :: ds => rl v d ∧ RAx rl vs ds
  | _, _ => False
def TAx (R : RT) (rl : Rl) (Ed : Nat → Prop) (c : C) : TA := fun σ H Q => ∃ n F ρ Qd, EnvOk R n F σ H ρ ∧ n + drw dr c ≤ R.nb ∧ wp Φ exN c ρ Qd Ed ∧
  ∀ ds vs F' H', Qd (.args ds) → Nxt R (n + drw dr c) σ ρ F H F' H' → RAx (rl H F' H') vs ds → (∀ l, lenC c = some l → ds.length = l) → Q vs H'
end
section
variable {R : RT} {F F' F1 F2 : Addr → Prop} {H H' H1 H2 : Hp} {σ : St} {ρ : Ev} {n m : Nat}
theorem RAx.ra : ∀ {vs : List V} {ds : List D}, RAx (RD R F H) vs ds → RA R F H vs ds
  | [], [], _ => trivial
  | v :: vs, d :: ds, ⟨a, b⟩ => ⟨a, RAx.ra b⟩
  | [], _ :: _, h => h.elim
  | _ :: _, [], h => h.elim
theorem RAx.of : ∀ {vs : List V} {ds : List D}, RA R F H vs ds → RAx (RD R F H) vs ds
  | [], [], _ => trivial
  | v :: vs, d :: ds, ⟨a, b⟩ => ⟨a, RAx.of b⟩
  | [], _ :: _, h => h.elim
  | _ :: _, [], h => h.elim
theorem RAx.imp {rl rl' : V → D → Prop} (h : ∀ v d, rl v d → rl' v d) : ∀ {vs : List V} {ds : List D}, RAx rl vs ds → RAx rl' vs ds
  | [], [], _ => trivial
  | v :: vs, d :: ds, ⟨a, b⟩ => ⟨h _ _ a, RAx.imp h b⟩
  | [], _ :: _, h => h.elim
  | _ :: _, [], h => h.elim
theorem RAx.append {rl : V → D → Prop} : ∀ {vs ws : List V} {ds es : List D}, RAx rl vs ds → RAx rl ws es → RAx rl (vs ++ ws) (ds ++ es)
  | [], _, [], _, _, h => h
  | v :: vs, _, d :: ds, _, ⟨a, b⟩, h => ⟨a, RAx.append b h⟩
  | [], _, _ :: _, _, h, _ => h.elim
  | _ :: _, _, [], _, h, _ => h.elim
theorem RAx.length {rl : V → D → Prop} : ∀ {vs : List V} {ds : List D}, RAx rl vs ds → vs.length = ds.length
  | [], [], _ => rfl
  | v :: vs, d :: ds, ⟨a, b⟩ => congrArg (· + 1) b.length
  | [], _ :: _, h => h.elim
  | _ :: _, [], h => h.elim
/-- a new list is frozen -/
theorem RN.freeze {n0 : Nat} (e0 : EnvOk R n0 F σ H ρ) {v : V} {d : D} (x : Nxt R n σ ρ F H F' H') (r : RN R H F' H' v d) : ∃ F2, Nxt R n σ ρ F H F2 H' ∧ RD R F2 H' v d := by
  rcases r with ⟨r, _⟩ | ⟨a, vs, ps, h1, h2, h3, h4, h5, h6⟩
  · exact ⟨F', x, r⟩
  · subst h1 h2
    refine ⟨fun b => F' b ∨ b = a, ⟨x.env.freeze (by rw [h4]; exact fun z => nomatch z) (notS_of e0.st h3) (e0.h0 h3) (e0.ownH h3), x.ext, fun b hb => .inl (x.sub b hb), fun b hb => hb.elim (x.nw b) fun z => .inr (z ▸ h3)⟩, ?_⟩
    exact .lst h4 (.inr rfl) (h6.mono (fun _ _ q _ => q) fun _ h => .inl h)
theorem RN.back {v : V} {d : D} (e0 : EnvOk R n F σ H ρ) (x : Ext R.sa H H1) (st : StOk R.sa m H2) (y : Ext R.sa H1 H2) (st1 : StOk R.sa m H1) (r : RN R H1 F' H2 v d) : RN R H F' H2 v d := by
  rcases r with r | ⟨a, vs, ps, h1, h2, h3, h4⟩
  · exact .inl r
  · exact .inr ⟨a, vs, ps, h1, h2, x.fresh st1 h3, h4⟩
end

section
variable {Φ : Nat → List D → (D → Prop) → (Nat → Prop) → Prop} {exN : Nat → Str} {dr : Nat → Nat}
variable {X : Cx} {R : RT} {z : Pz} {Ed : Nat → Prop} {e l r : Expr} {a b c : C} {pos : Pos}
theorem TE.n2d (h : PE X e (TEx Φ exN dr R (rlN R) Ed c)) : PE X e (TEx Φ exN dr R (rlD R) Ed c) := PEw h fun σ H Q ⟨n, F, ρ, Qd, E, hn, hw, k⟩ =>
  ⟨n, F, ρ, Qd, E, hn, hw, fun d v F' H' q x r => let ⟨F2, x2, r2⟩ := RN.freeze E x r; k d v F2 H' q x2 r2⟩
theorem TE.d2b (h : PE X e (TEx Φ exN dr R (rlD R) Ed c)) : PE X e (TEx Φ exN dr R (rlB R) Ed c) := PEw h fun σ H Q ⟨n, F, ρ, Qd, E, hn, hw, k⟩ =>
  ⟨n, F, ρ, Qd, E, hn, hw, fun d v F' H' q x r => k d v F' H' q x (.inl r)⟩
/-- a value that is a bool, as a test -/
theorem TE.test (h : PE X e (TEx Φ exN dr R (rlD R) Ed c)) (he : ∀ whole, isTrue e X.env whole = (do let v ← whole; standAt e.pos; holding [v] (truthy v))) : PT X e (TTx Φ exN dr R Ed c) :=
  PTw (pt_val h he) fun σ H Q ⟨n, F, ρ, Qd, E, hn, hw, k⟩ => ⟨n, F, ρ, Qd, E, hn, hw, fun d v F' H' q x r => by
    obtain ⟨b, e, q2⟩ := k d F' H' q x
    subst e
    exact ⟨b, RB.bool (.inl r), q2⟩⟩

/-! ### names, constants -/
theorem nd_var {i : Nat} {x : Str} (hN : X.N[i]? = some x) (hv : Vis X.env.scope x) (hd : (x == ("__debug__" : Str)) = false) (hcd : (x == ("__classdict__" : Str)) = false) : PE X (.Name x pos) (TEx Φ exN dr R (rlD R) Ed (.var i)) :=
  PEw (pe_var hN hv hd hcd) fun σ H Q ⟨n, F, ρ, Qd, E, hn, hw, k⟩ => by
    simp only [wp, getV] at hw
    split at hw
    · rename_i d hd
      obtain ⟨v, h1, h2⟩ := E.slot i _ hd
      exact ⟨v, h1, k d v F H hw (.refl (by simpa [drw] using E)) h2⟩
    · exact hw.elim
theorem nd_bvar {i : Nat} {x : Str} (hN : X.N[i]? = some x) (hv : Vis X.env.scope x) (hd : (x == ("__debug__" : Str)) = false) (hcd : (x == ("__classdict__" : Str)) = false) : PE X (.Name x pos) (TEx Φ exN dr R (rlB R) Ed (.bvar i)) :=
  PEw (pe_var hN hv hd hcd) fun σ H Q ⟨n, F, ρ, Qd, E, hn, hw, k⟩ => by
    simp only [wp, getB] at hw
    split at hw
    · rename_i d hd
      obtain ⟨v, h1, h2⟩ := E.slot i _ hd
      exact ⟨v, h1, k d v F H hw (.refl (by simpa [drw] using E)) (.inl h2)⟩
    · rename_i ps hd
      obtain ⟨a, vs, h1, h2, h3, h4, h5⟩ := E.slot i _ hd
      exact ⟨_, h1, k _ _ F H hw (.refl (by simpa [drw] using E)) (.inr ⟨a, vs, ps, rfl, rfl, h2, E.s0.notS h5, h3⟩)⟩
    · exact hw.elim
theorem nd_const {v : V} {p : PyData} (h : PE X e (tC v)) (hr : ∀ F H, Rp R.K F H v p) (hc : drw dr c = 0) (hp : ∀ ρ Q E, wp Φ exN c ρ Q E = Q (.py p)) (hl : ∀ ps, p ≠ .list ps) : PE X e (TEx Φ exN dr R (rlN R) Ed c) :=
  PEw h fun σ H Q ⟨n, F, ρ, Qd, E, hn, hw, k⟩ => by
    rw [hp] at hw
    refine k _ v F H hw (.refl (by rw [hc]; exact E)) (.inl ⟨hr F H, fun ps q => ?_⟩)
    cases q
    exact hl ps rfl
theorem nd_fnv {x : Str} {k : Nat} (hg : Gl X x) (hm : X.mg x = some (.ref (R.fa k))) (hd : (x == ("__debug__" : Str)) = false) : PE X (.Name x pos) (TEx Φ exN dr R (rlD R) Ed (.fnv k)) :=
  PEw (pe_glob (v := .ref (R.fa k)) hg hm rfl hd) fun σ H Q ⟨n, F, ρ, Qd, E, hn, hw, kk⟩ => kk (.fn k) _ F H (by simpa [wp] using hw) (.refl (by simpa [drw] using E)) rfl

/-! ### two operands -/
/-- the one, then the other, both read as B -/
theorem two {σ : St} {H : Hp} {n : Nat} {F : Addr → Prop} {ρ : Ev} {Kd : D → D → Prop} {Q : V → V → Hp → Prop} (E : EnvOk R n F σ H ρ) (hn : n + (drw dr a + drw dr b) ≤ R.nb) (hw : wp Φ exN a ρ (fun x => wp Φ exN b ρ (fun y => Kd x y) Ed) Ed)
    (k : ∀ d1 d2 v1 v2 F2 H2, Kd d1 d2 → Nxt R (n + (drw dr a + drw dr b)) σ ρ F H F2 H2 → RB R F2 H2 v1 d1 → RB R F2 H2 v2 d2 → Q v1 v2 H2) :
    TEx Φ exN dr R (rlB R) Ed a σ H fun x H1 => TEx Φ exN dr R (rlB R) Ed b σ H1 fun y H2 => Q x y H2 := by
  refine ⟨n, F, ρ, _, E, by omega, hw, fun d v F1 H1 q1 x1 r1 => ?_⟩
  refine ⟨n + drw dr a, F1, ρ, _, x1.env, by omega, q1, fun d2 y F2 H2 q2 x2 r2 => ?_⟩
  exact k d d2 v y F2 H2 q2 ((x1.trans x2).mono (by omega)) (RB.mono x1.env x2.ext x2.sub r1) r2
theorem nd_bin (hK : X.K = R.K) {op : BO} (ha : PE X l (TEx Φ exN dr R (rlB R) Ed a)) (hb : PE X r (TEx Φ exN dr R (rlB R) Ed b)) : PE X (.BinOp l (opM op) r pos) (TEx Φ exN dr R (rlN R) Ed (.bin op a b)) :=
  PEw (pe_op (op_bin op) ha hb) fun σ H Q ⟨n, F, ρ, Qd, E, hn, hw, k⟩ => by
    simp only [wp] at hw
    simp only [drw] at hn k
    refine two E hn hw fun d1 d2 v1 v2 F2 H2 q x r1 r2 => ?_
    rw [hK]
    refine bin_ok x.env r1 r2 q fun d' v F' H' q' x' r' => k d' v F' H' q' (x.trans x') ?_
    exact RN.back E x.ext x'.env.st x'.ext x.env.st r'
theorem nd_neg (ha : PE X l (TEx Φ exN dr R (rlD R) Ed a)) : PE X (.UnaryOp .USub l pos) (TEx Φ exN dr R (rlN R) Ed (.neg a)) :=
  PEw (pe_un un_neg ha) fun σ H Q ⟨n, F, ρ, Qd, E, hn, hw, k⟩ => by
    simp only [wp] at hw
    simp only [drw] at hn k
    refine ⟨n, F, ρ, _, E, hn, hw, fun d v F1 H1 q1 x1 r1 => ?_⟩
    split at q1
    · cases (RB.int (.inl r1))
      exact ⟨_, rfl, k _ _ _ _ q1 x1 .of_int⟩
    · exact q1.elim
theorem nd_cmp (hK : X.K = R.K) {j : Nat} (hr : Room j X.A) {op : CmpOp} (ha : PE X l (TEx Φ exN dr R (rlB R) Ed a)) (hb : PE X r (TEx Φ exN dr R (rlB R) Ed b)) (hm : behindInMarks op r = false) :
    PE X (.Compare l [op] [r] pos) (TEx Φ exN dr R (rlN R) Ed (.cmp op a b)) :=
  PEw (pe_cmpR (op_cmp hr op) ha hb hm) fun σ H Q ⟨n, F, ρ, Qd, E, hn, hw, k⟩ => by
    simp only [wp] at hw
    simp only [drw] at hn k
    refine two E hn hw fun d1 d2 v1 v2 F2 H2 q x r1 r2 => ?_
    rw [hK]
    exact cmp_ok x.env r1 r2 q fun b q' => k _ _ _ _ q' x .of_bool
theorem nd_cmpT (hK : X.K = R.K) {j : Nat} (hr : Room j X.A) {op : CmpOp} (ha : PE X l (TEx Φ exN dr R (rlB R) Ed a)) (hb : PE X r (TEx Φ exN dr R (rlB R) Ed b)) (hm : behindInMarks op r = false) :
    PT X (.Compare l [op] [r] pos) (TTx Φ exN dr R Ed (.cmp op a b)) :=
  PTw (pt_cmpR (op_cmp hr op) ha hb hm) fun σ H Q ⟨n, F, ρ, Qd, E, hn, hw, k⟩ => by
    simp only [wp] at hw
    simp only [drw] at hn k
    refine two E hn hw fun d1 d2 v1 v2 F2 H2 q x r1 r2 => ?_
    rw [hK]
    refine cmp_ok x.env r1 r2 q fun b q' => ?_
    obtain ⟨b1, e, q2⟩ := k _ _ _ q' x
    cases e
    exact ⟨_, rfl, q2⟩
theorem chain_ok (hK : X.K = R.K) {o1 o2 : CmpOp} {σ : St} {H : Hp} {n : Nat} {F : Addr → Prop} {ρ : Ev} {Qd : D → Prop} {Q : VK} (E : EnvOk R n F σ H ρ) (hn : n + drw dr (.chain o1 o2 a b c) ≤ R.nb) (hw : wp Φ exN (.chain o1 o2 a b c) ρ Qd Ed)
    (k : ∀ (kb : Bool) F' H', Qd (.B kb) → Nxt R (n + drw dr (.chain o1 o2 a b c)) σ ρ F H F' H' → Q (.bl kb) H') :
    tChain (rC X.K o1) (rC X.K o2) (TEx Φ exN dr R (rlB R) Ed a) (TEx Φ exN dr R (rlB R) Ed b) (TEx Φ exN dr R (rlB R) Ed c) σ H Q := by
  simp only [wp] at hw
  simp only [drw] at hn k
  refine two E (by omega) hw fun d1 d2 v1 v2 F2 H2 q x r1 r2 => ?_
  rw [hK]
  refine cmp_ok x.env r1 r2 q fun b q' => ⟨b, rfl, ?_⟩
  cases b with
  | false =>
    simp only [Bool.false_eq_true, if_false] at q' ⊢
    exact k _ _ _ q' (x.mono (by omega))
  | true =>
    simp only [if_true] at q' ⊢
    refine ⟨_, F2, ρ, _, x.env, by omega, q', fun d v F3 H3 q3 x3 r3 => ?_⟩
    exact cmp_ok x3.env (RB.mono x.env x3.ext x3.sub r2) r3 q3 fun b q4 => k _ _ _ q4 ((x.trans x3).mono (by omega))
theorem nd_chain (hK : X.K = R.K) {j : Nat} (hr : Room j X.A) {o1 o2 : CmpOp} {e3 : Expr} (ha : PE X l (TEx Φ exN dr R (rlB R) Ed a)) (hb : PE X r (TEx Φ exN dr R (rlB R) Ed b)) (hc : PE X e3 (TEx Φ exN dr R (rlB R) Ed c)) (hm : lastMarks [o1, o2] [r, e3] = false) :
    PE X (.Compare l [o1, o2] [r, e3] pos) (TEx Φ exN dr R (rlN R) Ed (.chain o1 o2 a b c)) :=
  PEw (pe_chain (op_cmp hr o1) (op_cmp hr o2) ha hb hc hm) fun σ H Q ⟨n, F, ρ, Qd, E, hn, hw, k⟩ => chain_ok hK E hn hw fun kb F' H' q x => k _ _ _ _ q x .of_bool
theorem nd_chainT (hK : X.K = R.K) {j : Nat} (hr : Room j X.A) {o1 o2 : CmpOp} {e3 : Expr} (ha : PE X l (TEx Φ exN dr R (rlB R) Ed a)) (hb : PE X r (TEx Φ exN dr R (rlB R) Ed b)) (hc : PE X e3 (TEx Φ exN dr R (rlB R) Ed c)) (hm : lastMarks [o1, o2] [r, e3] = false) :
    PT X (.Compare l [o1, o2] [r, e3] pos) (TTx Φ exN dr R Ed (.chain o1 o2 a b c)) :=
  PTw (pt_chain (op_cmp hr o1) (op_cmp hr o2) ha hb hc hm) fun σ H Q ⟨n, F, ρ, Qd, E, hn, hw, k⟩ => chain_ok hK E hn hw fun kb F' H' q x => by
    obtain ⟨b1, e, q2⟩ := k _ _ _ q x
    cases e
    exact ⟨_, rfl, q2⟩

/-! ### and, or, not, if -/
theorem andV_ok {σ : St} {H : Hp} {Q : VK} {rl : Rl} (hrl : ∀ b H F' H', rl H F' H' (.bl b) (.B b)) (hback : ∀ {n m : Nat} {F : Addr → Prop} {H H1 H2 : Hp} {ρ : Ev} {F' : Addr → Prop} {v d}, EnvOk R n F σ H ρ → Ext R.sa H H1 → StOk R.sa m H1 → StOk R.sa m H2 → Ext R.sa H1 H2 → rl H1 F' H2 v d → rl H F' H2 v d)
    (h : TEx Φ exN dr R rl Ed (.and a b) σ H Q) : tAndV (TEx Φ exN dr R (rlD R) Ed a) (TEx Φ exN dr R rl Ed b) σ H Q := by
  obtain ⟨n, F, ρ, Qd, E, hn, hw, k⟩ := h
  simp only [wp] at hw
  simp only [drw] at hn k
  refine ⟨n, F, ρ, _, E, by omega, hw, fun d v F1 H1 q1 x1 r1 => ?_⟩
  split at q1
  · rename_i kb
    refine ⟨kb, RB.bool (.inl r1), ?_⟩
    cases kb with
    | false =>
      simp only [Bool.false_eq_true, if_false] at q1 ⊢
      exact k _ _ _ _ q1 (x1.mono (by omega)) (hrl _ _ _ _)
    | true =>
      simp only [if_true] at q1 ⊢
      refine ⟨_, F1, ρ, _, x1.env, by omega, q1, fun d v F3 H3 q3 x3 r3 => k _ _ _ _ q3 ((x1.trans x3).mono (by omega)) (hback E x1.ext (x1.env.st.mono (Nat.le_add_right _ (drw dr b))) x3.env.st x3.ext r3)⟩
  · exact q1.elim
theorem orV_ok {σ : St} {H : Hp} {Q : VK} {rl : Rl} (hrl : ∀ b H F' H', rl H F' H' (.bl b) (.B b)) (hback : ∀ {n m : Nat} {F : Addr → Prop} {H H1 H2 : Hp} {ρ : Ev} {F' : Addr → Prop} {v d}, EnvOk R n F σ H ρ → Ext R.sa H H1 → StOk R.sa m H1 → StOk R.sa m H2 → Ext R.sa H1 H2 → rl H1 F' H2 v d → rl H F' H2 v d)
    (h : TEx Φ exN dr R rl Ed (.or a b) σ H Q) : tOrV (TEx Φ exN dr R (rlD R) Ed a) (TEx Φ exN dr R rl Ed b) σ H Q := by
  obtain ⟨n, F, ρ, Qd, E, hn, hw, k⟩ := h
  simp only [wp] at hw
  simp only [drw] at hn k
  refine ⟨n, F, ρ, _, E, by omega, hw, fun d v F1 H1 q1 x1 r1 => ?_⟩
  split at q1
  · rename_i kb
    refine ⟨kb, RB.bool (.inl r1), ?_⟩
    cases kb with
    | true =>
      simp only [if_true] at q1 ⊢
      exact k _ _ _ _ q1 (x1.mono (by omega)) (hrl _ _ _ _)
    | false =>
      simp only [Bool.false_eq_true, if_false] at q1 ⊢
      refine ⟨_, F1, ρ, _, x1.env, by omega, q1, fun d v F3 H3 q3 x3 r3 => k _ _ _ _ q3 ((x1.trans x3).mono (by omega)) (hback E x1.ext (x1.env.st.mono (Nat.le_add_right _ (drw dr b))) x3.env.st x3.ext r3)⟩
  · exact q1.elim
theorem nd_and {rest : List Expr} (ha : PE X l (TEx Φ exN dr R (rlD R) Ed a)) (hb : PE X (.BoolOp .And (r :: rest) pos) (TEx Φ exN dr R (rlD R) Ed b)) : PE X (.BoolOp .And (l :: r :: rest) pos) (TEx Φ exN dr R (rlD R) Ed (.and a b)) :=
  PEw (pe_and ha hb) fun σ H Q h => andV_ok (rl := rlD R) (fun b _ _ _ => .bl b) (fun _ _ _ _ _ h => h) h
theorem nd_or {rest : List Expr} (ha : PE X l (TEx Φ exN dr R (rlD R) Ed a)) (hb : PE X (.BoolOp .Or (r :: rest) pos) (TEx Φ exN dr R (rlD R) Ed b)) : PE X (.BoolOp .Or (l :: r :: rest) pos) (TEx Φ exN dr R (rlD R) Ed (.or a b)) :=
  PEw (pe_or ha hb) fun σ H Q h => orV_ok (rl := rlD R) (fun b _ _ _ => .bl b) (fun _ _ _ _ _ h => h) h
theorem nd_not (ha : PE X l (TEx Φ exN dr R (rlD R) Ed a)) : PE X (.UnaryOp .Not l pos) (TEx Φ exN dr R (rlN R) Ed (.not a)) :=
  PEw (pe_not ha) fun σ H Q ⟨n, F, ρ, Qd, E, hn, hw, k⟩ => by
    simp only [wp] at hw
    simp only [drw] at hn k
    refine ⟨n, F, ρ, _, E, hn, hw, fun d v F1 H1 q1 x1 r1 => ?_⟩
    split at q1
    · exact ⟨_, RB.bool (.inl r1), k _ _ _ _ q1 x1 .of_bool⟩
    · exact q1.elim
theorem nd_andT {rest : List Expr} (ha : PT X l (TTx Φ exN dr R Ed a)) (hb : PW X (.BoolOp .And (r :: rest) pos) (TTx Φ exN dr R Ed b)) : PW X (.BoolOp .And (l :: r :: rest) pos) (TTx Φ exN dr R Ed (.and a b)) :=
  PWw (pw_and ha hb) fun σ H Q ⟨n, F, ρ, Qd, E, hn, hw, k⟩ => by
    simp only [wp] at hw
    simp only [drw] at hn k
    refine ⟨n, F, ρ, _, E, by omega, hw, fun d F1 H1 q1 x1 => ?_⟩
    split at q1
    · rename_i kb
      refine ⟨kb, rfl, ?_⟩
      cases kb with
      | false =>
        simp only [Bool.false_eq_true, if_false] at q1 ⊢
        obtain ⟨b', e, q⟩ := k _ _ _ q1 (x1.mono (by omega))
        cases e
        exact q
      | true =>
        simp only [if_true] at q1 ⊢
        exact ⟨_, F1, ρ, _, x1.env, by omega, q1, fun d F3 H3 q3 x3 => k _ _ _ q3 ((x1.trans x3).mono (by omega))⟩
    · exact q1.elim
theorem nd_orT {rest : List Expr} (ha : PT X l (TTx Φ exN dr R Ed a)) (hb : PW X (.BoolOp .Or (r :: rest) pos) (TTx Φ exN dr R Ed b)) : PW X (.BoolOp .Or (l :: r :: rest) pos) (TTx Φ exN dr R Ed (.or a b)) :=
  PWw (pw_or ha hb) fun σ H Q ⟨n, F, ρ, Qd, E, hn, hw, k⟩ => by
    simp only [wp] at hw
    simp only [drw] at hn k
    refine ⟨n, F, ρ, _, E, by omega, hw, fun d F1 H1 q1 x1 => ?_⟩
    split at q1
    · rename_i kb
      refine ⟨kb, rfl, ?_⟩
      cases kb with
      | true =>
        simp only [if_true] at q1 ⊢
        obtain ⟨b', e, q⟩ := k _ _ _ q1 (x1.mono (by omega))
        cases e
        exact q
      | false =>
        simp only [Bool.false_eq_true, if_false] at q1 ⊢
        exact ⟨_, F1, ρ, _, x1.env, by omega, q1, fun d F3 H3 q3 x3 => k _ _ _ q3 ((x1.trans x3).mono (by omega))⟩
    · exact q1.elim
theorem nd_notT (ha : PT X l (TTx Φ exN dr R Ed a)) : PT X (.UnaryOp .Not l pos) (TTx Φ exN dr R Ed (.not a)) :=
  PTw (pt_not ha) fun σ H Q ⟨n, F, ρ, Qd, E, hn, hw, k⟩ => by
    simp only [wp] at hw
    simp only [drw] at hn k
    refine ⟨n, F, ρ, _, E, hn, hw, fun d F1 H1 q1 x1 => ?_⟩
    split at q1
    · obtain ⟨b', e, q⟩ := k _ _ _ q1 x1
      cases e
      exact ⟨_, rfl, q⟩
    · exact q1.elim
theorem nd_ite {t : C} {et : Expr} (ht : PT X et (TTx Φ exN dr R Ed t)) (ha : PE X l (TEx Φ exN dr R (rlD R) Ed a)) (hb : PE X r (TEx Φ exN dr R (rlD R) Ed b)) : PE X (.IfExp et l r pos) (TEx Φ exN dr R (rlD R) Ed (.ite t a b)) :=
  PEw (pe_ifExp ht ha hb) fun σ H Q ⟨n, F, ρ, Qd, E, hn, hw, k⟩ => by
    simp only [wp] at hw
    simp only [drw] at hn k
    refine ⟨n, F, ρ, _, E, by omega, hw, fun d F1 H1 q1 x1 => ?_⟩
    split at q1
    · rename_i kb
      refine ⟨kb, rfl, ?_⟩
      cases kb with
      | true =>
        simp only [if_true] at q1 ⊢
        exact ⟨_, F1, ρ, _, x1.env, by omega, q1, fun d v F3 H3 q3 x3 r3 => k _ _ _ _ q3 ((x1.trans x3).mono (by omega)) r3⟩
      | false =>
        simp only [Bool.false_eq_true, if_false] at q1 ⊢
        exact ⟨_, F1, ρ, _, x1.env, by omega, q1, fun d v F3 H3 q3 x3 r3 => k _ _ _ _ q3 ((x1.trans x3).mono (by omega)) r3⟩
    · exact q1.elim

/-! ### items, slices -/
theorem nd_ix (hK : X.K = R.K) (ha : PE X l (TEx Φ exN dr R (rlB R) Ed a)) (hb : PE X r (TEx Φ exN dr R (rlB R) Ed b)) (hs : PlainIx r) : PE X (.Subscript l r pos) (TEx Φ exN dr R (rlD R) Ed (.ix a b)) :=
  PEw (pe_ix ix_seq ha hb hs) fun σ H Q ⟨n, F, ρ, Qd, E, hn, hw, k⟩ => by
    simp only [wp] at hw
    simp only [drw] at hn k
    refine two E hn hw fun d1 d2 v1 v2 F2 H2 q x r1 r2 => ?_
    rw [hK]
    exact ix_ok x.env r1 r2 q fun p v q' r' => k _ _ _ _ q' x r'
/-- a slice's part -/
def TOx (Φ : Nat → List D → (D → Prop) → (Nat → Prop) → Prop) (exN : Nat → Str) (dr : Nat → Nat) (R : RT) (Ed : Nat → Prop) (c : C) : TO := fun σ H Q => ∃ n F ρ Qd, EnvOk R n F σ H ρ ∧ n + drw dr c ≤ R.nb ∧ wp Φ exN c ρ (fun d => partD d Qd) Ed ∧
  ∀ o F' H', Qd o → Nxt R (n + drw dr c) σ ρ F H F' H' → Q o H'
theorem nd_part0 : PO X none (TOx Φ exN dr R Ed .nil) := ⟨fun pins s σ H Q I ⟨n, F, ρ, Qd, E, hn, hw, k⟩ => po_none.run pins s σ H Q I (k none F H (by simpa [wp, partD] using hw) (.refl (by simpa [drw] using E)))⟩
theorem nd_part1 (ha : PE X e (TEx Φ exN dr R (rlD R) Ed a)) : PO X (some e) (TOx Φ exN dr R Ed a) := ⟨fun pins s σ H Q I ⟨n, F, ρ, Qd, E, hn, hw, k⟩ => (po_some ha).run pins s σ H Q I ⟨n, F, ρ, _, E, hn, hw, fun d v F1 H1 q1 x1 r1 => by
  unfold partD at q1
  split at q1
  · cases (RB.int (.inl r1))
    exact ⟨_, rfl, k _ _ _ q1 x1⟩
  · exact r1.elim
  · exact q1.elim⟩⟩
theorem nd_slc (hK : X.K = R.K) {lo hi : Option Expr} {p2 : Pos} (ha : PE X l (TEx Φ exN dr R (rlB R) Ed a)) (hb : PO X lo (TOx Φ exN dr R Ed b)) (hc : PO X hi (TOx Φ exN dr R Ed c)) : PE X (.Subscript l (.Slice lo hi none p2) pos) (TEx Φ exN dr R (rlN R) Ed (.slc a b c)) :=
  PEw (pe_slice sl_any ha hb hc) fun σ H Q ⟨n, F, ρ, Qd, E, hn, hw, k⟩ => by
    simp only [wp] at hw
    simp only [drw] at hn k
    refine ⟨n, F, ρ, _, E, by omega, hw, fun d v F1 H1 q1 x1 r1 => ?_⟩
    refine ⟨_, F1, ρ, _, x1.env, by omega, q1, fun o F2 H2 q2 x2 => ?_⟩
    refine ⟨_, F2, ρ, _, x2.env, by omega, q2, fun o3 F3 H3 q3 x3 => ?_⟩
    rw [hK]
    have x13 := (x1.trans x2).trans x3
    refine slc_ok x3.env (RB.mono x2.env x3.ext x3.sub (RB.mono x1.env x2.ext x2.sub r1)) q3 fun d' v F' H' q' x' r' => k d' v F' H' q' ((x13.trans x').mono (by omega)) ?_
    exact RN.back E x13.ext x'.env.st x'.ext x3.env.st r'
theorem cut_ints (ns : List Int) (lo hi : Option Int) : ∃ ms : List Int, cutV (ns.map V.int) lo hi = ms.map V.int ∧ ms.length ≤ ns.length ∧ ∀ z ∈ ms, z ∈ ns := by
  unfold cutV
  rw [← List.map_drop, ← List.map_take]
  refine ⟨_, rfl, ?_, fun z hz => List.mem_of_mem_drop (List.mem_of_mem_take hz)⟩
  rw [List.length_take, List.length_drop]
  omega
theorem rp_ints {K : PySem.W.Frag} {F : Addr → Prop} {H : Hp} : ∀ ns : List Int, RpAll K F H (ns.map V.int) (ns.map PyData.int)
  | [] => .nil
  | n :: ns => .cons (.int n) (rp_ints ns)
/-- script[:63] -/
theorem nd_scr {i j : Nat} {x : Str} {p p2 p3 : Pos} (hK : X.K = R.K) (hN : X.N[i]? = some x) (hv : Vis X.env.scope x) (hd : (x == ("__debug__" : Str)) = false) (hcd : (x == ("__classdict__" : Str)) = false) :
    PE X (.Subscript (.Name x p) (.Slice none (some (.Constant (.int 63) j p2)) none p3) pos) (TEx Φ exN dr R (rlN R) Ed (.scr i)) :=
  PEw (pe_slice sl_list (pe_var hN hv hd hcd) po_none (po_some pe_int)) fun σ H Q ⟨n, F, ρ, Qd, E, hn, hw, k⟩ => by
    simp only [wp, getV] at hw
    simp only [drw, Nat.add_zero] at hn k
    split at hw
    · rename_i d hd
      obtain ⟨v, h1, h2⟩ := E.slot i _ hd
      split at hw
      · obtain ⟨a, ns, e1, e2, e3, e4⟩ := h2
        subst e1
        refine ⟨_, h1, ⟨63, rfl, a, _, rfl, by rw [hK]; exact e2.1, fun q hq => ?_⟩⟩
        obtain ⟨ms, c1, c2, c3⟩ := cut_ints ns none (some 63)
        rw [c1]
        exact k _ _ F _ (hw ms (Nat.le_trans c2 e3) fun z hz => e4 z (c3 z hz)) (Nxt.upd E hq) (E.newL hq (rp_ints ms))
      · exact hw.elim
    · exact hw.elim
end
end Y

/-! part Y5 -/
set_option Elab.async false
set_option linter.all false
set_option maxRecDepth 100000
set_option maxHeartbeats 1000000
/-! Y5: argument lists, displays, calls of defs and of built-ins. -/
namespace Y
open PySem PySem.Spec
open PyProof.Rows hiding St
open L2
/-! ### stars -/
def isStar : Expr → Bool
  | .Starred _ _ => true
  | _ => false
theorem each_plain {e : Expr} {es : List Expr} {env : Env} (h : isStar e = false) : starEach (e :: es) env = (false, eval e env) :: starEach es env := by
  cases e <;> first | rfl | cases h
theorem none_star {env : Env} {pos : Pos} : ∀ {es : List Expr}, es.all (fun e => !isStar e) = true → (backTo pos (starEach es env)).any (·.1) = false
  | [], _ => rfl
  | e :: es, h => by
    rw [List.all_cons, Bool.and_eq_true, Bool.not_eq_true'] at h
    rw [each_plain h.1]
    show (false || (backTo pos (starEach es env)).any (·.1)) = false
    rw [none_star h.2]
    rfl
section
variable {Φ : Nat → List D → (D → Prop) → (Nat → Prop) → Prop} {exN : Nat → Str} {dr : Nat → Nat}
variable {X : Cx} {R : RT} {z : Pz} {Ed : Nat → Prop} {e l r : Expr} {es : List Expr} {a b c : C} {pos : Pos} {rl : Rl}
/-- what is said of a value stays said -/
def RlOk (R : RT) (rl : Rl) : Prop := ∀ {n : Nat} {σ : St} {ρ : Ev} {F F' : Addr → Prop} {H H' Ha Hb : Hp} {v : V} {d : D}, EnvOk R n F σ H ρ → Ext R.sa H H' → (∀ a, F a → F' a) → rl Ha F H v d → rl Hb F' H' v d
theorem rlD_ok : RlOk R (rlD R) := fun e x f h => RD.mono (e.keep x) f h
theorem rlB_ok : RlOk R (rlB R) := fun e x f h => RB.mono e x f h
theorem nd_anil : PA X [] (TAx Φ exN dr R rl Ed .nil) := PAw pa_nil fun σ H Q ⟨n, F, ρ, Qd, E, hn, hw, k⟩ => k [] [] F H (by simpa [wp] using hw) (.refl (by simpa [drw] using E)) trivial (fun l q => by simpa [lenC] using q)
theorem nd_acons (hrl : RlOk R rl) (hs : isStar e = false) (ha : PE X e (TEx Φ exN dr R rl Ed a)) (hb : PA X es (TAx Φ exN dr R rl Ed b)) : PA X (e :: es) (TAx Φ exN dr R rl Ed (.cons a b)) :=
  PAw (pa_cons ha hb (each_plain hs)) fun σ H Q ⟨n, F, ρ, Qd, E, hn, hw, k⟩ => by
    simp only [wp] at hw
    simp only [drw] at hn k
    refine ⟨n, F, ρ, _, E, by omega, hw, fun d v F1 H1 q1 x1 r1 => ?_⟩
    refine ⟨_, F1, ρ, _, x1.env, by omega, q1, fun ds vs F2 H2 q2 x2 r2 h2 => ?_⟩
    refine k (d :: ds) (v :: vs) F2 H2 q2 ((x1.trans x2).mono (by omega)) ⟨hrl x1.env x2.ext x2.sub r1, r2.imp fun v d h => hrl x2.env .refl (fun _ h => h) h⟩ fun l ql => ?_
    simp only [lenC] at ql
    cases q : lenC b with
    | none => rw [q] at ql; cases ql
    | some j =>
      rw [q] at ql
      simp only [Option.map_some, Option.some.injEq] at ql
      rw [List.length_cons, h2 j q, ql]
theorem nd_astar (hK : X.K = R.K) {p : Pos} (ha : PE X e (TEx Φ exN dr R (rlB R) Ed a)) (hb : PA X es (TAx Φ exN dr R (rlD R) Ed b)) : PA X (.Starred e p :: es) (TAx Φ exN dr R (rlD R) Ed (.star a b)) :=
  PAw (StX.pa_star ha hb) fun σ H Q ⟨n, F, ρ, Qd, E, hn, hw, k⟩ => by
    simp only [wp] at hw
    simp only [drw] at hn k
    refine ⟨n, F, ρ, _, E, by omega, hw, fun d v F1 H1 q1 x1 r1 => ?_⟩
    have go : ∀ (vs : List V) (ps : List PyData), itemsD d = some (ps.map D.py) → RpAll R.K F1 H1 vs ps → TAx Φ exN dr R (rlD R) Ed b σ H1 fun ys H2 => Q (vs ++ ys) H2 := fun vs ps hd hr => by
      rw [hd] at q1
      refine ⟨_, F1, ρ, _, x1.env, by omega, q1, fun ds ws F2 H2 q2 x2 r2 h2 => ?_⟩
      exact k (ps.map D.py ++ ds) (vs ++ ws) F2 H2 q2 ((x1.trans x2).mono (by omega)) (((RAx.of hr.ra).imp fun v d h => RD.mono (x1.env.keep x2.ext) x2.sub h).append r2) (fun l ql => by simp [lenC] at ql)
    cases d with
    | py p =>
      cases p with
      | list ps =>
        obtain ⟨a1, vs, rfl, h1, _, h2⟩ := RB.list x1.env r1
        exact ⟨a1, vs, rfl, .inr (SqL.of h1), go vs ps rfl h2⟩
      | tuple ps =>
        obtain ⟨a1, vs, rfl, h1, h2⟩ := RB.tuple r1
        exact ⟨a1, vs, rfl, .inl (hK ▸ h1), go vs ps rfl h2⟩
      | _ => simp [itemsD] at q1
    | args ds => rcases r1 with r1 | ⟨_, _, _, h, _⟩ <;> first | exact r1.elim | cases h
    | _ => simp [itemsD] at q1
/-! ### displays -/
theorem nd_tup {kk : Nat} (ha : PA X es (TAx Φ exN dr R (rlD R) Ed a)) : PE X (.Tuple es kk pos) (TEx Φ exN dr R (rlN R) Ed (.tup a)) :=
  PEw (pe_tup ha) fun σ H Q ⟨n, F, ρ, Qd, E, hn, hw, k⟩ => by
    simp only [wp] at hw
    simp only [drw] at hn k
    refine ⟨n, F, ρ, _, E, hn, hw, fun ds vs F1 H1 q1 x1 r1 _ => ?_⟩
    obtain ⟨ps, e1, e2, q⟩ := q1
    have hr := RA.pys r1.ra e1
    refine ⟨by rw [hr.length]; exact e2, fun p hp => k _ _ F1 _ q (x1.trans (Nxt.upd x1.env hp)) ?_⟩
    exact RN.back E x1.ext (Nxt.upd x1.env hp).env.st (Nxt.upd x1.env hp (o := .tup vs)).ext x1.env.st (x1.env.newT hp hr)
theorem nd_lst (ha : PA X es (TAx Φ exN dr R (rlD R) Ed a)) : PE X (.List es pos) (TEx Φ exN dr R (rlN R) Ed (.lst a)) :=
  PEw (pe_lst ha) fun σ H Q ⟨n, F, ρ, Qd, E, hn, hw, k⟩ => by
    simp only [wp] at hw
    simp only [drw] at hn k
    refine ⟨n, F, ρ, _, E, hn, hw, fun ds vs F1 H1 q1 x1 r1 _ => ?_⟩
    obtain ⟨ps, e1, e2, q⟩ := q1
    have hr := RA.pys r1.ra e1
    refine ⟨by rw [hr.length]; exact e2, fun p hp => k _ _ F1 _ q (x1.trans (Nxt.upd x1.env hp)) ?_⟩
    exact RN.back E x1.ext (Nxt.upd x1.env hp).env.st (Nxt.upd x1.env hp (o := .lst vs)).ext x1.env.st (x1.env.newL hp hr)

/-! ### a def's promise -/
/-- behind a call -/
structure Aft (R : RT) (F : Addr → Prop) (H : Hp) (F' : Addr → Prop) (H' : Hp) : Prop where
  ext : Ext R.sa H H'
  st : StOk R.sa R.nb H'
  sub : ∀ a, F a → F' a
  fr : ∀ a, F' a → H' a ≠ none
  new : ∀ a, F' a → F a ∨ H a = none
  fs : ∀ b, F' b → NotS R.sa b
structure Bef (R : RT) (n : Nat) (F : Addr → Prop) (H : Hp) : Prop where
  st : StOk R.sa n H
  s0 : S0 R.sa H
  fs : ∀ b, F b → NotS R.sa b
  fr : ∀ a, F a → H a ≠ none
def spF (S : RS) (Φ : Nat → List D → (D → Prop) → (Nat → Prop) → Prop) (dr : Nat → Nat) (k : Nat) : Sp := fun vs H Q E => ∃ (sa : SA) (n : Nat) (F : Addr → Prop) (ds : List D) (Qd : D → Prop) (Ed : Nat → Prop),
  Bef ⟨S, sa, n + dr k, H, F⟩ n F H ∧ n + dr k ≤ BIG ∧ RA ⟨S, sa, n + dr k, H, F⟩ F H vs ds ∧ Φ k ds Qd Ed ∧
  (∀ d v F' H', Qd d → Aft ⟨S, sa, n + dr k, H, F⟩ F H F' H' → RD ⟨S, sa, n + dr k, H, F⟩ F' H' v d → Q v H') ∧
  (∀ j H', Ed j → Ext sa H H' → StOk sa (n + dr k) H' → E (.ref (S.ex j)) none H')
/-- the def k stands and keeps its promise -/
structure FHeld (S : RS) (Φ : Nat → List D → (D → Prop) → (Nat → Prop) → Prop) (dr lv : Nat → Nat) (k : Nat) : Prop where
  ex : ∃ fd ps, FnOk S.P S.w S.K S.mg S.base (L2N.CX S.P S.w) (lv k) (S.fa k) fd ps (spF S Φ dr k) ∧ Binds S.K fd ps []
  kp : PySem.W.keepIn S.K (.ref (S.fa k)) = true
theorem EnvOk.bef {n : Nat} {F : Addr → Prop} {σ : St} {H : Hp} {ρ : Ev} (E : EnvOk R n F σ H ρ) : ∀ m, Bef ⟨R.S, R.sa, m, H, F⟩ n F H := fun m =>
  ⟨E.st, E.st.s0, E.fs, E.fr⟩
/-- a caller's invariant behind a call -/
theorem EnvOk.after {n m : Nat} {F F' : Addr → Prop} {σ : St} {H H' : Hp} {ρ : Ev} (E : EnvOk R n F σ H ρ) (A : Aft ⟨R.S, R.sa, m, H, F⟩ F H F' H') : Nxt R m σ ρ F H F' H' := by
  refine ⟨⟨E.ext.trans A.ext, A.st, E.s0, A.fs, A.fr, fun a ha => ?_, E.len, fun i s hs => ?_, E.apart⟩, A.ext, A.sub, A.new⟩
  · rcases A.new a ha with h | h
    · exact E.new a h
    · exact .inr (E.h0 h)
  · have q := E.slot i s hs
    cases s with
    | sh d =>
      obtain ⟨v, h1, h2⟩ := q
      exact ⟨v, h1, h2.mono (E.keep A.ext) A.sub⟩
    | ow ps =>
      obtain ⟨a, vs, h1, h2, h3, h4, h5⟩ := q
      refine ⟨a, vs, h1, A.ext a _ h2 (E.s0.notS h5), h3.mono (E.keep A.ext) A.sub, fun z => ?_, h5⟩
      · rcases A.new a z with h | h
        · exact h4 h
        · rw [h2] at h
          cases h
theorem RD.to {R R' : RT} (h1 : R.S = R'.S) (h2 : R.sa = R'.sa) {F : Addr → Prop} {H : Hp} {v : V} {d : D} (h : RD R F H v d) : RD R' F H v d := by
  cases d with
  | py p =>
    have h : Rp R.S.K F H v p := h
    rw [h1] at h
    exact h
  | fn k =>
    have h : v = .ref (R.S.fa k) := h
    rw [h1] at h
    exact h
  | st =>
    obtain ⟨s, b, e1, e2⟩ := h
    exact ⟨s, b, h2 ▸ e1, e2⟩
  | scr =>
    obtain ⟨a, ns, e1, e2, e3⟩ := h
    exact ⟨a, ns, e1, by show FzL R'.S.K H a _; rw [← h1]; exact e2, e3⟩
  | args ds => exact h
theorem RA.to {R R' : RT} (h1 : R.S = R'.S) (h2 : R.sa = R'.sa) {F : Addr → Prop} {H : Hp} : ∀ {vs : List V} {ds : List D}, RA R F H vs ds → RA R' F H vs ds
  | [], [], _ => trivial
  | v :: vs, d :: ds, ⟨a, b⟩ => ⟨a.to h1 h2, RA.to h1 h2 b⟩
  | [], _ :: _, h => h.elim
  | _ :: _, [], h => h.elim
/-- the promise is met -/
theorem sp_met {k n : Nat} {F : Addr → Prop} {σ : St} {H : Hp} {ρ : Ev} {vs : List V} {ds : List D} {Qd : D → Prop} {Q : VK} (E : EnvOk R n F σ H ρ) (hn : n + dr k ≤ R.nb) (hB : R.nb ≤ BIG) (hr : RA R F H vs ds) (hw : Φ k ds Qd Ed)
    (kk : ∀ d v F' H', Qd d → Nxt R (n + dr k) σ ρ F H F' H' → RD R F' H' v d → Q v H') :
    spF R.S Φ dr k vs H Q (fun cls d H' => ∃ j, Ed j ∧ cls = .ref (R.ex j) ∧ d = none ∧ Ext R.sa R.H0 H' ∧ StOk R.sa R.nb H') :=
  ⟨R.sa, n, F, ds, Qd, Ed, E.bef _, Nat.le_trans hn hB, RA.to (R := R) (R' := ⟨R.S, R.sa, n + dr k, H, F⟩) rfl rfl hr, hw, fun d v F' H' q A r => kk d v F' H' q (E.after A) (RD.to (R := ⟨R.S, R.sa, n + dr k, H, F⟩) (R' := R) rfl rfl r), fun j H' q x st => ⟨j, q, rfl, rfl, E.ext.trans x, st.mono hn⟩⟩
/-- what it may raise is taken -/
theorem Wsh.passes (w : Wsh R Ed X) (hP : X.prog = R.S.P) (hW : X.w = R.S.w) : Passes (L2N.CX R.S.P R.S.w) X (fun cls d H' => ∃ j, Ed j ∧ cls = .ref (R.ex j) ∧ d = none ∧ Ext R.sa R.H0 H' ∧ StOk R.sa R.nb H') := by
  obtain ⟨W, tk, hw⟩ := w.ex
  rw [← hP, ← hW]
  exact L2N.passes_call tk fun cls d σ H ⟨j, q, e1, e2, x, st⟩ => by subst e1 e2; exact hw j σ H q x st
theorem nd_call {S : RS} {lv : Nat → Nat} {k : Nat} {x : Str} {p : Pos} (hA : At S z X) (hS : R.S = S) (w : Wsh R Ed X) (FH : FHeld S Φ dr lv k) (hl : lv k ≤ z.L) (hg : Gl X x) (hm : S.mg x = some (.ref (S.fa k))) (hd : (x == ("__debug__" : Str)) = false)
    (hs : (e :: es).all (fun e => !isStar e) = true) (ha : PA X (e :: es) (TAx Φ exN dr R (rlD R) Ed a)) : PE X (.Call (.Name x p) (e :: es) [] pos) (TEx Φ exN dr R (rlD R) Ed (.call k a)) := by
  subst hS
  obtain ⟨fd, ps, F, b⟩ := FH.ex
  rw [List.all_cons, Bool.and_eq_true, Bool.not_eq_true'] at hs
  refine PEw (pe_call (F := by rw [hA.hP, hA.hw, hA.hK, hA.hm, hA.hb]; exact F) (hA.hr.mono hl) hg (by rw [hA.hm]; exact hm) (by rw [hA.hK]; exact FH.kp) (by rw [hA.hK]; exact b) .nil (w.passes hA.hP hA.hw) ha hd (each_plain hs.1) (none_star hs.2)) fun σ H Q ⟨n, F, ρ, Qd, E, hn, hw, kk⟩ => ?_
  simp only [wp] at hw
  simp only [drw] at hn kk
  refine ⟨n, F, ρ, _, E, by omega, hw, fun ds vs F1 H1 q1 x1 r1 _ => ?_⟩
  show spF R.S Φ dr k (vs ++ []) H1 Q _
  rw [List.append_nil]
  exact sp_met x1.env (by omega) w.big r1.ra q1 fun d v F' H' q x2 r => kk d v F' H' q ((x1.trans x2).mono (by omega)) r
theorem nd_call0 {S : RS} {lv : Nat → Nat} {k : Nat} {x : Str} {p : Pos} (hA : At S z X) (hS : R.S = S) (w : Wsh R Ed X) (FH : FHeld S Φ dr lv k) (hl : lv k ≤ z.L) (hg : Gl X x) (hm : S.mg x = some (.ref (S.fa k))) (hd : (x == ("__debug__" : Str)) = false) :
    PE X (.Call (.Name x p) [] [] pos) (TEx Φ exN dr R (rlD R) Ed (.call k .nil)) := by
  subst hS
  obtain ⟨fd, ps, F, b⟩ := FH.ex
  refine PEw (pe_call0 (F := by rw [hA.hP, hA.hw, hA.hK, hA.hm, hA.hb]; exact F) (hA.hr.mono hl) hg (by rw [hA.hm]; exact hm) (by rw [hA.hK]; exact FH.kp) (by rw [hA.hK]; exact b) .nil (w.passes hA.hP hA.hw) hd) fun σ H Q ⟨n, F, ρ, Qd, E, hn, hw, kk⟩ => ?_
  simp only [wp] at hw
  simp only [drw] at hn kk
  unfold tCall tNil
  exact sp_met (vs := []) (ds := []) E (by omega) w.big trivial hw fun d v F' H' q x2 r => kk d v F' H' q (x2.mono (by omega)) r
theorem le_foldr {l : List Nat} {a : Nat} (h : a ∈ l) : a ≤ l.foldr max 0 := by
  induction l with
  | nil => cases h
  | cons b l ih =>
    rw [List.foldr_cons]
    rcases List.mem_cons.mp h with e | h
    · subst e; exact Nat.le_max_left _ _
    · exact Nat.le_trans (ih h) (Nat.le_max_right _ _)
theorem nd_callv {S : RS} {lv : Nat → Nat} {i : Nat} {fs : List Nat} {x : Str} {p : Pos} (hA : At S z X) (hS : R.S = S) (w : Wsh R Ed X) (FH : ∀ k ∈ fs, FHeld S Φ dr lv k ∧ lv k ≤ z.L) (hN : X.N[i]? = some x) (hv : Vis X.env.scope x) (hd : (x == ("__debug__" : Str)) = false) (hcd : (x == ("__classdict__" : Str)) = false)
    (hs : (e :: es).all (fun e => !isStar e) = true) (ha : PA X (e :: es) (TAx Φ exN dr R (rlD R) Ed a)) : PE X (.Call (.Name x p) (e :: es) [] pos) (TEx Φ exN dr R (rlD R) Ed (.callv i fs a)) := by
  subst hS
  rw [List.all_cons, Bool.and_eq_true, Bool.not_eq_true'] at hs
  refine ⟨fun pins s σ H Q I ⟨n, F, ρ, Qd, E, hn, hw, kk⟩ => ?_⟩
  simp only [wp, getV] at hw
  simp only [drw] at hn kk
  split at hw
  · rename_i d hd2
    split at hw
    · rename_i d k
      obtain ⟨hk, hw⟩ := hw
      obtain ⟨v, h1, h2⟩ := E.slot i _ hd2
      obtain ⟨FH, hl⟩ := FH k hk
      obtain ⟨fd, ps, Fk, b⟩ := FH.ex
      have hle : dr k ≤ (fs.map dr).foldr max 0 := le_foldr (List.mem_map_of_mem hk)
      refine (pe_callL (f := R.S.fa k) (i := i) (F := by rw [hA.hP, hA.hw, hA.hK, hA.hm, hA.hb]; exact Fk) (hA.hr.mono hl) hN hv (by rw [hA.hK]; exact FH.kp) (by rw [hA.hK]; exact b) .nil (w.passes hA.hP hA.hw) ha hd hcd (each_plain hs.1) (none_star hs.2)).run pins s σ H Q I ⟨?_, ?_⟩
      · have h2 : v = .ref (R.fa k) := h2
        rw [h1, h2]
      · refine ⟨n, F, ρ, _, E, by omega, hw, fun ds vs F1 H1 q1 x1 r1 _ => ?_⟩
        show spF R.S Φ dr k (vs ++ []) H1 Q _
        rw [List.append_nil]
        exact sp_met x1.env (by omega) w.big r1.ra q1 fun d v F' H' q x2 r => kk d v F' H' q ((x1.trans x2).mono (by omega)) r
    · exact hw.elim
  · exact hw.elim
end
end Y

/-! part Y6 -/
set_option Elab.async false
set_option linter.all false
set_option maxRecDepth 100000
set_option maxHeartbeats 1000000
/-! Y6: built-ins; what a loop walks; targets. -/
namespace Y
open PySem PySem.Spec
open PyProof.Rows hiding St
open L2
/-! ### the greatest of four ints -/
section
variable {prog : Program} {w : World} {A : Around} {E : Value → Shared → Prop} {s : Shared}
theorem args_max4 (a b c d : Value) : argsOk "max" ⟨[a, b, c, d], []⟩ := by unfold argsOk; kernel_rfl
theorem call_max_four {a b c e : Value} {Q : Value → Shared → Prop}
    (h : wpAny (model prog w) A.in1 (pyIter (.ref s.heap.objs.size)) (fun it s₂ => ∃ I fp wr n P St bt, it = .ref I ∧ Walks prog w A.in1 I fp wr n P St ∧ St 0 s₂.heap ∧ (∀ z ∈ fp, z < s₂.heap.objs.size) ∧ 0 < n ∧ CmpOf prog w A.in1 .Gt P bt ∧
      ∀ v h' tk, P (argBest bt (n - 1)) v → (∀ z o, z ∉ wr → s₂.heap.get? z = some o → h'.get? z = some o) → Q v { s₂ with heap := h', toks := tk }) E
      { s with heap := s.heap.push { cls := .type "tuple", data := .seq #[a, b, c, e] } }) :
    wpAny (model prog w) A (call (.builtin "max") [a, b, c, e]) Q E s := by
  have hnm : (toString "max" ++ toString ".loop" : String) = "max.loop" := by decide
  refine call_function_tree F.kind_max F.plain_max F.entry_max (args_max4 _ _ _ _) ?_
  show wpAny _ A.in1 (Builtin.Builtins.bindParams "max" ["key", "default"] 0 ⟨[], []⟩ >>= _) _ _ s
  refine wpAny_bind (wpAny_of_eq (show Builtin.Builtins.bindParams "max" ["key", "default"] 0 ⟨[], []⟩ = pure [none, none] from rfl) ?_)
  show wpAny _ A.in1 (newTuple [a, b, c, e] >>= _) _ _ s
  refine wpAny_bind (wpAny_newObj_type ?_)
  refine wpAny_bind (wpAny_mono h (fun it s₂ h₂ => ?_) fun _ _ z => z)
  obtain ⟨I, fp, wr, n, P, St, bt, rfl, W, hst, hfp, hn, hcmp, hQ⟩ := h₂
  refine wpAny_bind (wpAny_newObj_type ?_)
  have hSf : s₂.heap.objs.size ∉ fp := fun hm => Nat.lt_irrefl _ (hfp _ hm)
  rw [hnm]
  exact wpAny_pure ⟨plainId_quiet F.plain_max_loop _, codeAny_max_loop_first W bt hcmp s₂.heap.objs.size hSf hn (W.frame _ _ _ hst fun z _ o y => Heap.get?_push_of_some _ y) (Heap.get?_push_size _ rfl) fun v h' tk hP hk =>
    hQ v h' tk hP fun z o hbw y => hk z o hbw (Nat.ne_of_lt (Heap.lt_size y)) (Heap.get?_push_of_some _ y)⟩
theorem max_four_ints {a b c e : Int} {t u x y : Tok} {Q : Value → Shared → Prop} (hh : A.handled = none)
    (h : ∀ h' tk to, (∀ d o, s.heap.get? d = some o → h'.get? d = some o) → Q (.int (max (max (max a b) c) e) to) { s with heap := h', toks := tk }) :
    wpAny (model prog w) A (call (.builtin "max") [.int a t, .int b u, .int c x, .int e y]) Q E s := by
  let L : Array (Int × Tok) := #[(a, t), (b, u), (c, x), (e, y)]
  have hT : (s.heap.push { cls := .type "tuple", data := .seq #[.int a t, .int b u, .int c x, .int e y] }).IsTuple s.heap.objs.size (intItems L) := ⟨_, Heap.get?_push_size _ rfl, rfl, 0, by simp [L, intItems]⟩
  refine call_max_four (wpAny_pyIter_tuple hT ?_)
  have hsz : (s.heap.push { cls := .type "tuple", data := .seq #[.int a t, .int b u, .int c x, .int e y] }).objs.size = s.heap.objs.size + 1 := Heap.size_push ..
  refine ⟨_, [_, s.heap.objs.size], [_], _, _, _, _, rfl, Walks.tuple (A := A.in1) hh _ s.heap.objs.size (by rw [hsz]; exact Nat.ne_of_lt (Nat.lt_succ_self _)) (intItems L),
    ⟨⟨_, Heap.get?_push_size _ rfl, rfl, rfl⟩, hT.push _⟩, fun d hd => ?_, by simp [L, intItems], CmpOf.ints_gt (numAt L) (fun _ _ => intItems_at), fun v h' tk hP hk => ?_⟩
  · show d < ((s.heap.push _).push _).objs.size
    rw [Heap.size_push, hsz]
    rcases List.mem_cons.mp hd with rfl | hd
    · rw [hsz]; exact Nat.lt_succ_self _
    · rcases List.mem_cons.mp hd with rfl | hd
      · exact Nat.lt_succ_of_lt (Nat.lt_succ_self _)
      · cases hd
  · have hold : ∀ d o, s.heap.get? d = some o → h'.get? d = some o := fun d o z => by
      refine hk d o (fun hm => ?_) (Heap.get?_push_of_some _ (Heap.get?_push_of_some _ z))
      rcases List.mem_cons.mp hm with e1 | hm
      · have := Heap.lt_size z; rw [e1, hsz] at this; exact Nat.lt_irrefl _ (Nat.lt_of_succ_lt this)
      · cases hm
    have hv : ∃ to, v = Value.int (max (max (max a b) c) e) to := by
      have hP' : (intItems L)[argBest (fun i j => decide (numAt L i > numAt L j)) 3]? = some v := by
        have hsz2 : (intItems L).size - 1 = 3 := by simp [L, intItems]
        rw [← hsz2]; exact hP
      have n0 : numAt L 0 = a := rfl
      have n1 : numAt L 1 = b := rfl
      have n2 : numAt L 2 = c := rfl
      have n3 : numAt L 3 = e := rfl
      have g0 : (intItems L)[0]? = some (.int a t) := by simp [L, intItems]
      have g1 : (intItems L)[1]? = some (.int b u) := by simp [L, intItems]
      have g2 : (intItems L)[2]? = some (.int c x) := by simp [L, intItems]
      have g3 : (intItems L)[3]? = some (.int e y) := by simp [L, intItems]
      have key : ∀ k : Nat, argBest (fun i j => decide (numAt L i > numAt L j)) 3 = k → k < 4 → (∀ m, m < 4 → numAt L m ≤ numAt L k) → ∃ to, v = Value.int (max (max (max a b) c) e) to := by
        intro k hk hk4 hm
        rw [hk] at hP'
        have m0 := hm 0 (by decide)
        have m1 := hm 1 (by decide)
        have m2 := hm 2 (by decide)
        have m3 := hm 3 (by decide)
        rw [n0] at m0
        rw [n1] at m1
        rw [n2] at m2
        rw [n3] at m3
        match k, hk4 with
        | 0, _ =>
          rw [n0] at m0 m1 m2 m3
          rw [g0] at hP'
          exact ⟨t, by rw [← Option.some.inj hP']; congr 1; omega⟩
        | 1, _ =>
          rw [n1] at m0 m1 m2 m3
          rw [g1] at hP'
          exact ⟨u, by rw [← Option.some.inj hP']; congr 1; omega⟩
        | 2, _ =>
          rw [n2] at m0 m1 m2 m3
          rw [g2] at hP'
          exact ⟨x, by rw [← Option.some.inj hP']; congr 1; omega⟩
        | 3, _ =>
          rw [n3] at m0 m1 m2 m3
          rw [g3] at hP'
          exact ⟨y, by rw [← Option.some.inj hP']; congr 1; omega⟩
      have best : ∀ n, argBest (fun i j => decide (numAt L i > numAt L j)) n ≤ n ∧ ∀ m, m ≤ n → numAt L m ≤ numAt L (argBest (fun i j => decide (numAt L i > numAt L j)) n) := by
        intro n
        induction n with
        | zero => exact ⟨Nat.le_refl _, fun m hm => by rw [Nat.le_zero.mp hm]; exact Int.le_refl _⟩
        | succ n ih =>
          unfold argBest
          by_cases q : decide (numAt L (n + 1) > numAt L (argBest (fun i j => decide (numAt L i > numAt L j)) n)) = true
          · rw [if_pos q]
            have q := of_decide_eq_true q
            refine ⟨Nat.le_refl _, fun m hm => ?_⟩
            rcases Nat.lt_or_ge m (n + 1) with z | z
            · have := ih.2 m (by omega)
              omega
            · have : m = n + 1 := by omega
              rw [this]; exact Int.le_refl _
          · rw [if_neg q]
            have q : ¬ numAt L (n + 1) > numAt L (argBest (fun i j => decide (numAt L i > numAt L j)) n) := fun z => q (decide_eq_true z)
            refine ⟨Nat.le_succ_of_le ih.1, fun m hm => ?_⟩
            rcases Nat.lt_or_ge m (n + 1) with z | z
            · exact ih.2 m (by omega)
            · have : m = n + 1 := by omega
              rw [this]; omega
      have B := best 3
      exact key _ rfl (by omega) fun m hm => B.2 m (by omega)
    obtain ⟨to, hv⟩ := hv
    rw [hv]
    exact h h' tk to hold
end
/-! ### built-ins by their names -/
def biV : BI → Value
  | .len => .builtin "len" | .int => .type "int" | .abs => .builtin "abs" | .max => .builtin "max" | .min => .builtin "min" | .sum => .builtin "sum"
  | .all => .builtin "all" | .any => .builtin "any" | .tuple => .type "tuple" | .list => .type "list"
def biX : BI → Str
  | .len => "len" | .int => "int" | .abs => "abs" | .max => "max" | .min => "min" | .sum => "sum"
  | .all => "all" | .any => "any" | .tuple => "tuple" | .list => "list"
theorem bi_boot (b : BI) : bootBuiltins (biX b) = some (biV b) := by cases b <;> decide +kernel
theorem bi_name (b : BI) : biX b ≠ "__name__" ∧ (biX b == ("__debug__" : Str)) = false := by cases b <;> decide
theorem CallR.or {X : Cx} {f : Value} {r r' : List V → Hp → VK → Prop} (h : CallR X f r) (h' : CallR X f r') : CallR X f (fun xs H Q => r xs H Q ∨ r' xs H Q) := by
  intro pins s σ H xs us Q I rv q
  rcases q with q | q
  · exact h pins s σ H xs us Q I rv q
  · exact h' pins s σ H xs us Q I rv q
abbrev RCa := List V → Hp → VK → Prop
def r2I (f : Int → Int → Int) : RCa := fun xs H Q => ∃ i j, xs = [.int i, .int j] ∧ Q (.int (f i j)) H
def r3I (f : Int → Int → Int → Int) : RCa := fun xs H Q => ∃ i j k, xs = [.int i, .int j, .int k] ∧ Q (.int (f i j k)) H
def r4I (f : Int → Int → Int → Int → Int) : RCa := fun xs H Q => ∃ i j k l, xs = [.int i, .int j, .int k, .int l] ∧ Q (.int (f i j k l)) H
def rBi (K : PySem.W.Frag) : BI → RCa
  | .len => fun xs H Q => ∃ p ys, xs = [.ref p] ∧ (SqL K H p ys ∨ SqT K H p ys) ∧ Q (.int ys.length) H
  | .int => fun xs H Q => (∃ i, xs = [.int i] ∧ Q (.int i) H) ∨ ∃ k, xs = [.bl k] ∧ Q (.int (if k then 1 else 0)) H
  | .abs => fun xs H Q => ∃ i, xs = [.int i] ∧ Q (.int (if i < 0 then -i else i)) H
  | .max => fun xs H Q => rMax K xs H Q ∨ r2I (fun i j => max i j) xs H Q ∨ r3I (fun i j k => max (max i j) k) xs H Q ∨ r4I (fun i j k l => max (max (max i j) k) l) xs H Q
  | .min => fun xs H Q => rMin K xs H Q ∨ r2I (fun i j => min i j) xs H Q
  | .sum => rSum K
  | .all => rAll K
  | .any => rAny K
  | .tuple => fun xs H Q => ∃ p ys, xs = [.ref p] ∧ ((SqL K H p ys ∧ ∀ l, H l = none → Q (.ref l) (upd H l (.tup ys))) ∨ (SqT K H p ys ∧ Q (.ref p) H))
  | .list => fun xs H Q => ∃ p ys, xs = [.ref p] ∧ (SqL K H p ys ∨ SqT K H p ys) ∧ ∀ l, H l = none → Q (.ref l) (upd H l (.lst ys))
theorem call_max2' {X : Cx} (hc : X.calm = true) : CallR X (.builtin "max") (r2I fun i j => max i j) := fun pins s σ H xs us Q I r ⟨i, j, e, q⟩ => call_max2 hc pins s σ H xs us Q I r ⟨i, j, e, by
  have : (if j > i then j else i) = max i j := by split <;> omega
  rw [this]; exact q⟩
theorem call_min2' {X : Cx} (hc : X.calm = true) : CallR X (.builtin "min") (r2I fun i j => min i j) := fun pins s σ H xs us Q I r ⟨i, j, e, q⟩ => call_min2 hc pins s σ H xs us Q I r ⟨i, j, e, by
  have : (if j < i then j else i) = min i j := by split <;> omega
  rw [this]; exact q⟩
theorem vals3 {x y z : V} {us : List Value} (r : Vals [x, y, z] us) : ∃ u w t, us = [u, w, t] ∧ RelV x u ∧ RelV y w ∧ RelV z t := by
  cases r with
  | cons r1 r2 =>
    obtain ⟨u, w, e, h1, h2⟩ := vals2 r2
    subst e
    exact ⟨_, u, w, rfl, r1, h1, h2⟩
theorem call_max3' {X : Cx} (hc : X.calm = true) : CallR X (.builtin "max") (r3I fun i j k => max (max i j) k) := by
  intro pins s σ H xs us Q I r h
  obtain ⟨i, j, k, rfl, q⟩ := h
  obtain ⟨u, w, t, rfl, ⟨t1, rfl⟩, ⟨t2, rfl⟩, ⟨t3, rfl⟩⟩ := vals3 r
  refine max_three_ints (I.ok.hd hc) fun h' tk hk => ⟨_, H, I.kept hk, ?_, q⟩
  show RelV (.int (max (max i j) k)) _
  by_cases h1 : j > i
  · by_cases h2 : k > j
    · have e : max (max i j) k = k := by omega
      rw [if_pos h1, if_pos h2, e]; exact ⟨_, rfl⟩
    · have e : max (max i j) k = j := by omega
      rw [if_pos h1, if_neg h2, e]; exact ⟨_, rfl⟩
  · by_cases h2 : k > i
    · have e : max (max i j) k = k := by omega
      rw [if_neg h1, if_pos h2, e]; exact ⟨_, rfl⟩
    · have e : max (max i j) k = i := by omega
      rw [if_neg h1, if_neg h2, e]; exact ⟨_, rfl⟩
theorem vals4 {x y z o : V} {us : List Value} (r : Vals [x, y, z, o] us) : ∃ u w t v, us = [u, w, t, v] ∧ RelV x u ∧ RelV y w ∧ RelV z t ∧ RelV o v := by
  cases r with
  | cons r1 r2 =>
    obtain ⟨u, w, t, e, h1, h2, h3⟩ := vals3 r2
    subst e
    exact ⟨_, u, w, t, rfl, r1, h1, h2, h3⟩
theorem call_max4' {X : Cx} (hc : X.calm = true) : CallR X (.builtin "max") (r4I fun i j k l => max (max (max i j) k) l) := by
  intro pins s σ H xs us Q I r h
  obtain ⟨i, j, k, l, rfl, q⟩ := h
  obtain ⟨u, w, t, v, rfl, ⟨t1, rfl⟩, ⟨t2, rfl⟩, ⟨t3, rfl⟩, ⟨t4, rfl⟩⟩ := vals4 r
  refine max_four_ints (I.ok.hd hc) fun h' tk to hk => ⟨.int (max (max (max i j) k) l), H, I.kept hk, ⟨to, rfl⟩, q⟩
theorem cr_bi {X : Cx} (hc : X.calm = true) (b : BI) : CallR X (biV b) (rBi X.K b) := by
  cases b with
  | len => exact call_len_seq
  | int => exact call_int1
  | abs => exact call_abs
  | max => exact CallR.or (cr_max hc) (CallR.or (call_max2' hc) (CallR.or (call_max3' hc) (call_max4' hc)))
  | min => exact CallR.or (cr_min hc) (call_min2' hc)
  | sum => exact cr_sum hc
  | all => exact cr_all hc
  | any => exact cr_any hc
  | tuple => exact call_tuple_of
  | list => exact call_list_of
section
variable {R : RT} {F F' : Addr → Prop} {H H' : Hp} {σ : St} {ρ : Ev} {n m : Nat}
theorem ra1 {rl : V → D → Prop} {vs : List V} {d : D} (h : RAx rl vs [d]) : ∃ v, vs = [v] ∧ rl v d := by
  match vs, h with
  | [v], ⟨a, _⟩ => exact ⟨v, rfl, a⟩
  | _ :: _ :: _, ⟨_, b⟩ => exact b.elim
theorem ra2 {rl : V → D → Prop} {vs : List V} {d e : D} (h : RAx rl vs [d, e]) : ∃ v w, vs = [v, w] ∧ rl v d ∧ rl w e := by
  match vs, h with
  | v :: vs, ⟨a, b⟩ =>
    obtain ⟨w, rfl, c⟩ := ra1 b
    exact ⟨v, w, rfl, a, c⟩
theorem ra3 {rl : V → D → Prop} {vs : List V} {d e f : D} (h : RAx rl vs [d, e, f]) : ∃ v w u, vs = [v, w, u] ∧ rl v d ∧ rl w e ∧ rl u f := by
  match vs, h with
  | v :: vs, ⟨a, b⟩ =>
    obtain ⟨w, u, rfl, c⟩ := ra2 b
    exact ⟨v, w, u, rfl, a, c⟩
theorem ra4 {rl : V → D → Prop} {vs : List V} {d e f g : D} (h : RAx rl vs [d, e, f, g]) : ∃ v w u o, vs = [v, w, u, o] ∧ rl v d ∧ rl w e ∧ rl u f ∧ rl o g := by
  match vs, h with
  | v :: vs, ⟨a, b⟩ =>
    obtain ⟨w, u, o, rfl, c⟩ := ra3 b
    exact ⟨v, w, u, o, rfl, a, c⟩
theorem bi_ok {b : BI} {vs : List V} {ds : List D} {Qd : D → Prop} {Q : VK} (E : EnvOk R n F σ H ρ) (rr : RAx (RB R F H) vs ds) (q : biD b ds Qd)
    (k : ∀ d' v F' H', Qd d' → Nxt R n σ ρ F H F' H' → RN R H F' H' v d' → Q v H') : rBi R.K b vs H Q := by
  unfold biD at q
  split at q
  · obtain ⟨v, rfl, r⟩ := ra1 rr
    obtain ⟨a, ws, rfl, h1, _, h2⟩ := r.list E
    exact ⟨a, ws, rfl, .inl (SqL.of h1), by rw [h2.length]; exact k _ _ _ _ q (.refl E) .of_int⟩
  · obtain ⟨v, rfl, r⟩ := ra1 rr
    obtain ⟨a, ws, rfl, h1, h2⟩ := r.tuple
    exact ⟨a, ws, rfl, .inr h1, by rw [h2.length]; exact k _ _ _ _ q (.refl E) .of_int⟩
  · obtain ⟨v, rfl, r⟩ := ra1 rr
    cases r.int
    exact .inl ⟨_, rfl, k _ _ _ _ q (.refl E) .of_int⟩
  · obtain ⟨v, rfl, r⟩ := ra1 rr
    cases r.bool
    exact .inr ⟨_, rfl, k _ _ _ _ q (.refl E) .of_int⟩
  · obtain ⟨v, rfl, r⟩ := ra1 rr
    cases r.int
    exact ⟨_, rfl, k _ _ _ _ q (.refl E) .of_int⟩
  · obtain ⟨v, rfl, r⟩ := ra1 rr
    obtain ⟨a, ws, rfl, h1, _, h2⟩ := r.list E
    obtain ⟨ns, e1, e2, q⟩ := q
    rw [h2.ints e1] at h1
    exact .inl ⟨a, ns, rfl, SqL.of h1, e2, fun m hm hle => k _ _ _ _ (q m hm hle) (.refl E) .of_int⟩
  · obtain ⟨v, w, rfl, r1, r2⟩ := ra2 rr
    cases r1.int; cases r2.int
    exact .inr (.inl ⟨_, _, rfl, k _ _ _ _ q (.refl E) .of_int⟩)
  · obtain ⟨v, w, u, rfl, r1, r2, r3⟩ := ra3 rr
    cases r1.int; cases r2.int; cases r3.int
    exact .inr (.inr (.inl ⟨_, _, _, rfl, k _ _ _ _ q (.refl E) .of_int⟩))
  · obtain ⟨v, w, u, o, rfl, r1, r2, r3, r4⟩ := ra4 rr
    cases r1.int; cases r2.int; cases r3.int; cases r4.int
    exact .inr (.inr (.inr ⟨_, _, _, _, rfl, k _ _ _ _ q (.refl E) .of_int⟩))
  · obtain ⟨v, rfl, r⟩ := ra1 rr
    obtain ⟨a, ws, rfl, h1, _, h2⟩ := r.list E
    obtain ⟨ns, e1, e2, q⟩ := q
    rw [h2.ints e1] at h1
    exact .inl ⟨a, ns, rfl, SqL.of h1, e2, fun m hm hle => k _ _ _ _ (q m hm hle) (.refl E) .of_int⟩
  · obtain ⟨v, w, rfl, r1, r2⟩ := ra2 rr
    cases r1.int; cases r2.int
    exact .inr ⟨_, _, rfl, k _ _ _ _ q (.refl E) .of_int⟩
  · obtain ⟨v, rfl, r⟩ := ra1 rr
    obtain ⟨a, ws, rfl, h1, _, h2⟩ := r.list E
    obtain ⟨ns, e1, q⟩ := q
    rw [h2.ints e1] at h1
    exact ⟨a, ns, rfl, SqL.of h1, k _ _ _ _ q (.refl E) .of_int⟩
  · obtain ⟨v, rfl, r⟩ := ra1 rr
    obtain ⟨a, ws, rfl, h1, _, h2⟩ := r.list E
    obtain ⟨ns, e1, q⟩ := q
    rw [h2.bools e1] at h1
    exact ⟨a, ns, rfl, SqL.of h1, k _ _ _ _ q (.refl E) .of_bool⟩
  · obtain ⟨v, rfl, r⟩ := ra1 rr
    obtain ⟨a, ws, rfl, h1, _, h2⟩ := r.list E
    obtain ⟨ns, e1, q⟩ := q
    rw [h2.bools e1] at h1
    exact ⟨a, ns, rfl, SqL.of h1, k _ _ _ _ q (.refl E) .of_bool⟩
  · obtain ⟨v, rfl, r⟩ := ra1 rr
    obtain ⟨a, ws, rfl, h1, _, h2⟩ := r.list E
    exact ⟨a, ws, rfl, .inl ⟨SqL.of h1, fun p hp => k _ _ _ _ q (Nxt.upd E hp) (E.newT hp h2)⟩⟩
  · obtain ⟨v, rfl, r⟩ := ra1 rr
    obtain ⟨a, ws, rfl, h1, h2⟩ := r.tuple
    exact ⟨a, ws, rfl, .inr ⟨h1, k _ _ _ _ q (.refl E) (RN.of_tup h1 h2)⟩⟩
  · obtain ⟨v, rfl, r⟩ := ra1 rr
    obtain ⟨a, ws, rfl, h1, _, h2⟩ := r.list E
    exact ⟨a, ws, rfl, .inl (SqL.of h1), fun p hp => k _ _ _ _ q (Nxt.upd E hp) (E.newL hp h2)⟩
  · obtain ⟨v, rfl, r⟩ := ra1 rr
    obtain ⟨a, ws, rfl, h1, h2⟩ := r.tuple
    exact ⟨a, ws, rfl, .inr h1, fun p hp => k _ _ _ _ q (Nxt.upd E hp) (E.newL hp h2)⟩
  · exact q.elim
end
section
variable {Φ : Nat → List D → (D → Prop) → (Nat → Prop) → Prop} {exN : Nat → Str} {dr : Nat → Nat}
variable {X : Cx} {R : RT} {z : Pz} {Ed : Nat → Prop} {e l r : Expr} {es : List Expr} {a b c : C} {pos p : Pos}
theorem nd_bi {B : BI} {x : Str} (hc : X.calm = true) (hK : X.K = R.K) (hx : x = biX B) (hg : Gl X x) (hm : X.mg x = none) (hs : (e :: es).all (fun e => !isStar e) = true) (ha : PA X (e :: es) (TAx Φ exN dr R (rlB R) Ed a)):
    PE X (.Call (.Name x p) (e :: es) [] pos) (TEx Φ exN dr R (rlN R) Ed (.bi B a)) := by
  subst hx
  rw [List.all_cons, Bool.and_eq_true, Bool.not_eq_true'] at hs
  obtain ⟨hn, hd⟩ := bi_name B
  have go : PE X (.Call (.Name (biX B) p) (e :: es) [] pos) (tCB (rBi X.K B) (TAx Φ exN dr R (rlB R) Ed a)) := by
    have h := cr_bi (X := X) hc B
    have hb := bi_boot B
    cases B <;> first
      | exact pe_callB h hg hm hb ha hn hd (each_plain hs.1) (none_star hs.2)
      | exact pe_callTy h hg hm hb ha hn hd (each_plain hs.1) (none_star hs.2)
  refine PEw go fun σ H Q ⟨n, F, ρ, Qd, E, hn, hw, k⟩ => ?_
  simp only [wp] at hw
  simp only [drw] at hn k
  refine ⟨n, F, ρ, _, E, hn, hw, fun ds vs F1 H1 q1 x1 r1 hl => ?_⟩
  rw [hK]
  refine bi_ok x1.env r1 q1 (fun d' v F' H' q' x' r' => k d' v F' H' q' (x1.trans x') (RN.back E x1.ext x'.env.st x'.ext x1.env.st r'))
end
end Y

/-! part Y7 -/
set_option Elab.async false
set_option linter.all false
set_option maxRecDepth 100000
set_option maxHeartbeats 1000000
/-! Y7: what a loop walks; targets; comprehensions. -/
namespace Y
open PySem PySem.Spec
open PyProof.Rows hiding St
open L2
/-- what an iterator leans on is as it was -/
def Stay (R : RT) (b : Bool) (F : Addr → Prop) (H H' : Hp) : Prop := Keep F H H' ∧ (b = true → Ext R.sa H H')
/-- J yields ds -/
def Yl (R : RT) (b : Bool) (J : It) (ds : List D) (F : Addr → Prop) (H : Hp) : Prop := ∀ (i : Nat) (F' : Addr → Prop) (H' : Hp), Stay R b F H H' → (∀ a, F a → F' a) →
  (∀ d, ds[i]? = some d → J.go i H' ∧ ∀ x H'', J.yld i H' x H'' → (H'' = H' ∨ ∃ p vs, H' p = none ∧ H'' = upd H' p (.tup vs)) ∧ RD R F' H'' x d) ∧ (ds.length ≤ i → J.stop i H')
def cntC0 : C → Bool
  | .rng _ => true
  | .lst as => match lenC as with | some l => decide (l ≤ manyD) | none => false
  | _ => false
/-- a value: no list or tuple is longer than the model has room for -/
def sqC : C → Bool
  | .var _ => true
  | .bvar _ => true
  | .call _ _ => true
  | .ix _ _ => true
  | .slc _ _ _ => true
  | .bin _ _ _ => true
  | .comp _ _ _ _ _ => true
  | .bi _ _ => true
  | .glob _ => true
  | _ => false
def cntC (c : C) : Bool := cntC0 c || sqC c
def TIx (Φ : Nat → List D → (D → Prop) → (Nat → Prop) → Prop) (exN : Nat → Str) (dr : Nat → Nat) (R : RT) (b : Bool) (Ed : Nat → Prop) (c : C) : TI := fun σ H K => ∃ n F ρ Qd, EnvOk R n F σ H ρ ∧ n + drw dr c ≤ R.nb ∧ wp Φ exN c ρ Qd Ed ∧
  (∀ d, Qd d → ∃ ds, itemsD d = some ds) ∧ ∀ d ds J F' H', Qd d → itemsD d = some ds → Nxt R (n + drw dr c) σ ρ F H F' H' → Yl R b J ds F' H' → (cntC c = true → ds.length ≤ manyD) → K J H'
/-- the value's own items -/
def iSeq (K : PySem.W.Frag) (tl : TE) : TI := fun σ H R => tl σ H fun x H1 => (∃ a, x = .ref a ∧ (∃ xs, SqL K H1 a xs) ∧ ((∀ xs, SqL K H1 a xs → xs.length ≤ sizeLine) → R (Itl K a) H1)) ∨ ∃ a, x = .ref a ∧ (∃ xs, SqT K H1 a xs) ∧ ((∀ xs, SqT K H1 a xs → xs.length ≤ sizeLine) → R (Itt K a) H1)
theorem pi_seq {X : Cx} {tg l : Expr} {tl : TE} (hl : PE X l tl) : PI X tg l (iSeq X.K tl) := by
  refine ⟨fun pins s σ H R I h => thn (hl.run pins s σ H _ I h) fun v s1 ⟨x, H1, I1, r1, q1⟩ => ?_⟩
  rcases q1 with ⟨a, e, ⟨xs, hq⟩, q⟩ | ⟨a, e, ⟨xs, hq⟩, q⟩
  · subst e
    cases r1
    obtain ⟨its, rv, p, _⟩ := I1.list hq
    refine wpAny_pyIter_list p.isList ⟨_, [s1.heap.objs.size], _, _, H1, rfl, I1.kept (t' := s1.toks) (fun b o e => Heap.get?_push_of_some _ e), turn_list a _, ⟨_, Heap.get?_push_size _ rfl, rfl, rfl⟩, fun b hb => ?_, q fun xs h => by obtain ⟨_, _, _, z⟩ := I1.list h; exact z⟩
    rw [List.mem_singleton.mp hb]
    exact I1.fpOk (Nat.le_refl _) (I1.hok.fresh (Nat.le_refl _))
  · subst e
    cases r1
    obtain ⟨its, rv, p, _⟩ := I1.tuple hq
    refine wpAny_pyIter_tuple (show s1.heap.IsTuple a its.toArray from p) ⟨_, [s1.heap.objs.size], _, _, H1, rfl, I1.kept (t' := s1.toks) (fun b o e => Heap.get?_push_of_some _ e), turn_tuple a _, ⟨_, Heap.get?_push_size _ rfl, rfl, rfl⟩, fun b hb => ?_, q fun xs h => by obtain ⟨_, _, _, z⟩ := I1.tuple h; exact z⟩
    rw [List.mem_singleton.mp hb]
    exact I1.fpOk (Nat.le_refl _) (I1.hok.fresh (Nat.le_refl _))
section
variable {R : RT} {F F' : Addr → Prop} {H H' : Hp} {σ : St} {ρ : Ev} {n m : Nat}
theorem get_py {ps : List PyData} {i : Nat} {d : D} (h : (ps.map D.py)[i]? = some d) : ∃ p, ps[i]? = some p ∧ d = .py p := by
  rw [List.getElem?_map] at h
  cases q : ps[i]? with
  | none => rw [q] at h; cases h
  | some p => rw [q] at h; exact ⟨p, rfl, (Option.some.inj h).symm⟩
theorem yl_tuple {b : Bool} {a : Addr} {vs : List V} {ps : List PyData} (h1 : SqT R.K H a vs) (h2 : RpAll R.K F H vs ps) (uniq : ∀ ws H', SqT R.K H' a vs → SqT R.K H' a ws → ws = vs) : True := trivial
/-- over a list: that at a stays -/
theorem yl_list {b : Bool} {a : Addr} {vs : List V} {ps : List PyData} (h1 : H a = some (.lst vs)) (h2 : RpAll R.K F H vs ps) (h3 : F a ∨ (b = true ∧ NotS R.sa a)) : Yl R b (Itl R.K a) (ps.map D.py) F H := by
  intro i F' H' st sub
  have e : H' a = some (.lst vs) := by
    rcases h3 with h3 | ⟨hb, h3⟩
    · exact st.1 _ _ h1 (.inl h3)
    · exact st.2 hb _ _ h1 h3
  refine ⟨fun d hd => ?_, fun hl => ⟨vs, SqL.of e, by rw [h2.length]; simpa using hl⟩⟩
  obtain ⟨p, hp, rfl⟩ := get_py hd
  obtain ⟨v, hv, r⟩ := h2.get hp
  refine ⟨⟨vs, v, SqL.of e, hv⟩, fun x H'' ⟨eq, y⟩ => ⟨.inl eq, ?_⟩⟩
  have := y vs (SqL.of e)
  rw [hv] at this
  cases this
  subst eq
  exact r.mono st.1 sub
theorem yl_tup {b : Bool} {a : Addr} {vs : List V} {ps : List PyData} (h1 : SqT R.K H a vs) (h2 : RpAll R.K F H vs ps) : Yl R b (Itt R.K a) (ps.map D.py) F H := by
  intro i F' H' st sub
  have e : SqT R.K H' a vs := st.1.sqt h1
  refine ⟨fun d hd => ?_, fun hl => ⟨vs, e, by rw [h2.length]; simpa using hl⟩⟩
  obtain ⟨p, hp, rfl⟩ := get_py hd
  obtain ⟨v, hv, r⟩ := h2.get hp
  refine ⟨⟨vs, v, e, hv⟩, fun x H'' ⟨eq, y⟩ => ⟨.inl eq, ?_⟩⟩
  have := y vs e
  rw [hv] at this
  cases this
  subst eq
  exact r.mono st.1 sub
theorem yl_range {b : Bool} {lo hi : Int} : Yl R b (Itr lo (hi - lo).toNat) (rangeD lo hi) F H := by
  intro i F' H' st sub
  unfold rangeD
  refine ⟨fun d hd => ?_, fun hl => by show (hi - lo).toNat ≤ i; rw [List.length_map, List.length_range] at hl; exact hl⟩
  rw [List.getElem?_map] at hd
  cases q : (List.range (hi - lo).toNat)[i]? with
  | none => rw [q] at hd; cases hd
  | some j =>
    rw [q] at hd
    obtain ⟨hi', e⟩ := List.getElem?_eq_some_iff.mp q
    rw [List.getElem_range] at e
    subst e
    refine ⟨by show i < (hi - lo).toNat; rw [List.length_range] at hi'; exact hi', fun x H'' ⟨e1, e2⟩ => ⟨.inl e1, ?_⟩⟩
    cases Option.some.inj hd
    subst e2
    exact .int _
theorem yl_zipL {b : Bool} {a c : Addr} {vs ws : List V} {ps qs : List PyData} (h1 : H a = some (.lst vs)) (h2 : RpAll R.K F H vs ps) (h3 : F a ∨ (b = true ∧ NotS R.sa a)) (g1 : H c = some (.lst ws)) (g2 : RpAll R.K F H ws qs) (g3 : F c ∨ (b = true ∧ NotS R.sa c)) :
    Yl R b (Itz R.K a c) (zipP ps qs) F H := by
  intro i F' H' st sub
  have e : H' a = some (.lst vs) := by
    rcases h3 with h3 | ⟨hb, h3⟩
    · exact st.1 _ _ h1 (.inl h3)
    · exact st.2 hb _ _ h1 h3
  have e' : H' c = some (.lst ws) := by
    rcases g3 with h3 | ⟨hb, h3⟩
    · exact st.1 _ _ g1 (.inl h3)
    · exact st.2 hb _ _ g1 h3
  unfold zipP
  refine ⟨fun d hd => ?_, fun hl => ⟨vs, ws, SqL.of e, SqL.of e', by
    rw [h2.length, g2.length]
    rw [List.length_map, List.length_zip] at hl
    omega⟩⟩
  rw [List.getElem?_map] at hd
  cases q : (ps.zip qs)[i]? with
  | none => rw [q] at hd; cases hd
  | some pq =>
    rw [q] at hd
    obtain ⟨p, q'⟩ := pq
    rw [List.getElem?_zip_eq_some] at q
    obtain ⟨v, hv, r⟩ := h2.get q.1
    obtain ⟨w, hw, r'⟩ := g2.get q.2
    refine ⟨⟨vs, ws, v, w, SqL.of e, SqL.of e', hv, hw⟩, fun x H'' ⟨T, x1, y1, ex, hT, eq, f1, f2⟩ => ⟨.inr ⟨T, _, hT, eq⟩, ?_⟩⟩
    have z1 := f1 vs (SqL.of e)
    have z2 := f2 ws (SqL.of e')
    rw [hv] at z1
    rw [hw] at z2
    cases z1; cases z2
    subst ex eq
    cases Option.some.inj hd
    have k2 : Keep F H (upd H' T (.tup [v, w])) := fun b o q h => by
      have := st.1 b o q h
      rw [upd_ne (ne_of_none this hT)]
      exact this
    exact .tup SqT.new (.cons (r.mono k2 sub) (.cons (r'.mono k2 sub) .nil))
theorem yl_zipT {b : Bool} {a c : Addr} {vs ws : List V} {ps qs : List PyData} (h1 : SqT R.K H a vs) (h2 : RpAll R.K F H vs ps) (g1 : SqT R.K H c ws) (g2 : RpAll R.K F H ws qs) : Yl R b (RZ.ItzT R.K a c) (zipP ps qs) F H := by
  intro i F' H' st sub
  have e := st.1.sqt h1
  have e' := st.1.sqt g1
  unfold zipP
  refine ⟨fun d hd => ?_, fun hl => ⟨vs, ws, e, e', by
    rw [h2.length, g2.length]
    rw [List.length_map, List.length_zip] at hl
    omega⟩⟩
  rw [List.getElem?_map] at hd
  cases q : (ps.zip qs)[i]? with
  | none => rw [q] at hd; cases hd
  | some pq =>
    rw [q] at hd
    obtain ⟨p, q'⟩ := pq
    rw [List.getElem?_zip_eq_some] at q
    obtain ⟨v, hv, r⟩ := h2.get q.1
    obtain ⟨w, hw, r'⟩ := g2.get q.2
    refine ⟨⟨vs, ws, v, w, e, e', hv, hw⟩, fun x H'' ⟨T, x1, y1, ex, hT, eq, f1, f2⟩ => ⟨.inr ⟨T, _, hT, eq⟩, ?_⟩⟩
    have z1 := f1 vs e
    have z2 := f2 ws e'
    rw [hv] at z1
    rw [hw] at z2
    cases z1; cases z2
    subst ex eq
    cases Option.some.inj hd
    have k2 : Keep F H (upd H' T (.tup [v, w])) := fun b o q h => by
      have := st.1 b o q h
      rw [upd_ne (ne_of_none this hT)]
      exact this
    exact .tup SqT.new (.cons (r.mono k2 sub) (.cons (r'.mono k2 sub) .nil))
end
section
variable {Φ : Nat → List D → (D → Prop) → (Nat → Prop) → Prop} {exN : Nat → Str} {dr : Nat → Nat}
variable {X : Cx} {R : RT} {z : Pz} {Ed : Nat → Prop} {tg e l r : Expr} {es : List Expr} {a b c : C} {pos p : Pos}
theorem len_le {K : PySem.W.Frag} {F : Addr → Prop} {H : Hp} {vs : List V} {ps : List PyData} (h : vs.length ≤ sizeLine) (r : RpAll K F H vs ps) : (ps.map D.py).length ≤ manyD := by
  rw [List.length_map, ← r.length]
  exact Nat.le_trans h (by decide)
/-- a value's items; frozen ones, for a loop -/
theorem nd_iseq (hK : X.K = R.K) (hc : cntC0 c = false) (ha : PE X e (TEx Φ exN dr R (rlD R) Ed c)) : PI X tg e (TIx Φ exN dr R false Ed c) :=
  PIw (pi_seq ha) fun σ H K ⟨n, F, ρ, Qd, E, hn, hw, hi, k⟩ => ⟨n, F, ρ, Qd, E, hn, hw, fun d v F1 H1 q x r => by
    obtain ⟨ds, e1⟩ := hi d q
    rw [hK]
    cases d with
    | py p =>
      cases p with
      | list ps =>
        cases r with
        | lst h1 h2 h3 => exact .inl ⟨_, rfl, ⟨_, SqL.of h1⟩, fun hz => k _ _ _ F1 H1 q rfl x (yl_list h1 h3 (.inl h2)) (fun _ => len_le (hz _ (SqL.of h1)) h3)⟩
      | tuple ps =>
        cases r with
        | tup h1 h2 => exact .inr ⟨_, rfl, ⟨_, h1⟩, fun hz => k _ _ _ F1 H1 q rfl x (yl_tup h1 h2) (fun _ => len_le (hz _ h1) h2)⟩
      | _ => cases e1
    | args ds => exact r.elim
    | _ => cases e1⟩
/-- a value's items, within a comprehension: a slot's own list too -/
theorem nd_iseqB (hK : X.K = R.K) (hc : cntC0 c = false) (ha : PE X e (TEx Φ exN dr R (rlB R) Ed c)) : PI X tg e (TIx Φ exN dr R true Ed c) :=
  PIw (pi_seq ha) fun σ H K ⟨n, F, ρ, Qd, E, hn, hw, hi, k⟩ => ⟨n, F, ρ, Qd, E, hn, hw, fun d v F1 H1 q x r => by
    obtain ⟨ds, e1⟩ := hi d q
    rw [hK]
    cases d with
    | py p =>
      cases p with
      | list ps =>
        obtain ⟨a, vs, rfl, h1, h2, h3⟩ := RB.list x.env r
        exact .inl ⟨_, rfl, ⟨_, SqL.of h1⟩, fun hz => k _ _ _ F1 H1 q rfl x (yl_list h1 h3 (.inr ⟨rfl, h2⟩)) (fun _ => len_le (hz _ (SqL.of h1)) h3)⟩
      | tuple ps =>
        obtain ⟨a, vs, rfl, h1, h2⟩ := RB.tuple r
        exact .inr ⟨_, rfl, ⟨_, h1⟩, fun hz => k _ _ _ F1 H1 q rfl x (yl_tup h1 h2) (fun _ => len_le (hz _ h1) h2)⟩
      | _ => cases e1
    | args ds => rcases r with r | ⟨_, _, _, h, _⟩ <;> first | exact r.elim | cases h
    | _ => cases e1⟩
/-- a written list -/
theorem nd_ilst (hK : X.K = R.K) {bb : Bool} (ha : PA X es (TAx Φ exN dr R (rlD R) Ed a)) : PI X tg (.List es pos) (TIx Φ exN dr R bb Ed (.lst a)) :=
  PIw (pi_list (pe_lst ha)) fun σ H K ⟨n, F, ρ, Qd, E, hn, hw, hi, k⟩ => by
    simp only [wp] at hw
    simp only [drw] at hn k
    refine ⟨n, F, ρ, _, E, hn, hw, fun ds vs F1 H1 q1 x1 r1 hl => ?_⟩
    obtain ⟨ps, e1, e2, q⟩ := q1
    have hr := RA.pys r1.ra e1
    have hpl : ∀ {ds : List D} {ps : List PyData}, pysD ds = some ps → ps.length = ds.length := by
      intro ds
      induction ds with
      | nil => intro ps e; simp only [pysD, Option.some.injEq] at e; subst e; rfl
      | cons d ds ih =>
        intro ps e
        cases d with
        | py p =>
          simp only [pysD] at e
          cases q : pysD ds with
          | none => rw [q] at e; cases e
          | some qs =>
            rw [q] at e
            simp only [Option.map_some, Option.some.injEq] at e
            subst e
            rw [List.length_cons, List.length_cons, ih q]
        | _ => simp [pysD] at e
    refine ⟨by rw [hr.length]; exact e2, fun p hp => ⟨p, rfl, ⟨vs, SqL.of upd_same⟩, ?_⟩⟩
    have x2 := x1.trans (Nxt.upd x1.env hp (o := .lst vs))
    have hn2 := x1.env.newL hp hr
    have hp0 : H p = none := x1.ext.fresh x1.env.st hp
    have E2 : Nxt R (n + drw dr a) σ ρ F H (fun b => F1 b ∨ b = p) (upd H1 p (.lst vs)) := ⟨x2.env.freeze (by rw [upd_same]; exact fun z => (nomatch z)) (notS_of E.st hp0) (E.h0 hp0) (E.ownH hp0), x2.ext, fun b hb => .inl (x2.sub b hb), fun b hb => hb.elim (x2.nw b) fun z => .inr (z ▸ hp0)⟩
    rw [hK]
    refine k _ _ _ _ _ q rfl E2 (yl_list upd_same (hr.mono (x1.env.keep (Nxt.upd x1.env hp).ext) fun _ h => .inl h) (.inl (.inr rfl))) fun z => ?_
    rw [List.length_map, hpl e1]
    have z : cntC0 (.lst a) = true := by
      have e : cntC (.lst a) = (cntC0 (.lst a) || false) := rfl
      rw [e, Bool.or_false] at z
      exact z
    simp only [cntC0] at z
    split at z
    · rename_i l0 e0
      rw [hl l0 e0]
      exact of_decide_eq_true z
    · cases z
theorem nd_irng1 (hg : Gl X "range") (hm : X.mg "range" = none) (hs : isStar e = false) {bb : Bool} (ha : PA X [e] (TAx Φ exN dr R (rlD R) Ed a)) (hl1 : lenC a = some 1) : PI X tg (.Call (.Name "range" p) [e] [] pos) (TIx Φ exN dr R bb Ed (.rng a)) :=
  PIw (pi_range1 hg hm ha (each_plain hs)) fun σ H K ⟨n, F, ρ, Qd, E, hn, hw, hi, k⟩ => by
    simp only [wp] at hw
    simp only [drw] at hn k
    refine ⟨n, F, ρ, _, E, hn, hw, fun ds vs F1 H1 q1 x1 r1 hl => ?_⟩
    have hl := hl 1 hl1
    match ds, hl with
    | [d], _ =>
      obtain ⟨v, rfl, r⟩ := ra1 r1
      simp only [rngD] at q1
      split at q1
      · rename_i hi' heq
        cases heq
        cases (RB.int (.inl r))
        refine ⟨_, rfl, q1.1.1, q1.1.2, ?_⟩
        have y : Yl R bb (Itr 0 (hi' - 0).toNat) (rangeD 0 hi') F1 H1 := yl_range
        rw [Int.sub_zero] at y
        refine k _ _ _ F1 H1 q1.2 rfl x1 y fun _ => ?_
        unfold rangeD manyD
        rw [List.length_map, List.length_range]
        have := q1.1.2
        omega
      · rename_i heq; cases heq
      · rename_i heq; cases heq
      · exact q1.elim
theorem nd_irng2 (hg : Gl X "range") (hm : X.mg "range" = none) {e2 : Expr} (hs : isStar e = false) (hs2 : isStar e2 = false) {bb : Bool} (ha : PA X [e, e2] (TAx Φ exN dr R (rlD R) Ed a)) (hl1 : lenC a = some 2) : PI X tg (.Call (.Name "range" p) [e, e2] [] pos) (TIx Φ exN dr R bb Ed (.rng a)) :=
  PIw (pi_range2 hg hm ha (by rw [each_plain hs, each_plain hs2]; rfl) (each_plain hs2)) fun σ H K ⟨n, F, ρ, Qd, E, hn, hw, hi, k⟩ => by
    simp only [wp] at hw
    simp only [drw] at hn k
    refine ⟨n, F, ρ, _, E, hn, hw, fun ds vs F1 H1 q1 x1 r1 hl => ?_⟩
    have hl := hl 2 hl1
    match ds, hl with
    | [d, d2], _ =>
      obtain ⟨v, w, rfl, r, r2⟩ := ra2 r1
      simp only [rngD] at q1
      split at q1
      · rename_i heq; cases heq
      · rename_i lo hi' heq
        cases heq
        cases (RB.int (.inl r)); cases (RB.int (.inl r2))
        refine ⟨_, _, rfl, q1.1, ?_⟩
        refine k _ _ _ F1 H1 q1.2 rfl x1 yl_range fun _ => ?_
        unfold rangeD manyD
        rw [List.length_map, List.length_range]
        have := q1.1
        omega
      · rename_i heq; cases heq
      · exact q1.elim
theorem rsize3 {i j c : Int} (hc : 0 < c) : Builtin.Range.rangeSize i j c = (((j - i + c - 1) / c).toNat : Nat) := by
  unfold Builtin.Range.rangeSize
  rw [if_pos hc]
  split
  · rename_i h
    have e : (j - i + c - 1) / c = (j - i - 1) / c + 1 := by
      rw [show j - i + c - 1 = (j - i - 1) + c * 1 by omega, Int.add_mul_ediv_left _ _ (by omega)]
    have h0 : 0 ≤ (j - i - 1) / c := Int.ediv_nonneg (by omega) (by omega)
    rw [e]
    omega
  · rename_i h
    have := Int.ediv_lt_of_lt_mul hc (show j - i + c - 1 < 1 * c by omega)
    omega
theorem rstep3 {i j c : Int} (hc : 0 < c) (hb : i < j) : (j - i + c - 1) / c ≤ j - i := by
  refine Int.ediv_le_of_le_mul hc ?_
  have : 0 ≤ (j - i - 1) * (c - 1) := Int.mul_nonneg (by omega) (by omega)
  have e : (j - i - 1) * (c - 1) = (j - i) * c - (j - i) - c + 1 := by
    rw [Int.sub_mul, Int.mul_sub, Int.mul_sub]; omega
  omega
theorem rstep0 {i j c : Int} (hc : 0 < c) (hb : ¬ i < j) : (j - i + c - 1) / c ≤ 0 := by
  have := Int.ediv_lt_of_lt_mul hc (show j - i + c - 1 < 1 * c by omega)
  omega
theorem rstepB {i j c : Int} (ha : -(2 ^ 62) ≤ i) (hb' : j < 2 ^ 62) (hc : 0 < c) : (j - i + c - 1) / c < 2 ^ 63 := by
  by_cases h : i < j
  · have := rstep3 hc h; omega
  · have := rstep0 hc h; omega
theorem rsmall3 {i j c : Int} (ha : -(2 ^ 62) ≤ i) (ha' : i < 2 ^ 62) (hb : -(2 ^ 62) ≤ j) (hb' : j < 2 ^ 62) (hc : 0 < c) (hc' : c < 2 ^ 30) : Builtin.Range.small i j c = true := by
  have e := rsize3 (i := i) (j := j) hc
  have b := rstepB ha hb' hc
  unfold Builtin.Range.small
  rw [e]
  generalize (j - i + c - 1) / c = n at *
  simp only [Builtin.Range.rangeFitsLong, Bool.and_eq_true, Bool.or_eq_true, decide_eq_true_eq, beq_iff_eq, show c > 0 from hc, if_true]
  omega
theorem yl_range3 {R : RT} {F : Addr → Prop} {H : Hp} {b : Bool} {lo hi st : Int} : Yl R b (Itc lo st ((hi - lo + st - 1) / st).toNat) (range3D lo hi st) F H := by
  intro i F' H' stt sub
  unfold range3D
  refine ⟨fun d hd => ?_, fun hl => by show ((hi - lo + st - 1) / st).toNat ≤ i; rw [List.length_map, List.length_range] at hl; exact hl⟩
  rw [List.getElem?_map] at hd
  cases q : (List.range ((hi - lo + st - 1) / st).toNat)[i]? with
  | none => rw [q] at hd; cases hd
  | some j =>
    rw [q] at hd
    obtain ⟨hi', e⟩ := List.getElem?_eq_some_iff.mp q
    rw [List.getElem_range] at e
    subst e
    refine ⟨by show i < ((hi - lo + st - 1) / st).toNat; rw [List.length_range] at hi'; exact hi', fun x H'' ⟨e1, e2⟩ => ⟨.inl e1, ?_⟩⟩
    cases Option.some.inj hd
    subst e2
    exact .int _
theorem nd_irng3 (hg : Gl X "range") (hm : X.mg "range" = none) {e2 e3 : Expr} (hs : isStar e = false) (hs2 : isStar e2 = false) (hs3 : isStar e3 = false) {bb : Bool} (ha : PA X [e, e2, e3] (TAx Φ exN dr R (rlD R) Ed a)) (hl1 : lenC a = some 3) : PI X tg (.Call (.Name "range" p) [e, e2, e3] [] pos) (TIx Φ exN dr R bb Ed (.rng a)) :=
  PIw (pi_range3 hg hm ha (by rw [each_plain hs, each_plain hs2, each_plain hs3]) (none_star (es := [e2, e3]) (by rw [List.all_cons, List.all_cons, hs2, hs3]; rfl))) fun σ H K ⟨n, F, ρ, Qd, E, hn, hw, hi, k⟩ => by
    simp only [wp] at hw
    simp only [drw] at hn k
    refine ⟨n, F, ρ, _, E, hn, hw, fun ds vs F1 H1 q1 x1 r1 hl => ?_⟩
    have hl := hl 3 hl1
    match ds, hl with
    | [d, d2, d3], _ =>
      obtain ⟨v, w, u, rfl, r, r2, r3⟩ := ra3 r1
      simp only [rngD] at q1
      split at q1
      · rename_i heq; cases heq
      · rename_i heq; cases heq
      · rename_i lo hi' st heq
        cases heq
        cases (RB.int (.inl r)); cases (RB.int (.inl r2)); cases (RB.int (.inl r3))
        obtain ⟨⟨b1, b2, b3, b4, b5, b6⟩, q1⟩ := q1
        refine ⟨_, _, _, _, rfl, ⟨by omega, by omega, rsmall3 b1 b2 b3 b4 b5 b6, rsize3 b5⟩, ?_⟩
        refine k _ _ _ F1 H1 q1 rfl x1 yl_range3 fun _ => ?_
        unfold range3D manyD
        rw [List.length_map, List.length_range]
        have b := rstepB (c := st) b1 b4 b5
        omega
      · exact q1.elim
theorem nd_izip (hK : X.K = R.K) (hg : Gl X "zip") (hm : X.mg "zip" = none) {e2 : Expr} {elts : List Expr} {kk : Nat} {tpos : Pos} (hs : isStar e = false) (hs2 : isStar e2 = false) {rl : Rl} {bb : Bool} (hrl : RlOk R rl) (hcase : (bb = false ∧ rl = rlD R) ∨ (bb = true ∧ rl = rlB R))
    (ha : PE X e (TEx Φ exN dr R rl Ed a)) (hb : PE X e2 (TEx Φ exN dr R rl Ed b)) : PI X (.Tuple elts kk tpos) (.Call (.Name "zip" p) [e, e2] [] pos) (TIx Φ exN dr R bb Ed (.zip a b)) :=
  PIw (RZ.pi_zipA hg hm (pa_cons ha (pa_cons hb pa_nil (each_plain hs2)) (each_plain hs)) (each_plain hs) (none_star (es := [e2]) (by rw [List.all_cons, hs2]; rfl))) fun σ H K ⟨n, F, ρ, Qd, E, hn, hw, hi, k⟩ => by
    simp only [wp] at hw
    simp only [drw] at hn k
    refine ⟨n, F, ρ, _, E, by omega, hw, fun d v F1 H1 q1 x1 r1 => ?_⟩
    refine ⟨_, F1, ρ, _, x1.env, by omega, q1, fun d2 w F2 H2 q2 x2 r2 => ?_⟩
    have x12 : Nxt R (n + (drw dr a + drw dr b)) σ ρ F H F2 H2 := (x1.trans x2).mono (by omega)
    have r1' : rl H F2 H2 v d := hrl x1.env x2.ext x2.sub r1
    have lst : ∀ {v : V} {ps : List PyData} {Ha : Hp}, rl Ha F2 H2 v (.L ps) → ∃ a vs, v = V.ref a ∧ H2 a = some (.lst vs) ∧ (F2 a ∨ (bb = true ∧ NotS R.sa a)) ∧ RpAll R.K F2 H2 vs ps := fun {v ps Ha} h => by
      rcases hcase with ⟨h1, h2⟩ | ⟨h1, h2⟩
      · subst h2
        cases h with
        | lst h1 h2 h3 => exact ⟨_, _, rfl, h1, .inl h2, h3⟩
      · subst h2
        obtain ⟨a, vs, e, h2, h3, h4⟩ := RB.list x2.env h
        exact ⟨a, vs, e, h2, .inr ⟨h1, h3⟩, h4⟩
    have tup : ∀ {v : V} {ps : List PyData} {Ha : Hp}, rl Ha F2 H2 v (.T ps) → ∃ a vs, v = V.ref a ∧ SqT R.K H2 a vs ∧ RpAll R.K F2 H2 vs ps := fun {v ps Ha} h => by
      rcases hcase with ⟨h1, h2⟩ | ⟨h1, h2⟩
      · subst h2
        exact RB.tuple (.inl h)
      · subst h2
        exact RB.tuple h
    rw [hK]
    split at q2
    · rename_i xs ys
      obtain ⟨a1, vs, rfl, h1, h2, h3⟩ := lst r1'
      obtain ⟨a2, ws, rfl, g1, g2, g3⟩ := lst r2
      exact ⟨a1, a2, vs, ws, rfl, .inl ⟨SqL.of h1, SqL.of g1, k _ _ _ F2 H2 q2 rfl x12 (yl_zipL h1 h3 h2 g1 g3 g2) (fun z => by cases z)⟩⟩
    · rename_i xs ys
      obtain ⟨a1, vs, rfl, h1, h3⟩ := tup r1'
      obtain ⟨a2, ws, rfl, g1, g3⟩ := tup r2
      exact ⟨a1, a2, vs, ws, rfl, .inr ⟨h1, g1, k _ _ _ F2 H2 q2 rfl x12 (yl_zipT h1 h3 g1 g3) (fun z => by cases z)⟩⟩
    · exact q2.elim
/-! ### targets -/
def gvs : C → List Nat
  | .var i => [i]
  | .tup as => gvs as
  | .cons a r => gvs a ++ gvs r
  | _ => []
def lenG : C → Nat
  | .cons _ r => lenG r + 1
  | _ => 0
def TGx (R : RT) (c : C) : TG := fun v σ H Q => ∃ n F ρ d K, EnvOk R n F σ H ρ ∧ RD R F H v d ∧ bindG c d ρ K ∧ ∀ σ' ρ', K ρ' → EnvOk R n F σ' H ρ' → (∀ i : Nat, i ∉ gvs c → σ'[i]? = σ[i]?) → σ'.length = σ.length → Q σ' H
def TGsx (R : RT) (c : C) : TGs := fun vs σ H Q => ∃ n F ρ ds K, EnvOk R n F σ H ρ ∧ RA R F H vs ds ∧ bindG c (.args ds) ρ K ∧ ∀ σ' ρ', K ρ' → EnvOk R n F σ' H ρ' → (∀ i : Nat, i ∉ gvs c → σ'[i]? = σ[i]?) → σ'.length = σ.length → Q σ' H
theorem EnvOk.set {n : Nat} {F : Addr → Prop} {σ : St} {H : Hp} {ρ : Ev} (E : EnvOk R n F σ H ρ) {v : V} {d : D} (r : RD R F H v d) (i : Nat) : EnvOk R n F (σ.set i (some v)) H (ρ.set i (some (.sh d))) := by
  have key : ∀ (j : Nat) (s : Sl), (ρ.set i (some (Sl.sh d)))[j]? = some (some s) → (j = i ∧ s = .sh d) ∨ (j ≠ i ∧ ρ[j]? = some (some s)) := fun j s h => by
    by_cases e : j = i
    · subst e
      by_cases hl : j < ρ.length
      · rw [List.getElem?_set_self hl] at h
        cases h
        exact .inl ⟨rfl, rfl⟩
      · rw [List.getElem?_eq_none (by rw [List.length_set]; omega)] at h
        cases h
    · rw [List.getElem?_set_ne (Ne.symm e)] at h
      exact .inr ⟨e, h⟩
  refine ⟨E.ext, E.st, E.s0, E.fs, E.fr, E.new, by rw [List.length_set, List.length_set]; exact E.len, fun j s h => ?_, fun j k a ps qs h1 h2 h3 h4 => ?_⟩
  · rcases key j s h with ⟨e1, e2⟩ | ⟨e1, e2⟩
    · subst e1 e2
      refine ⟨v, ?_, r⟩
      have hl : j < σ.length := by
        rw [← E.len]
        have := (List.getElem?_eq_some_iff.mp h).1
        rw [List.length_set] at this
        exact this
      rw [List.getElem?_set_self hl]
    · have q := E.slot j s e2
      cases s with
      | sh d' =>
        obtain ⟨v', h1, h2⟩ := q
        exact ⟨v', by rw [List.getElem?_set_ne (Ne.symm e1)]; exact h1, h2⟩
      | ow ps =>
        obtain ⟨a, vs, h1, h2⟩ := q
        exact ⟨a, vs, by rw [List.getElem?_set_ne (Ne.symm e1)]; exact h1, h2⟩
  · rcases key j _ h1 with ⟨_, e⟩ | ⟨e1, e2⟩
    · cases e
    · rcases key k _ h2 with ⟨_, e⟩ | ⟨g1, g2⟩
      · cases e
      · rw [List.getElem?_set_ne (Ne.symm e1)] at h3
        rw [List.getElem?_set_ne (Ne.symm g1)] at h4
        exact E.apart j k a ps qs e2 g2 h3 h4
theorem nd_gname {i : Nat} {x : Str} (hN : X.N.Nodup) (hi : X.N[i]? = some x) (hx : Loc X.env.scope x) (hf : X.fn x = true ∨ X.env.scope.names.lookup x = some .local) : PG X (.Name x pos) (TGx R (.var i)) :=
  PGw (pg_name hN hi hx hf) fun v σ H Q ⟨n, F, ρ, d, K, E, r, hb, k⟩ => by
    refine k _ _ (by simpa [bindG] using hb) (E.set r i) (fun j hj => ?_) (by rw [List.length_set])
    rw [List.getElem?_set_ne]
    intro e
    exact hj (by rw [e]; exact List.mem_singleton_self _)
theorem nd_gsnil : PGs X [] (TGsx R .nil) := ⟨fun pins s σ H vs us Q I r ⟨n, F, ρ, ds, K, E, ra, hb, k⟩ => pgs_nil.run pins s σ H vs us Q I r (by
  cases ds with
  | nil =>
    cases vs with
    | nil => exact ⟨rfl, k σ ρ (by simpa [bindG] using hb) E (fun _ _ => rfl) rfl⟩
    | cons v vs => exact ra.elim
  | cons d ds => simp [bindG] at hb)⟩
theorem assign_each {e : Expr} {es : List Expr} {env : Env} (h : isStar e = false) : assignEach (e :: es) env = (false, assign e env) :: assignEach es env := by
  cases e <;> first | rfl | cases h
theorem nd_gscons (hs : isStar e = false) (ha : PG X e (TGx R a)) (hb : PGs X es (TGsx R b)) : PGs X (e :: es) (TGsx R (.cons a b)) := ⟨fun pins s σ H vs us Q I r ⟨n, F, ρ, ds, K, E, ra, hbd, k⟩ => (pgs_cons ha hb (by rw [assign_each hs]; rfl)).run pins s σ H vs us Q I r (by
  cases ds with
  | nil => simp [bindG] at hbd
  | cons d ds =>
    cases vs with
    | nil => exact ra.elim
    | cons v vs =>
      simp only [bindG] at hbd
      refine ⟨v, vs, rfl, n, F, ρ, d, _, E, ra.1, hbd, fun σ1 ρ1 q1 E1 u1 l1 => ?_⟩
      refine ⟨n, F, ρ1, ds, K, E1, ra.2, q1, fun σ2 ρ2 q2 E2 u2 l2 => k σ2 ρ2 q2 E2 (fun i hi => ?_) (l2.trans l1)⟩
      rw [show gvs (.cons a b) = gvs a ++ gvs b from rfl, List.mem_append, not_or] at hi
      rw [u2 i hi.2, u1 i hi.1])⟩
theorem assign_len {env : Env} : ∀ {es : List Expr}, es.all (fun e => !isStar e) = true → (assignEach es env).length = es.length ∧ (assignEach es env).findIdx? (·.1) = none
  | [], _ => ⟨rfl, rfl⟩
  | e :: es, h => by
    rw [List.all_cons, Bool.and_eq_true, Bool.not_eq_true'] at h
    obtain ⟨h1, h2⟩ := assign_len (env := env) h.2
    rw [assign_each h.1]
    refine ⟨by rw [List.length_cons, List.length_cons, h1], ?_⟩
    rw [List.findIdx?_cons, h2]
    rfl
theorem bind_ex : ∀ {c : C} {d : D} {ρ : Ev} {K : Ev → Prop}, bindG c d ρ K → ∃ ρ1, K ρ1 := by
  intro c
  induction c with
  | var i => intro d ρ K h; exact ⟨_, by simpa [bindG] using h⟩
  | tup as ih =>
    intro d ρ K h
    unfold bindG at h
    split at h <;> first
      | (rename_i e; cases e; done)
      | skip
    · rename_i e1; cases e1; exact ih h
    · exact h.elim
  | nil =>
    intro d ρ K h
    unfold bindG at h
    split at h <;> first
      | (rename_i e; cases e; done)
      | exact ⟨_, h⟩
      | exact h.elim
  | cons a r iha ihr =>
    intro d ρ K h
    unfold bindG at h
    split at h <;> first
      | (rename_i e; cases e; done)
      | skip
    · rename_i e1
      cases e1
      obtain ⟨ρ1, h1⟩ := iha h
      exact ihr h1
    · exact h.elim
  | _ =>
    intro d ρ K h
    simp [bindG] at h
def isGs : C → Bool
  | .nil => true
  | .cons _ r => isGs r
  | _ => false
theorem bind_len : ∀ {c : C} {ds : List D} {ρ : Ev} {K : Ev → Prop}, isGs c = true → bindG c (.args ds) ρ K → ds.length = lenG c := by
  intro c
  induction c with
  | nil =>
    intro ds ρ K _ h
    cases ds with
    | nil => rfl
    | cons d ds => simp [bindG] at h
  | cons a r iha ihr =>
    intro ds ρ K g h
    cases ds with
    | nil => simp [bindG] at h
    | cons d ds =>
      simp only [bindG] at h
      obtain ⟨ρ1, h1⟩ := bind_ex h
      rw [List.length_cons, ihr g h1]
      rfl
  | _ => intro ds ρ K g h; cases g
theorem bind_tup {d : D} {ρ : Ev} {K : Ev → Prop} (h : bindG (.tup a) d ρ K) : ∃ ps, d = .T ps ∧ bindG a (.args (ps.map D.py)) ρ K := by
  unfold bindG at h
  split at h <;> first
    | (rename_i e; cases e; done)
    | skip
  · rename_i e1; cases e1; exact ⟨_, rfl, h⟩
  · exact h.elim
theorem nd_gtup (hK : X.K = R.K) (hc : X.calm = true) {kk : Nat} (hs : es.all (fun e => !isStar e) = true) (hl : lenG a = es.length) (hg : isGs a = true) (h : PGs X es (TGsx R a)) : PG X (.Tuple es kk pos) (TGx R (.tup a)) :=
  PGw (pg_tup hc h (assign_len hs).1 (assign_len hs).2) fun v σ H Q ⟨n, F, ρ, d, K, E, r, hb, k⟩ => by
    obtain ⟨ps, rfl, hb⟩ := bind_tup hb
    cases r with
    | tup h1 h2 =>
      refine ⟨_, _, rfl, hK ▸ h1, ?_, n, F, ρ, _, K, E, h2.ra, hb, k⟩
      have := bind_len hg hb
      rw [List.length_map] at this
      rw [h2.length, this, hl]
end
end Y

/-! part Y8 -/
set_option Elab.async false
set_option linter.all false
set_option maxRecDepth 100000
set_option maxHeartbeats 1000000
/-! Y8: comprehensions. -/
namespace Y
open PySem PySem.Spec
open PyProof.Rows hiding St
open L2
section
variable {R : RT} {F F' : Addr → Prop} {H H' : Hp} {σ : St} {ρ : Ev} {n m : Nat}
theorem wipe_both (E : EnvOk R n F σ H ρ) : ∀ vs : List Nat, EnvOk R n F (wipe σ vs) H (wipeE ρ vs)
  | [] => E
  | v :: vs => by
    have I := wipe_both E vs
    have key : ∀ (j : Nat) (s : Sl), ((wipeE ρ vs).set v none)[j]? = some (some s) → j ≠ v ∧ (wipeE ρ vs)[j]? = some (some s) := fun j s h => by
      by_cases e : j = v
      · subst e
        by_cases hl : j < (wipeE ρ vs).length
        · rw [List.getElem?_set_self hl] at h; cases h
        · rw [List.getElem?_eq_none (by rw [List.length_set]; omega)] at h; cases h
      · rw [List.getElem?_set_ne (Ne.symm e)] at h
        exact ⟨e, h⟩
    show EnvOk R n F ((wipe σ vs).set v none) H ((wipeE ρ vs).set v none)
    refine ⟨I.ext, I.st, I.s0, I.fs, I.fr, I.new, by rw [List.length_set, List.length_set]; exact I.len, fun j s h => ?_, fun j k a ps qs h1 h2 h3 h4 => ?_⟩
    · obtain ⟨e1, e2⟩ := key j s h
      have q := I.slot j s e2
      cases s with
      | sh d' =>
        obtain ⟨v', h1, h2⟩ := q
        exact ⟨v', by rw [List.getElem?_set_ne (Ne.symm e1)]; exact h1, h2⟩
      | ow ps =>
        obtain ⟨a, vs, h1, h2⟩ := q
        exact ⟨a, vs, by rw [List.getElem?_set_ne (Ne.symm e1)]; exact h1, h2⟩
    · obtain ⟨e1, e2⟩ := key j _ h1
      obtain ⟨g1, g2⟩ := key k _ h2
      rw [List.getElem?_set_ne (Ne.symm e1)] at h3
      rw [List.getElem?_set_ne (Ne.symm g1)] at h4
      exact I.apart j k a ps qs e2 g2 h3 h4
theorem wipe_get (σ : St) : ∀ (vs : List Nat) (i : Nat), (wipe σ vs)[i]? = if i ∈ vs then (if i < σ.length then some none else none) else σ[i]?
  | [], i => by simp [wipe]
  | v :: vs, i => by
    show ((wipe σ vs).set v none)[i]? = _
    by_cases e : i = v
    · subst e
      rw [if_pos List.mem_cons_self]
      by_cases hl : i < σ.length
      · rw [if_pos hl, List.getElem?_set_self (by rw [wipe_length]; exact hl)]
      · rw [if_neg hl, List.getElem?_eq_none (by rw [List.length_set, wipe_length]; omega)]
    · rw [List.getElem?_set_ne (Ne.symm e), wipe_get σ vs i]
      by_cases h : i ∈ vs
      · rw [if_pos h, if_pos (List.mem_cons_of_mem _ h)]
      · rw [if_neg h, if_neg (by rw [List.mem_cons, not_or]; exact ⟨e, h⟩)]
/-- what changed the block's own slots alone is gone when they are wiped -/
theorem wipe_same {σ' : St} {vs : List Nat} {us : List Nat} (hu : ∀ i ∈ us, i ∈ vs) (h : ∀ i : Nat, i ∉ us → σ'[i]? = (wipe σ vs)[i]?) (hl : σ'.length = (wipe σ vs).length) : wipe σ' vs = wipe σ vs := by
  refine List.ext_getElem? fun i => ?_
  rw [wipe_get, wipe_get]
  rw [wipe_length] at hl
  by_cases hi : i ∈ vs
  · rw [if_pos hi, if_pos hi, hl]
  · rw [if_neg hi, if_neg hi, h i (fun z => hi (hu i z)), wipe_get, if_neg hi]
theorem Nxt.aft {σ2 : St} {ρ2 : Ev} (x : Nxt R m σ2 ρ2 F H F' H') : Aft ⟨R.S, R.sa, m, H, F⟩ F H F' H' := ⟨x.ext, x.env.st, x.sub, x.env.fr, x.nw, x.env.fs⟩
/-- a list that no slot has is written -/
theorem EnvOk.updL (E : EnvOk R n F σ H ρ) {p : Addr} {vs ws : List V} (hp : H p = some (.lst vs)) (hF : ¬ F p) (h0 : R.H0 p = none) (ho : ∀ (i : Nat) (ps : List PyData), ρ[i]? = some (some (Sl.ow ps)) → σ[i]? ≠ some (some (V.ref p))) :
    EnvOk R n F σ (L2.upd H p (.lst ws)) ρ := by
  have np : ∀ b o, H b = some o → (F b ∨ solid o) → b ≠ p := fun b o q h z => by
    subst z
    rcases h with h | h
    · exact hF h
    · rw [hp] at q
      cases q
      exact h
  have k : Keep F H (L2.upd H p (.lst ws)) := fun b o q h => by
    rw [upd_ne (np b o q h)]
    exact q
  have n0 : ∀ b, R.H0 b ≠ none → b ≠ p := fun b h z => h (z ▸ h0)
  refine ⟨fun b o q hn => ?_, E.st.put (fun s b es => ⟨n0 s (E.s0.1 s b es).1, n0 b (E.s0.1 s b es).2⟩) (fun o' q => by rw [hp] at q; cases q; exact ⟨_, rfl⟩), E.s0, E.fs, fun a ha => ?_, E.new, E.len, fun i s hs => ?_, E.apart⟩
  · rw [upd_ne (n0 b (by rw [q]; exact fun z => nomatch z))]
    exact E.ext b o q hn
  · rw [upd_ne (fun z => hF (by rw [← z]; exact ha))]
    exact E.fr a ha
  · have q := E.slot i s hs
    cases s with
    | sh d =>
      obtain ⟨v, h1, h2⟩ := q
      exact ⟨v, h1, h2.mono k fun _ h => h⟩
    | ow ps =>
      obtain ⟨a, us, h1, h2, h3, h4, h5⟩ := q
      refine ⟨a, us, h1, ?_, h3.mono k fun _ h => h, h4, h5⟩
      rw [upd_ne (fun z => ho i ps hs (by rw [← z]; exact h1))]
      exact h2
end
section
variable {Φ : Nat → List D → (D → Prop) → (Nat → Prop) → Prop} {exN : Nat → Str} {dr : Nat → Nat}
variable {X : Cx} {R : RT} {z : Pz} {Ed : Nat → Prop} {tg e l r : Expr} {es : List Expr} {pos p : Pos} {el tgC src ifs : C} {own : List (Str × Nat)}
theorem mul_step {n1 nb db i len : Nat} (h : n1 + manyD * db ≤ nb) (hi : i + 1 ≤ len) (hc : db = 0 ∨ len ≤ manyD) : n1 + (i + 1) * db ≤ nb := by
  rcases hc with hc | hc
  · subst hc; simp at h ⊢; exact h
  · have : (i + 1) * db ≤ manyD * db := Nat.mul_le_mul_right _ (by omega)
    omega
/-- one turn of a comprehension -/
def stepC (Φ : Nat → List D → (D → Prop) → (Nat → Prop) → Prop) (exN : Nat → Str) (vs : List Nat) (tgC ifs el : C) (ρ : Ev) (d : D) (K : List PyData → Prop) : Prop :=
  bindG tgC d (wipeE ρ vs) fun ρ1 => wp Φ exN ifs ρ1 (fun t => match t with
          | .py (.bool k) => if k = true then wp Φ exN el ρ1 (fun y => match y with | .py p => K [p] | _ => False) noE else K []
          | _ => False) noE
theorem wp_comp {ρ : Ev} {Q : D → Prop} {E : Nat → Prop} (h : wp Φ exN (.comp own el tgC src ifs) ρ Q E) : wp Φ exN src ρ (fun x => match itemsD x with
      | some ds => compW (stepC Φ exN (own.map (·.2)) tgC ifs el ρ) ds [] fun out => Q (.L out)
      | none => False) E := h
theorem comp_read {σ : St} {H : Hp} {Q : VK} (hgv : ∀ i ∈ gvs tgC, i ∈ own.map (·.2)) (hcn : drw dr ifs + drw dr el = 0 ∨ cntC src = true) (h : TEx Φ exN dr R (rlN R) Ed (.comp own el tgC src ifs) σ H Q) :
    tLc (TIx Φ exN dr R true Ed src) (TGx R tgC) (TTx Φ exN dr R noE ifs) (TEx Φ exN dr R (rlD R) noE el) (own.map (·.2)) σ H Q := by
  obtain ⟨n, F, ρ, Qd, E, hn, hw, k⟩ := h
  have hw := wp_comp hw
  simp only [drw] at hn k
  refine ⟨n, F, ρ, _, E, by omega, hw, fun d q => ?_, fun d ds J F1 H1 q1 hi x1 yl cnt => ?_⟩
  · cases e : itemsD d with
    | none => rw [e] at q; exact q.elim
    | some ds => exact ⟨ds, rfl⟩
  rw [hi] at q1
  intro L hL
  have hcn' : drw dr ifs + drw dr el = 0 ∨ ds.length ≤ manyD := hcn.imp id cnt
  generalize hstep : stepC Φ exN (own.map (·.2)) tgC ifs el ρ = step at q1
  generalize hn1 : n + drw dr src = n1 at x1
  generalize hdb : drw dr ifs + drw dr el = db at hcn' hn k
  have hn2 : n1 + manyD * db ≤ R.nb := by omega
  refine ⟨fun i m H2 => ∃ F' acc ps n', i ≤ ds.length ∧ m = ds.length - i ∧ n' ≤ n1 + i * db ∧ Nxt R n' σ ρ F1 H1 F' H2 ∧ H2 L = some (.lst acc) ∧ ¬ F' L ∧ RpAll R.K F' H2 acc ps ∧ compW step (ds.drop i) ps fun out => Qd (.L out),
    ⟨ds.length, F1, [], [], n1, Nat.zero_le _, rfl, by simp, Nxt.upd x1.env hL, upd_same, fun z => x1.env.fr L z hL, .nil, q1⟩, ?_⟩
  rintro i m H2 ⟨F', acc, ps, n', hil, rfl, hn', nx, hLH, hLF, hr, hq⟩
  have hst : Stay R true F1 H1 H2 := ⟨x1.env.keep nx.ext, fun _ => nx.ext⟩
  by_cases hlt : i < ds.length
  · refine .inr ⟨((yl i F' H2 hst nx.sub).1 ds[i] (List.getElem?_eq_getElem hlt)).1, fun H' => ∃ F2 acc' ps' n'', n'' ≤ n1 + (i + 1) * db ∧ Nxt R n'' σ ρ F1 H1 F2 H' ∧ H' L = some (.lst acc') ∧ ¬ F2 L ∧ RpAll R.K F2 H' acc' ps' ∧ compW step (ds.drop (i + 1)) ps' fun out => Qd (.L out), fun H' ⟨F2, acc', ps', n'', h1, h2, h3, h4, h5, h6⟩ => ⟨ds.length - (i + 1), by omega, F2, acc', ps', n'', hlt, rfl, h1, h2, h3, h4, h5, h6⟩, fun x H3 hy => ?_⟩
    obtain ⟨hcase, rd⟩ := ((yl i F' H2 hst nx.sub).1 ds[i] (List.getElem?_eq_getElem hlt)).2 x H3 hy
    have x3 : Nxt R n' σ ρ F' H2 F' H3 := by
      rcases hcase with e | ⟨p, vs, hp, e⟩
      · subst e; exact .refl nx.env
      · subst e; exact Nxt.upd nx.env hp
    rw [List.drop_eq_getElem_cons hlt] at hq
    have hq : step ds[i] (fun new => ps.length + new.length ≤ sizeLine ∧ compW step (ds.drop (i + 1)) (ps ++ new) fun out => Qd (.L out)) := hq
    have hq : stepC Φ exN (own.map (·.2)) tgC ifs el ρ ds[i] (fun new => ps.length + new.length ≤ sizeLine ∧ compW step (ds.drop (i + 1)) (ps ++ new) fun out => Qd (.L out)) := by rw [hstep]; exact hq
    unfold stepC at hq
    have hdiv : (i + 1) * db = i * db + db := by rw [Nat.add_mul, Nat.one_mul]
    have hms := mul_step hn2 (Nat.succ_le_of_lt hlt) hcn'
    refine ⟨n', F', wipeE ρ (own.map (·.2)), ds[i], _, wipe_both x3.env _, rd, hq, fun σ' ρ' q' E' u ul => ⟨wipe_same hgv u ul, ?_⟩⟩
    have L3 : H3 L = some (.lst acc) := x3.ext L _ hLH (notS_of x1.env.st hL)
    refine ⟨n', F', ρ', _, E', by omega, q', fun dd F5 H5 q5 x5 => ?_⟩
    have up : ∀ {m : Nat} {F6 : Addr → Prop} {H6 : Hp}, Nxt R m σ' ρ' F' H3 F6 H6 → Nxt R m σ ρ F1 H1 F6 H6 ∧ H6 L = some (.lst acc) ∧ ¬ F6 L ∧ RpAll R.K F6 H6 acc ps := fun {m F6 H6} x6 => by
      have y6 := x3.env.after x6.aft
      refine ⟨(nx.trans x3).trans y6, x6.ext L _ L3 (notS_of x1.env.st hL), fun zz => ?_, hr.mono (nx.env.keep (x3.ext.trans x6.ext)) x6.sub⟩
      rcases x6.nw L zz with h | h
      · exact hLF h
      · rw [L3] at h; cases h
    split at q5
    · rename_i kb
      refine ⟨kb, rfl, ?_⟩
      cases kb with
      | false =>
        simp only [Bool.false_eq_true, if_false] at q5 ⊢
        obtain ⟨u1, u2, u3, u4⟩ := up x5
        refine ⟨F5, acc, ps, _, by omega, u1, u2, u3, u4, ?_⟩
        have := q5.2
        rw [List.append_nil] at this
        exact this
      | true =>
        simp only [if_true] at q5 ⊢
        refine ⟨_, F5, ρ', _, x5.env, by omega, q5, fun dy y F6 H6 q6 x6 r6 => ?_⟩
        obtain ⟨u1, u2, u3, u4⟩ := up (x5.trans x6)
        split at q6
        · rename_i pp
          have hlen := u4.length
          have hz : ps.length + 1 ≤ sizeLine := q6.1
          refine ⟨acc, u2, by omega, F6, acc ++ [y], ps ++ [pp], n' + drw dr ifs + drw dr el, by omega, ?_, upd_same, u3, ?_, q6.2⟩
          · have ho : ∀ (i : Nat) (ps : List PyData), ρ[i]? = some (some (Sl.ow ps)) → σ[i]? ≠ some (some (V.ref L)) := x1.env.ownH hL
            have E6 := u1.env.updL (ws := acc ++ [y]) u2 u3 (x1.env.h0 hL) ho
            exact ⟨E6, fun b o q _ => by
              rw [upd_ne (ne_of_none q hL)]
              exact u1.ext b o q (by assumption), u1.sub, u1.nw⟩
          · have k6 : Keep F6 H6 (upd H6 L (.lst (acc ++ [y]))) := fun b o q h => by
              refine (upd_ne ?_).trans q
              intro z
              subst z
              rcases h with h | h
              · exact u3 h
              · rw [u2] at q; cases q; exact h
            exact (u4.mono k6 fun _ h => h).append (.cons (Rp.mono k6 (fun _ h => h) r6) .nil)
        · exact q6.elim
    · exact q5.elim
  · have e : i = ds.length := by omega
    subst e
    refine .inl ⟨(yl _ F' H2 hst nx.sub).2 (Nat.le_refl _), ?_⟩
    rw [List.drop_length] at hq
    have hle : ds.length * db ≤ manyD * db := by
      rcases hcn' with h | h
      · rw [h]; simp
      · exact Nat.mul_le_mul_right _ h
    have hq : Qd (.L ps) := hq
    refine k (.L ps) (.ref L) F' H2 hq ((x1.trans nx).mono (by omega)) (.inr ⟨L, acc, ps, rfl, rfl, x1.ext.fresh x1.env.st hL, hLH, hLF, hr⟩)
/-- a target writes shared slots alone -/
theorem bindG_own : ∀ {tg : C} {d : D} {ρ : Ev} {K K' : Ev → Prop}, bindG tg d ρ K → (∀ ρ1, K ρ1 → (∀ (i : Nat) (ps : List PyData), ρ1[i]? = some (some (Sl.ow ps)) → i ∉ gvs tg ∧ ρ[i]? = some (some (Sl.ow ps))) → K' ρ1) → bindG tg d ρ K' := by
  intro tg
  induction tg with
  | var j =>
    intro d ρ K K' h k
    refine k _ h fun i ps e => ?_
    by_cases z : i = j
    · subst z
      by_cases hl : i < ρ.length
      · rw [List.getElem?_set_self hl] at e; cases e
      · rw [List.getElem?_eq_none (by rw [List.length_set]; omega)] at e; cases e
    · rw [List.getElem?_set_ne (Ne.symm z)] at e
      exact ⟨by show i ∉ [j]; rw [List.mem_singleton]; exact z, e⟩
  | tup as ih =>
    intro d ρ K K' h k
    cases d with
    | py p =>
      cases p with
      | tuple ps => exact ih h k
      | _ => exact absurd h (by unfold bindG; exact id)
    | _ => exact absurd h (by unfold bindG; exact id)
  | nil =>
    intro d ρ K K' h k
    cases d with
    | args ds =>
      cases ds with
      | nil => exact k _ h fun i ps e => ⟨(by intro z; cases z), e⟩
      | cons _ _ => exact absurd h (by unfold bindG; exact id)
    | _ => exact absurd h (by unfold bindG; exact id)
  | cons a r iha ihr =>
    intro d ρ K K' h k
    cases d with
    | args ds =>
      cases ds with
      | nil => exact absurd h (by unfold bindG; exact id)
      | cons d ds =>
        refine iha (K := fun ρ1 => bindG r (.args ds) ρ1 K) h fun ρ1 h1 o1 => ihr h1 fun ρ2 h2 o2 => k _ h2 fun i ps e => ?_
        obtain ⟨g1, g2⟩ := o2 i ps e
        obtain ⟨g3, g4⟩ := o1 i ps g2
        exact ⟨fun z => (List.mem_append.mp z).elim g3 g1, g4⟩
    | _ => exact absurd h (by unfold bindG; exact id)
  | _ =>
    intro d ρ K K' h k
    exact absurd h (by simp [bindG])
theorem wipeE_own {ρ : Ev} {i : Nat} {s : Sl} : ∀ {vs : List Nat}, (wipeE ρ vs)[i]? = some (some s) → i ∉ vs ∧ ρ[i]? = some (some s)
  | [], h => ⟨(by intro z; cases z), h⟩
  | v :: vs, h => by
    have h : ((wipeE ρ vs).set v none)[i]? = some (some s) := h
    by_cases z : i = v
    · subst z
      by_cases hl : i < (wipeE ρ vs).length
      · rw [List.getElem?_set_self hl] at h; cases h
      · rw [List.getElem?_eq_none (by rw [List.length_set]; omega)] at h; cases h
    · rw [List.getElem?_set_ne (Ne.symm z)] at h
      obtain ⟨h1, h2⟩ := wipeE_own h
      exact ⟨fun w => (List.mem_cons.mp w).elim z h1, h2⟩
/-- one turn of the first source -/
def stepA (Φ : Nat → List D → (D → Prop) → (Nat → Prop) → Prop) (exN : Nat → Str) (vs vs1 : List Nat) (tgC ifs src1 tg1 ifs1 el : C) (ρ : Ev) (d : D) (acc : List PyData) (K : List PyData → Prop) : Prop :=
  bindG tgC d (wipeE ρ vs) fun ρ1 => wp Φ exN ifs ρ1 (fun t => match t with
          | .py (.bool k) => if k = true then wp Φ exN src1 ρ1 (fun x1 => match itemsD x1 with
              | some ds1 => compW (stepC Φ exN vs1 tg1 ifs1 el ρ1) ds1 acc K
              | none => False) noE else K acc
          | _ => False) noE
theorem wp_comp2 {vs1 : List Nat} {tg1 src1 ifs1 : C} {ρ : Ev} {Q : D → Prop} {E : Nat → Prop} (h : wp Φ exN (.comp2 own vs1 el tgC src ifs tg1 src1 ifs1) ρ Q E) : wp Φ exN src ρ (fun x => match itemsD x with
      | some ds => compA (stepA Φ exN (own.map (·.2)) vs1 tgC ifs src1 tg1 ifs1 el ρ) ds [] fun out => Q (.L out)
      | none => False) E := h
theorem comp2_read {vs1 : List Nat} {tg1 src1 ifs1 : C} {σ : St} {H : Hp} {Q : VK} (hgv : ∀ i ∈ gvs tgC, i ∈ own.map (·.2)) (hgv1 : ∀ i ∈ gvs tg1, i ∈ vs1) (hd : drw dr ifs + drw dr src1 + drw dr ifs1 + drw dr el = 0)
    (h : TEx Φ exN dr R (rlN R) Ed (.comp2 own vs1 el tgC src ifs tg1 src1 ifs1) σ H Q) :
    tLc2 (TIx Φ exN dr R true Ed src) (TGx R tgC) (TTx Φ exN dr R noE ifs) (TIx Φ exN dr R false noE src1) (TGx R tg1) (TTx Φ exN dr R noE ifs1) (TEx Φ exN dr R (rlD R) noE el) (own.map (·.2)) vs1 σ H Q := by
  obtain ⟨n, F, ρ, Qd, E, hn, hw, k⟩ := h
  have hw := wp_comp2 hw
  simp only [drw] at hn k
  have d1 : drw dr ifs = 0 := by omega
  have d2 : drw dr src1 = 0 := by omega
  have d3 : drw dr ifs1 = 0 := by omega
  have d4 : drw dr el = 0 := by omega
  rw [d1, d2, d3, d4] at hn k
  simp only [Nat.mul_zero, Nat.add_zero] at hn k
  refine ⟨n, F, ρ, _, E, hn, hw, fun d q => ?_, fun d ds J F1 H1 q1 hi x1 yl _ => ?_⟩
  · cases e : itemsD d with
    | none => rw [e] at q; exact q.elim
    | some ds => exact ⟨ds, rfl⟩
  rw [hi] at q1
  intro L hL
  generalize hstep : stepA Φ exN (own.map (·.2)) vs1 tgC ifs src1 tg1 ifs1 el ρ = step at q1
  generalize hn1 : n + drw dr src = n1 at x1 hn k
  refine ⟨fun i m H2 => ∃ F' acc ps, i ≤ ds.length ∧ m = ds.length - i ∧ Nxt R n1 σ ρ F1 H1 F' H2 ∧ H2 L = some (.lst acc) ∧ ¬ F' L ∧ RpAll R.K F' H2 acc ps ∧ compA step (ds.drop i) ps fun out => Qd (.L out),
    ⟨ds.length, F1, [], [], Nat.zero_le _, rfl, Nxt.upd x1.env hL, upd_same, fun z => x1.env.fr L z hL, .nil, q1⟩, ?_⟩
  rintro i m H2 ⟨F', acc, ps, hil, rfl, nx, hLH, hLF, hr, hq⟩
  have hst : Stay R true F1 H1 H2 := ⟨x1.env.keep nx.ext, fun _ => nx.ext⟩
  by_cases hlt : i < ds.length
  · refine .inr ⟨((yl i F' H2 hst nx.sub).1 ds[i] (List.getElem?_eq_getElem hlt)).1, fun H' => ∃ F2 acc' ps', Nxt R n1 σ ρ F1 H1 F2 H' ∧ H' L = some (.lst acc') ∧ ¬ F2 L ∧ RpAll R.K F2 H' acc' ps' ∧ compA step (ds.drop (i + 1)) ps' fun out => Qd (.L out), fun H' ⟨F2, acc', ps', h2, h3, h4, h5, h6⟩ => ⟨ds.length - (i + 1), by omega, F2, acc', ps', hlt, rfl, h2, h3, h4, h5, h6⟩, fun x H3 hy => ?_⟩
    obtain ⟨hcase, rd⟩ := ((yl i F' H2 hst nx.sub).1 ds[i] (List.getElem?_eq_getElem hlt)).2 x H3 hy
    have x3 : Nxt R n1 σ ρ F' H2 F' H3 := by
      rcases hcase with e | ⟨p, vs, hp, e⟩
      · subst e; exact .refl nx.env
      · subst e; exact Nxt.upd nx.env hp
    rw [List.drop_eq_getElem_cons hlt] at hq
    have hq : step ds[i] ps (fun acc' => compA step (ds.drop (i + 1)) acc' fun out => Qd (.L out)) := hq
    generalize hKK : (fun acc' => compA step (ds.drop (i + 1)) acc' fun out => Qd (.L out)) = KK at hq
    have hq : stepA Φ exN (own.map (·.2)) vs1 tgC ifs src1 tg1 ifs1 el ρ ds[i] ps KK := by rw [hstep]; exact hq
    unfold stepA at hq
    have ho : ∀ (i : Nat) (ps : List PyData), ρ[i]? = some (some (Sl.ow ps)) → σ[i]? ≠ some (some (V.ref L)) := x1.env.ownH hL
    refine ⟨n1, F', wipeE ρ (own.map (·.2)), ds[i], _, wipe_both x3.env _, rd, bindG_own hq (fun ρ1 a b => And.intro a b), fun σ' ρ' ⟨q', own'⟩ E' u ul => ⟨wipe_same hgv u ul, ?_⟩⟩
    have L3 : H3 L = some (.lst acc) := x3.ext L _ hLH (notS_of x1.env.st hL)
    have ho' : ∀ (j : Nat) (qs : List PyData), ρ'[j]? = some (some (Sl.ow qs)) → σ'[j]? ≠ some (some (V.ref L)) := fun j qs hj => by
      obtain ⟨a, b⟩ := own' j qs hj
      obtain ⟨c, e⟩ := wipeE_own b
      rw [u j a, wipe_get, if_neg c]
      exact ho j qs e
    refine ⟨n1, F', ρ', _, E', by rw [d1]; exact hn, q', fun dd F5 H5 q5 x5 => ?_⟩
    rw [d1] at x5
    have up : ∀ {F6 : Addr → Prop} {H6 : Hp}, Nxt R n1 σ' ρ' F' H3 F6 H6 → Nxt R n1 σ ρ F1 H1 F6 H6 ∧ H6 L = some (.lst acc) ∧ ¬ F6 L ∧ RpAll R.K F6 H6 acc ps := fun {F6 H6} x6 => by
      have y6 := x3.env.after x6.aft
      refine ⟨(nx.trans x3).trans y6, x6.ext L _ L3 (notS_of x1.env.st hL), fun zz => ?_, hr.mono (nx.env.keep (x3.ext.trans x6.ext)) x6.sub⟩
      rcases x6.nw L zz with h | h
      · exact hLF h
      · rw [L3] at h; cases h
    split at q5
    · rename_i kb
      refine ⟨kb, rfl, ?_⟩
      cases kb with
      | false =>
        simp only [Bool.false_eq_true, if_false] at q5 ⊢
        obtain ⟨u1, u2, u3, u4⟩ := up x5
        rw [← hKK] at q5
        exact ⟨F5, acc, ps, u1, u2, u3, u4, q5⟩
      | true =>
        simp only [if_true] at q5 ⊢
        refine ⟨n1, F5, ρ', _, x5.env, by rw [d2]; exact hn, q5, fun d q => ?_, fun e2 ds2 J2 F6 H6 q6 hi6 x6 yl2 _ => ?_⟩
        · cases e : itemsD d with
          | none => rw [e] at q; exact q.elim
          | some ds => exact ⟨ds, rfl⟩
        rw [hi6] at q6
        rw [d2] at x6
        obtain ⟨u1, u2, u3, u4⟩ := up (x5.trans x6)
        generalize hstep2 : stepC Φ exN vs1 tg1 ifs1 el ρ' = step2 at q6
        refine ⟨fun j k H => ∃ F7 acc7 ps7, j ≤ ds2.length ∧ k = ds2.length - j ∧ EnvOk R n1 F7 σ' H ρ' ∧ Keep F6 H6 H ∧ (∀ a, F6 a → F7 a) ∧ Nxt R n1 σ ρ F1 H1 F7 H ∧ H L = some (.lst acc7) ∧ ¬ F7 L ∧ RpAll R.K F7 H acc7 ps7 ∧ compW step2 (ds2.drop j) ps7 KK,
          ⟨ds2.length, F6, acc, ps, Nat.zero_le _, rfl, x6.env, fun _ _ h _ => h, fun _ h => h, u1, u2, u3, u4, q6⟩, ?_⟩
        rintro j k H7 ⟨F7, acc7, ps7, hjl, rfl, E7, k7, s7, nx7, hLH7, hLF7, hr7, hq7⟩
        have hst2 : Stay R false F6 H6 H7 := ⟨k7, fun z => (nomatch z)⟩
        by_cases hlt2 : j < ds2.length
        · refine .inr ⟨((yl2 j F7 H7 hst2 s7).1 ds2[j] (List.getElem?_eq_getElem hlt2)).1, fun H' => ∃ F8 acc8 ps8, EnvOk R n1 F8 σ' H' ρ' ∧ Keep F6 H6 H' ∧ (∀ a, F6 a → F8 a) ∧ Nxt R n1 σ ρ F1 H1 F8 H' ∧ H' L = some (.lst acc8) ∧ ¬ F8 L ∧ RpAll R.K F8 H' acc8 ps8 ∧ compW step2 (ds2.drop (j + 1)) ps8 KK,
            fun H' ⟨F8, acc8, ps8, h1, h2, h3, h4, h5, h6, h7, h8⟩ => ⟨ds2.length - (j + 1), by omega, F8, acc8, ps8, hlt2, rfl, h1, h2, h3, h4, h5, h6, h7, h8⟩, fun x2 H8 hy2 => ?_⟩
          obtain ⟨hcase2, rd2⟩ := ((yl2 j F7 H7 hst2 s7).1 ds2[j] (List.getElem?_eq_getElem hlt2)).2 x2 H8 hy2
          have y8 : Nxt R n1 σ' ρ' F7 H7 F7 H8 := by
            rcases hcase2 with e | ⟨p, vs, hp, e⟩
            · subst e; exact .refl E7
            · subst e; exact Nxt.upd E7 hp
          have z8 : Nxt R n1 σ ρ F7 H7 F7 H8 := nx7.env.after y8.aft
          rw [List.drop_eq_getElem_cons hlt2] at hq7
          have hq7 : step2 ds2[j] (fun new => ps7.length + new.length ≤ sizeLine ∧ compW step2 (ds2.drop (j + 1)) (ps7 ++ new) KK) := hq7
          have hq7 : stepC Φ exN vs1 tg1 ifs1 el ρ' ds2[j] (fun new => ps7.length + new.length ≤ sizeLine ∧ compW step2 (ds2.drop (j + 1)) (ps7 ++ new) KK) := by rw [hstep2]; exact hq7
          unfold stepC at hq7
          refine ⟨n1, F7, wipeE ρ' vs1, ds2[j], _, wipe_both y8.env _, rd2, hq7, fun σ3 ρ3 q3 E3 w wl => ⟨wipe_same hgv1 w wl, ?_⟩⟩
          have nS : NotS R.sa L := notS_of x1.env.st hL
          have L8 : H8 L = some (.lst acc7) := y8.ext L _ hLH7 nS
          refine ⟨n1, F7, ρ3, _, E3, by rw [d3]; exact hn, q3, fun dd2 F9 H9 q9 x9 => ?_⟩
          rw [d3] at x9
          have up2 : ∀ {F6' : Addr → Prop} {H6' : Hp}, Nxt R n1 σ3 ρ3 F7 H8 F6' H6' → EnvOk R n1 F6' σ' H6' ρ' ∧ Keep F6 H6 H6' ∧ (∀ a, F6 a → F6' a) ∧ Nxt R n1 σ ρ F1 H1 F6' H6' ∧ H6' L = some (.lst acc7) ∧ ¬ F6' L ∧ RpAll R.K F6' H6' acc7 ps7 := fun {F6' H6'} x => by
            have y := y8.env.after x.aft
            have z := z8.env.after x.aft
            have kk : Keep F7 H7 H6' := E7.keep (y8.ext.trans y.ext)
            refine ⟨y.env, fun b o q h => kk b o (k7 b o q h) (h.imp (s7 b) id), fun a h => y.sub a (s7 a h), (nx7.trans z8).trans z, x.ext L _ L8 nS, fun zz => ?_, hr7.mono kk x.sub⟩
            rcases x.nw L zz with h | h
            · exact hLF7 h
            · rw [L8] at h; cases h
          split at q9
          · rename_i kb2
            refine ⟨kb2, rfl, ?_⟩
            cases kb2 with
            | false =>
              simp only [Bool.false_eq_true, if_false] at q9 ⊢
              obtain ⟨v1, v2, v3, v4, v5, v6, v7⟩ := up2 x9
              refine ⟨F9, acc7, ps7, v1, v2, v3, v4, v5, v6, v7, ?_⟩
              have := q9.2
              rw [List.append_nil] at this
              exact this
            | true =>
              simp only [if_true] at q9 ⊢
              refine ⟨n1, F9, ρ3, _, x9.env, by rw [d4]; exact hn, q9, fun dy y F10 H10 q10 x10 r10 => ?_⟩
              rw [d4] at x10
              obtain ⟨v1, v2, v3, v4, v5, v6, v7⟩ := up2 (x9.trans x10)
              split at q10
              · rename_i pp
                have hlen := v7.length
                have hz : ps7.length + 1 ≤ sizeLine := q10.1
                have k10 : Keep F10 H10 (upd H10 L (.lst (acc7 ++ [y]))) := fun b o q h => by
                  refine (upd_ne ?_).trans q
                  intro z
                  subst z
                  rcases h with h | h
                  · exact v6 h
                  · rw [v5] at q; cases q; exact h
                have E6 := v4.env.updL (ws := acc7 ++ [y]) v5 v6 (x1.env.h0 hL) ho
                refine ⟨acc7, v5, by omega, F10, acc7 ++ [y], ps7 ++ [pp], v1.updL v5 v6 (x1.env.h0 hL) ho', fun b o q h => k10 b o (v2 b o q h) (h.imp (v3 b) id), v3, ⟨E6, fun b o q nb => ?_, v4.sub, v4.nw⟩, upd_same, v6, ?_, q10.2⟩
                · rw [upd_ne (ne_of_none q hL)]
                  exact v4.ext b o q nb
                · exact (v7.mono k10 fun _ h => h).append (.cons (Rp.mono k10 (fun _ h => h) r10) .nil)
              · exact q10.elim
          · exact q9.elim
        · have e : j = ds2.length := by omega
          subst e
          refine .inl ⟨(yl2 _ F7 H7 hst2 s7).2 (Nat.le_refl _), ?_⟩
          rw [List.drop_length] at hq7
          have hq7 : KK ps7 := hq7
          rw [← hKK] at hq7
          exact ⟨F7, acc7, ps7, nx7, hLH7, hLF7, hr7, hq7⟩
    · exact q5.elim
  · have e : i = ds.length := by omega
    subst e
    refine .inl ⟨(yl _ F' H2 hst nx.sub).2 (Nat.le_refl _), ?_⟩
    rw [List.drop_length] at hq
    have hq : Qd (.L ps) := hq
    exact k (.L ps) (.ref L) F' H2 hq (x1.trans nx) (.inr ⟨L, acc, ps, rfl, rfl, x1.ext.fresh x1.env.st hL, hLH, hLF, hr⟩)
end
end Y

/-! part Y15 -/
set_option Elab.async false
set_option linter.all false
set_option maxRecDepth 100000
set_option maxHeartbeats 1000000
/-! Y15: loops over defs; enumerate of lists and tuples. -/
namespace Y
open PySem PySem.Spec
open PyProof.Rows hiding St
open L2
/-! ### a written list of defs -/
def fnsC : List Nat → C
  | [] => .nil
  | k :: ks => .cons (.fnv k) (fnsC ks)
section
variable {Φ : Nat → List D → (D → Prop) → (Nat → Prop) → Prop} {exN : Nat → Str} {dr : Nat → Nat}
variable {X : Cx} {R : RT} {Ed : Nat → Prop} {tg e : Expr} {es : List Expr} {a b c : C} {pos p : Pos}
variable {F F' : Addr → Prop} {H H' : Hp}
theorem wp_fnsC {ρ : Ev} {Q : D → Prop} {E : Nat → Prop} : ∀ {ks : List Nat}, wp Φ exN (fnsC ks) ρ Q E = Q (.args (ks.map D.fn))
  | [] => rfl
  | k :: ks => by
    show wp Φ exN (fnsC ks) ρ (fun x => match x with | .args ds => Q (.args (D.fn k :: ds)) | _ => False) E = _
    rw [wp_fnsC (ks := ks)]
    rfl
theorem drw_fnsC : ∀ {ks : List Nat}, drw dr (fnsC ks) = 0
  | [] => rfl
  | k :: ks => by
    show drw dr (.fnv k) + drw dr (fnsC ks) = 0
    rw [drw_fnsC (ks := ks)]
    rfl
theorem yl_fns {bb : Bool} {a : Addr} {vs : List V} {ks : List Nat} (h1 : H a = some (.lst vs)) (h2 : RA R F H vs (ks.map D.fn)) (h3 : F a) : Yl R bb (Itl R.K a) (ks.map D.fn) F H := by
  intro i F' H' st sub
  have e : H' a = some (.lst vs) := st.1 _ _ h1 (.inl h3)
  have key : ∀ {vs : List V} {ks : List Nat}, RA R F H vs (ks.map D.fn) → vs = ks.map fun k => V.ref (R.fa k) := by
    intro vs
    induction vs with
    | nil =>
      intro ks h
      cases ks with
      | nil => rfl
      | cons _ _ => exact h.elim
    | cons v vs ih =>
      intro ks h
      cases ks with
      | nil => exact h.elim
      | cons k ks =>
        have h' : RD R F H v (.fn k) ∧ RA R F H vs (ks.map D.fn) := h
        have h1 : v = V.ref (R.fa k) := h'.1
        rw [h1, ih h'.2]
        rfl
  have ev := key h2
  refine ⟨fun d hd => ?_, fun hl => ⟨vs, SqL.of e, by rw [ev, List.length_map]; simpa using hl⟩⟩
  rw [List.getElem?_map] at hd
  cases q : ks[i]? with
  | none => rw [q] at hd; cases hd
  | some k =>
    rw [q] at hd
    have hd := Option.some.inj hd
    subst hd
    have hv : vs[i]? = some (V.ref (R.fa k)) := by rw [ev, List.getElem?_map, q]; rfl
    refine ⟨⟨vs, _, SqL.of e, hv⟩, fun x H'' ⟨eq, y⟩ => ⟨.inl eq, ?_⟩⟩
    have := y vs (SqL.of e)
    rw [hv] at this
    cases this
    rfl
theorem nd_ifns (hK : X.K = R.K) {bb : Bool} {ks : List Nat} (ha : PA X es (TAx Φ exN dr R (rlD R) Ed (fnsC ks))) (hl : ks.length ≤ 100) : PI X tg (.List es pos) (TIx Φ exN dr R bb Ed (.fns ks)) :=
  PIw (pi_list (pe_lst ha)) fun σ H K ⟨n, F, ρ, Qd, E, hn, hw, hi, k⟩ => by
    simp only [wp] at hw
    have h0 : drw dr (C.fns ks) = 0 := rfl
    rw [h0, Nat.add_zero] at hn k
    refine ⟨n, F, ρ, fun d => d = .args (ks.map D.fn), E, by rw [drw_fnsC]; exact hn, by rw [wp_fnsC], fun ds vs F1 H1 q1 x1 r1 _ => ?_⟩
    rw [drw_fnsC, Nat.add_zero] at x1
    have e1 : ds = ks.map D.fn := by cases q1; rfl
    subst e1
    have hr := r1.ra
    have hlen : vs.length = ks.length := by rw [hr.length, List.length_map]
    refine ⟨by rw [hlen]; exact Nat.le_trans hl (by decide), fun p hp => ⟨p, rfl, ⟨vs, SqL.of upd_same⟩, ?_⟩⟩
    have hp0 : H p = none := x1.ext.fresh x1.env.st hp
    have u := Nxt.upd x1.env hp (o := .lst vs)
    have x2 := x1.trans u
    have hk : Keep F1 H1 (upd H1 p (.lst vs)) := x1.env.keep u.ext
    have hr2 : RA R (fun b => F1 b ∨ b = p) (upd H1 p (.lst vs)) vs (ks.map D.fn) := by
      have : ∀ {vs : List V} {ks : List Nat}, RA R F1 H1 vs (ks.map D.fn) → RA R (fun b => F1 b ∨ b = p) (upd H1 p (.lst vs)) vs (ks.map D.fn) := by
        intro vs
        have : ∀ (H2 : Hp) {ws : List V} {ks : List Nat}, RA R F1 H1 ws (ks.map D.fn) → RA R (fun b => F1 b ∨ b = p) H2 ws (ks.map D.fn) := by
          intro H2 ws
          induction ws with
          | nil =>
            intro ks h
            cases ks with
            | nil => trivial
            | cons _ _ => exact h.elim
          | cons v ws ih =>
            intro ks h
            cases ks with
            | nil => exact h.elim
            | cons k ks => exact ⟨h.1, ih h.2⟩
        intro ks h
        exact this _ h
      exact this hr
    have E2 : Nxt R n σ ρ F H (fun b => F1 b ∨ b = p) (upd H1 p (.lst vs)) := ⟨x2.env.freeze (by rw [upd_same]; exact fun z => (nomatch z)) (notS_of E.st hp0) (E.h0 hp0) (E.ownH hp0), x2.ext, fun b hb => .inl (x2.sub b hb), fun b hb => hb.elim (x2.nw b) fun z => .inr (z ▸ hp0)⟩
    rw [hK]
    refine k _ _ _ _ _ hw rfl E2 (yl_fns upd_same hr2 (.inr rfl)) fun z => ?_
    cases z
end
/-! ### enumerate -/
/-- the tuple at a as it stands at each turn, each item in a new pair -/
def IteT (K : PySem.W.Frag) (a : Addr) : It :=
  ⟨fun i H => ∃ (xs : List V) (x : V), SqT K H a xs ∧ xs[i]? = some x, fun i H v H' => ∃ T x, v = .ref T ∧ H T = none ∧ H' = upd H T (.tup [.int (i : Nat), x]) ∧ ∀ xs, SqT K H a xs → xs[i]? = some x, fun i H => ∃ xs : List V, SqT K H a xs ∧ xs.length ≤ i⟩
theorem turn_enumT {P : Program} {w : World} {K : PySem.W.Frag} {elts : List Expr} {kk : Nat} {tpos : Pos} (a e it : Addr) :
    Turn P w K (.Tuple elts kk tpos) (IteT K a) [e, it] e (fun i h => (∃ old, IsEnum h e it ((i : Nat) : Int) old) ∧ h.IsTupleIter it a i ∧ e ≠ it ∧ e ≠ a ∧ a ≠ it) where
  mem := by simp
  obj := fun i h st b hb => by
    obtain ⟨⟨old, he⟩, ⟨o, ho, hc, hd⟩, _⟩ := st
    have e' : b = e ∨ b = it := by simpa using hb
    rcases e' with z | z
    · rw [z]; exact ⟨_, he, fun v q => nomatch q⟩
    · rw [z]; exact ⟨o, ho, fun v q => by rw [hd] at q; cases q⟩
  keep := fun i h h' st k => let ⟨⟨old, he⟩, hi, hne⟩ := st; ⟨⟨old, k e (by simp) _ he⟩, hi.at fun o q => k it (by simp) o q, hne⟩
  item := by
    intro X hP hw hK hc i pins s σ H E I hf st hg
    subst hP hw hK
    obtain ⟨⟨old, he⟩, hit, hne, hea, hai⟩ := st
    obtain ⟨xs, x, hq, hx⟩ := hg
    obtain ⟨its, rv, p, hz⟩ := I.tuple hq
    have hu := rv.get hx
    have hel : e < s.heap.objs.size := Heap.lt_size he
    have hil : it < s.heap.objs.size := by obtain ⟨_, q, _⟩ := hit; exact Heap.lt_size q
    have hlen := rv.length
    have hlt : i < its.toArray.size := by
      have := (List.getElem?_eq_some_iff.mp hx).1
      simp only [List.size_toArray]
      omega
    have D := Draws.tuple (prog := X.prog) (w := X.w) (A := X.A.in1) (I.ok.hd hc) it a hai its.toArray
    refine wpAny_pyNext_enum_itemD D he ⟨hit, p⟩ hlt hne (by simp; exact ⟨hne, hea⟩) fun u h' tk hux ho hst' hT hsz hk => ?_
    obtain ⟨hit', _⟩ := hst'
    refine ⟨_, rfl, wpAny_letOwnedTupleGo_enum (s := { s with heap := h', toks := tk + 1 }) ho fun h'' he' sb => ?_⟩
    have hT2 : h''.get? s.heap.objs.size = some { cls := .type "tuple", data := .seq #[.int i tk, u] } := (sb.2 _ (Nat.ne_of_gt hel)).trans hT
    obtain ⟨u', hu', ru⟩ := hu
    have eu : u' = u := by
      have h1 : its[i]? = some u := by simpa using hux
      rw [hu'] at h1
      exact Option.some.inj h1
    subst eu
    have new : ObjOk X.prog X.w (upd H s.heap.objs.size (.tup [.int (i : Nat), x])) h'' s.heap.objs.size (.tup [.int (i : Nat), x]) :=
      ⟨by show 2 ≤ sizeLine; decide, [.int i tk, u'], .cons ⟨_, rfl⟩ (.cons ru .nil), ⟨_, hT2, rfl, _, rfl⟩⟩
    have I1 : Inv X pins σ (upd H s.heap.objs.size (.tup [.int (i : Nat), x])) { s with heap := h'', toks := tk + 1 } :=
      I.turnedNew (ch := [e, it]) (fun b ob hb q => (sb.2 b (fun z => hb (by simp [z]))).trans (hk b ob (fun z => hb (by simp [z])) (fun z => hb (by simp [z])) q)) hf (Nat.le_refl _) new
    refine ⟨.ref s.heap.objs.size, _, I1, rfl, ⟨_, x, rfl, I.hok.fresh (Nat.le_refl _), rfl, fun ys hy => by rw [I.tuple_inj hy hq]; exact hx⟩, ⟨⟨u', ?_⟩, hit'.at fun o q => (sb.2 it (Ne.symm hne)).trans q, hne, hea, hai⟩, fun b hb => ?_⟩
    · have e1 : ((i + 1 : Nat) : Int) = (i : Int) + 1 := by omega
      rw [e1]; exact he'
    · have hb' : b < s.heap.objs.size := by
        have e' : b = e ∨ b = it := by simpa using hb
        rcases e' with z | z
        · rw [z]; exact hel
        · rw [z]; exact hil
      rw [upd_ne (Nat.ne_of_lt hb')]
      exact (hf b hb).1
  done := by
    intro X hP hw hK hc i pins s σ H E I hf st hg
    subst hP hw hK
    obtain ⟨⟨old, he⟩, hit, hne, hea, hai⟩ := st
    obtain ⟨xs, hq, hx⟩ := hg
    obtain ⟨its, rv, p, hz⟩ := I.tuple hq
    obtain ⟨f0, f1, f2, f3, f4, f5⟩ := hf it (by simp)
    have hl := rv.length
    have hT : s.TypeIs (.ref e) "enumerate" := ⟨_, he, rfl⟩
    unfold pyNext
    refine wpAny_bind (wpAny_attempt (wpAny_callSpecial?_slot (name := Str.ofString "__next__") hT F.slot_enumerate_next
      (wpAny_call_entry F.slot_enumerate_next hT F.entry_enumerate_next ?_ (F.args_enumerate_next_1 _))))
    show wpAny _ _ (field (.ref e) 2 >>= _) _ _ _
    refine wpAny_bind (wpAny_field he rfl (x := .ref it) rfl ?_)
    refine wpAny_bind (wpAny_nextOf_tuple_end (I.ok.hd hc) hit p (by simp; omega) fun h' x he' hx' => ?_)
    obtain ⟨o, ho, hc'⟩ := hx'
    refine wpAny_bind (wpAny_isInstance (T := "StopIteration") (b := true) ⟨o, ho, hc'⟩ isSubtype_stop ?_)
    exact wpAny_pure ⟨rfl, I.turned (t' := s.toks) (fun b o hb q => he' b o hb q) f0 f1 f3 f4 f5⟩
  self := fun A i s Q E st h => let ⟨⟨_, he⟩, _⟩ := st; wpAny_pyIter_enum he h
theorem meets_enumerate_newT (l : Addr) (items : Array Value) :
    Meets (Builtin.«enumerate.__new__» ⟨[.type "enumerate", .ref l], []⟩) (fun _ R s => s.heap.IsTuple l items ∧
      R (.ok (.ret (.ref (s.heap.push { cls := .type "tuple_iterator", data := .fields #[.ref l, .int 0 0] }).objs.size)))
        { s with heap := (s.heap.push { cls := .type "tuple_iterator", data := .fields #[.ref l, .int 0 0] }).push { cls := .type "enumerate", data := .fields #[.none, .bool false, .ref s.heap.objs.size, rawInt 0, .none, .none] } }) :=
  .of_wp fun prog w A R s h => by
    obtain ⟨hp, g, d, tk, os⟩ := s; obtain ⟨hl, h⟩ := h
    have hsub := sub_enumerate
    have q1 : ∀ {A' : Around} {E : Value → Shared → Prop} {Q : Value → Shared → Prop}, Q (.ref hp.objs.size) ⟨hp.push { cls := .type "tuple_iterator", data := .fields #[.ref l, .int 0 0] }, g, d, tk, os⟩ → wpAny (model prog w) A' (pyIter (.ref l)) Q E ⟨hp, g, d, tk, os⟩ :=
      fun q => wpAny_pyIter_tuple (show Heap.IsTuple (Shared.heap ⟨hp, g, d, tk, os⟩) l items from hl) q
    wp_walk using q1
    refine wpAny_stack_any fun st => wpAny_pure ?_
    split
    · rename_i c _ _ _ _ _
      cases (c == Value.type "enumerate")
      · wp_walk using q1
        exact ⟨_, rfl, h⟩
      · wp_walk using q1
        exact ⟨_, rfl, h⟩
    · wp_walk using q1
      exact ⟨_, rfl, h⟩
theorem call_enumerate_tup {prog : Program} {w : World} {A : Around} {E : Value → Shared → Prop} {s : Shared} {l : Addr} {items : Array Value} {Q : Value → Shared → Prop} (hL : s.heap.IsTuple l items)
    (h : ∀ h', IsEnum h' (s.heap.objs.size + 1) s.heap.objs.size 0 .none → h'.IsTupleIter s.heap.objs.size l 0 → h'.objs.size = s.heap.objs.size + 2 →
      (∀ b o, s.heap.get? b = some o → h'.get? b = some o) → Q (.ref (s.heap.objs.size + 1)) { s with heap := h' }) :
    wpAny (model prog w) A (call (.type "enumerate") [.ref l]) Q E s := by
  refine callType_new F.called_enumerate (by decide) (F.typeCall_enumerate_1 _) (F.newCall_enumerate_1 _) (fun obj => F.args_object_init_2 obj _) F.entry_enumerate_new
    (meets_enumerate_newT l items) ⟨hL, ?_⟩
  have hz : (s.heap.push { cls := .type "tuple_iterator", data := .fields #[.ref l, .int 0 0] }).objs.size = s.heap.objs.size + 1 := Heap.size_push ..
  show _ ∧ _
  rw [hz]
  have he : IsEnum ((s.heap.push { cls := .type "tuple_iterator", data := .fields #[.ref l, .int 0 0] }).push
      { cls := .type "enumerate", data := .fields #[.none, .bool false, .ref s.heap.objs.size, rawInt 0, .none, .none] }) (s.heap.objs.size + 1) s.heap.objs.size 0 .none := by
    have := Heap.get?_push_size (s.heap.push { cls := .type "tuple_iterator", data := .fields #[.ref l, .int 0 0] })
      (o := { cls := .type "enumerate", data := .fields #[.none, .bool false, .ref s.heap.objs.size, rawInt 0, .none, .none] }) rfl
    rw [hz] at this; exact this
  refine ⟨⟨_, he, rfl⟩, h _ he ⟨_, Heap.get?_push_of_some _ (Heap.get?_push_size _ rfl), rfl, rfl⟩ (by rw [Heap.size_push, hz]) fun b o x => Heap.get?_push_of_some _ (Heap.get?_push_of_some _ x)⟩
/-- enumerate(x), x a list or a tuple -/
def iEnumA (K : PySem.W.Frag) (te : TE) : TI := fun σ H R => te σ H fun x H1 => (∃ a, x = .ref a ∧ (∃ xs, SqL K H1 a xs) ∧ R (Ite K a) H1) ∨ ∃ a, x = .ref a ∧ (∃ xs, SqT K H1 a xs) ∧ R (IteT K a) H1
theorem pi_enumA {X : Cx} {e : Expr} {te : TE} {p pos tpos : Pos} {elts : List Expr} {kk : Nat} (hg : Gl X "enumerate") (hm : X.mg "enumerate" = none) (he : PE X e te) (hs : starEach [e] X.env = (false, eval e X.env) :: starEach [] X.env := by rfl) :
    PI X (.Tuple elts kk tpos) (.Call (.Name "enumerate" p) [e] [] pos) (iEnumA X.K te) := by
  refine ⟨fun pins s σ H R I h => ?_⟩
  refine Call_ (ld_blt I hg hm boot_enumerate (PyProof.Rows.callWith_type1 (args_cons (thn (he.run pins s σ H _ I h) fun u s1 ⟨v, H1, I1, r1, q1⟩ => args_nil ?_) hs) hs rfl))
  have fresh2 : ∀ b, b ∈ [s1.heap.objs.size + 1, s1.heap.objs.size] → FpOk X pins H1 b := fun b hb => by
    have e' : b = s1.heap.objs.size + 1 ∨ b = s1.heap.objs.size := by simpa using hb
    have hle : s1.heap.objs.size ≤ b := by
      rcases e' with z | z
      · rw [z]; exact Nat.le_add_right _ _
      · rw [z]; exact Nat.le_refl _
    exact I1.fpOk hle (I1.hok.fresh hle)
  rcases q1 with ⟨a, e, ⟨xs, hq⟩, q⟩ | ⟨a, e, ⟨xs, hq⟩, q⟩
  · subst e
    cases r1
    obtain ⟨its, rv, p', hz⟩ := I1.list hq
    refine call_enumerate_list p'.isList fun h' he hit hsz hk => wpAny_pyIter_enum he ?_
    have I2 : Inv X pins σ H1 { s1 with heap := h' } := I1.kept (t' := s1.toks) hk
    exact ⟨s1.heap.objs.size + 1, [s1.heap.objs.size + 1, s1.heap.objs.size], _, _, H1, rfl, I2, turn_enum a (s1.heap.objs.size + 1) s1.heap.objs.size, ⟨⟨.none, he⟩, hit, Nat.succ_ne_self _⟩, fresh2, q⟩
  · subst e
    cases r1
    obtain ⟨its, rv, p', hz⟩ := I1.tuple hq
    have p2 : s1.heap.IsTuple a its.toArray := p'
    have hal : a < s1.heap.objs.size := by obtain ⟨_, q, _⟩ := p2; exact Heap.lt_size q
    refine call_enumerate_tup p2 fun h' he hit hsz hk => wpAny_pyIter_enum he ?_
    have I2 : Inv X pins σ H1 { s1 with heap := h' } := I1.kept (t' := s1.toks) hk
    exact ⟨s1.heap.objs.size + 1, [s1.heap.objs.size + 1, s1.heap.objs.size], _, _, H1, rfl, I2, turn_enumT a (s1.heap.objs.size + 1) s1.heap.objs.size, ⟨⟨.none, he⟩, hit, Nat.succ_ne_self _, fun z => by have : a < s1.heap.objs.size := hal; rw [← z] at this; exact Nat.not_lt_of_le (Nat.le_succ _) this, Nat.ne_of_lt hal⟩, fresh2, q⟩
section
variable {Φ : Nat → List D → (D → Prop) → (Nat → Prop) → Prop} {exN : Nat → Str} {dr : Nat → Nat}
variable {X : Cx} {R : RT} {Ed : Nat → Prop} {tg e : Expr} {es : List Expr} {a b c : C} {pos p : Pos}
variable {F F' : Addr → Prop} {H H' : Hp}
theorem enumP_get {ps : List PyData} {i : Nat} {d : D} (h : (enumP ps)[i]? = some d) : ∃ p, ps[i]? = some p ∧ d = D.T [.int (i : Nat), p] := by
  unfold enumP at h
  rw [List.getElem?_map] at h
  cases q : ps.zipIdx[i]? with
  | none => rw [q] at h; cases h
  | some pi =>
    rw [q] at h
    rw [List.getElem?_zipIdx] at q
    cases r : ps[i]? with
    | none => rw [r] at q; cases q
    | some p =>
      rw [r] at q
      have q := Option.some.inj q
      subst q
      exact ⟨p, rfl, by rw [Nat.zero_add] at h; exact (Option.some.inj h).symm⟩
theorem enumP_len {ps : List PyData} : (enumP ps).length = ps.length := by
  unfold enumP
  rw [List.length_map, List.length_zipIdx]
theorem yl_enumL {bb : Bool} {a : Addr} {vs : List V} {ps : List PyData} (h1 : H a = some (.lst vs)) (h2 : RpAll R.K F H vs ps) (h3 : F a ∨ (bb = true ∧ NotS R.sa a)) : Yl R bb (Ite R.K a) (enumP ps) F H := by
  intro i F' H' st sub
  have e : H' a = some (.lst vs) := by
    rcases h3 with h3 | ⟨hb, h3⟩
    · exact st.1 _ _ h1 (.inl h3)
    · exact st.2 hb _ _ h1 h3
  refine ⟨fun d hd => ?_, fun hl => ⟨vs, SqL.of e, by rw [h2.length]; rw [enumP_len] at hl; exact hl⟩⟩
  obtain ⟨p, hp, rfl⟩ := enumP_get hd
  obtain ⟨v, hv, r⟩ := h2.get hp
  refine ⟨⟨vs, v, SqL.of e, hv⟩, fun x H'' ⟨T, x1, ex, hT, eq, f1⟩ => ⟨.inr ⟨T, _, hT, eq⟩, ?_⟩⟩
  have z1 := f1 vs (SqL.of e)
  rw [hv] at z1
  cases z1
  subst ex eq
  have k2 : Keep F H (upd H' T (.tup [.int (i : Nat), v])) := fun b o q h => by
    have := st.1 b o q h
    rw [upd_ne (ne_of_none this hT)]
    exact this
  exact .tup SqT.new (.cons (.int _) (.cons (r.mono k2 sub) .nil))
theorem yl_enumT {bb : Bool} {a : Addr} {vs : List V} {ps : List PyData} (h1 : SqT R.K H a vs) (h2 : RpAll R.K F H vs ps) : Yl R bb (IteT R.K a) (enumP ps) F H := by
  intro i F' H' st sub
  have e := st.1.sqt h1
  refine ⟨fun d hd => ?_, fun hl => ⟨vs, e, by rw [h2.length]; rw [enumP_len] at hl; exact hl⟩⟩
  obtain ⟨p, hp, rfl⟩ := enumP_get hd
  obtain ⟨v, hv, r⟩ := h2.get hp
  refine ⟨⟨vs, v, e, hv⟩, fun x H'' ⟨T, x1, ex, hT, eq, f1⟩ => ⟨.inr ⟨T, _, hT, eq⟩, ?_⟩⟩
  have z1 := f1 vs e
  rw [hv] at z1
  cases z1
  subst ex eq
  have k2 : Keep F H (upd H' T (.tup [.int (i : Nat), v])) := fun b o q h => by
    have := st.1 b o q h
    rw [upd_ne (ne_of_none this hT)]
    exact this
  exact .tup SqT.new (.cons (.int _) (.cons (r.mono k2 sub) .nil))
theorem nd_ienum (hK : X.K = R.K) (hg : Gl X "enumerate") (hm : X.mg "enumerate" = none) {elts : List Expr} {kk : Nat} {tpos : Pos} (hs : isStar e = false) {rl : Rl} {bb : Bool} (hcase : (bb = false ∧ rl = rlD R) ∨ (bb = true ∧ rl = rlB R))
    (ha : PE X e (TEx Φ exN dr R rl Ed a)) : PI X (.Tuple elts kk tpos) (.Call (.Name "enumerate" p) [e] [] pos) (TIx Φ exN dr R bb Ed (.enum a)) :=
  PIw (pi_enumA hg hm ha (each_plain hs)) fun σ H K ⟨n, F, ρ, Qd, E, hn, hw, hi, k⟩ => by
    simp only [wp] at hw
    simp only [drw] at hn k
    refine ⟨n, F, ρ, _, E, hn, hw, fun d v F1 H1 q1 x1 r1 => ?_⟩
    rw [hK]
    cases d with
    | py p =>
      cases p with
      | list ps =>
        have q1 : Qd (.args (enumP ps)) := q1
        rcases hcase with ⟨h1, h2⟩ | ⟨h1, h2⟩
        · subst h2
          cases r1 with
          | lst g1 g2 g3 => exact .inl ⟨_, rfl, ⟨_, SqL.of g1⟩, k _ _ _ F1 H1 q1 rfl x1 (yl_enumL g1 g3 (.inl g2)) (fun z => by cases z)⟩
        · subst h2
          obtain ⟨a, vs, rfl, g1, g2, g3⟩ := RB.list x1.env r1
          exact .inl ⟨_, rfl, ⟨_, SqL.of g1⟩, k _ _ _ F1 H1 q1 rfl x1 (yl_enumL g1 g3 (.inr ⟨h1, g2⟩)) (fun z => by cases z)⟩
      | tuple ps =>
        have q1 : Qd (.args (enumP ps)) := q1
        rcases hcase with ⟨h1, h2⟩ | ⟨h1, h2⟩
        · subst h2
          obtain ⟨a, vs, rfl, g1, g2⟩ := RB.tuple (.inl r1)
          exact .inr ⟨_, rfl, ⟨_, g1⟩, k _ _ _ F1 H1 q1 rfl x1 (yl_enumT g1 g2) (fun z => by cases z)⟩
        · subst h2
          obtain ⟨a, vs, rfl, g1, g2⟩ := RB.tuple r1
          exact .inr ⟨_, rfl, ⟨_, g1⟩, k _ _ _ F1 H1 q1 rfl x1 (yl_enumT g1 g2) (fun z => by cases z)⟩
      | _ => exact q1.elim
    | _ => exact q1.elim
end
/-! ### a method: index of a list -/
theorem kw_nil1 {cpos : Pos} {e : Expr} {env : Env} (h : isStar e = false) :
    ((backTo cpos (starEach [e] env)).all (fun x => !x.1) && (backToKw cpos (keywordEach [] env)).all (fun x => x.1.isSome) && decide ([e].length + ([] : List Keyword).length + (if ([] : List Keyword).isEmpty then 0 else 1) < 30)) = true := by
  rw [each_plain h]
  rfl
section
variable {Φ : Nat → List D → (D → Prop) → (Nat → Prop) → Prop} {exN : Nat → Str} {dr : Nat → Nat}
variable {X : Cx} {R : RT} {Ed : Nat → Prop} {tg e o : Expr} {es : List Expr} {a b c : C} {pos p ap cp : Pos}
theorem methD_index {d y : D} {Q : D → Prop} (h : methD .index d y Q) : ∃ ps k ns, d = .L ps ∧ y = .args [.I k] ∧ intsP ps = some ns ∧ k ∈ ns ∧ Q (.I (ns.idxOf k : Nat)) := by
  unfold methD at h
  split at h
  · rename_i e; cases e
  · obtain ⟨ns, h1, h2, h3⟩ := h
    exact ⟨_, _, ns, rfl, rfl, h1, h2, h3⟩
  · exact h.elim
theorem nd_index {m : Str} (hm : m = "index") (hK : X.K = R.K) (hs : isStar e = false) (hline : (ap.endLine == cp.line) = true) (hbase : attributeBase o "index" X.env (eval o X.env) = eval o X.env) (ho : PE X o (TEx Φ exN dr R (rlB R) Ed a)) (ha : PA X [e] (TAx Φ exN dr R (rlB R) Ed b)) :
    PE X (.Call (.Attribute o m ap) [e] [] cp) (TEx Φ exN dr R (rlN R) Ed (.meth .index a b)) := by
  subst hm
  refine PEw (pe_bm PySem.F.plainAttrs_list PySem.F.slot_list_index PySem.F.type_list_index mt_index ho ha hbase (kw_nil1 hs) hline (each_plain hs) rfl) fun σ H Q ⟨n, F, ρ, Qd, E, hn, hw, k⟩ => ?_
  simp only [wp] at hw
  simp only [drw] at hn k
  refine ⟨n, F, ρ, _, E, by omega, hw, fun d v F1 H1 q1 x1 r1 => ?_⟩
  obtain ⟨q0, q1⟩ := q1
  obtain ⟨ps, rfl⟩ : ∃ ps, d = .L ps := by
    unfold tyM at q0
    split at q0
    · rename_i e; cases e
    · exact ⟨_, rfl⟩
    · cases q0
  obtain ⟨a1, vs, rfl, h1, h1n, h2⟩ := RB.list x1.env r1
  refine ⟨.inl ⟨rfl, vs, SqL.of h1⟩, n + drw dr a, F1, ρ, _, x1.env, by omega, q1, fun ds us F2 H2 q2 x2 r2 hl => ?_⟩
  obtain ⟨ps', kk, ns, e1, e2, e3, e4, q⟩ := methD_index q2
  cases e1
  cases e2
  obtain ⟨w, rfl, rw1⟩ := ra1 r2
  cases (RB.int rw1)
  obtain ⟨a2, ws, e5, g1, _, g2⟩ := RB.list x2.env (RB.mono x1.env x2.ext x2.sub r1)
  cases e5
  rw [g2.ints e3] at g1
  rw [hK]
  have hj : ns.idxOf kk < ns.length := List.idxOf_lt_length_iff.mpr e4
  have hg : ns[ns.idxOf kk]? = some kk := by
    rw [List.getElem?_eq_getElem hj, List.getElem_idxOf hj]
  refine ⟨a1, ns.map V.int, .int kk, ns.idxOf kk, .int kk, rfl, rfl, SqL.of g1, rfl, ?_, by rw [List.getElem?_map, hg]; rfl, ?_, fun m z hm hz => ?_, k _ _ _ _ q ((x1.trans x2).mono (by omega)) .of_int⟩
  · rw [List.all_map]
    exact List.all_eq_true.mpr fun _ _ => rfl
  · show (kk == kk) = true
    exact beq_self_eq_true kk
  · rw [List.getElem?_map] at hz
    cases q' : ns[m]? with
    | none => rw [q'] at hz; cases hz
    | some x =>
      rw [q'] at hz
      have hz := Option.some.inj hz
      subst hz
      show (x == kk) = false
      have hml : m < ns.length := by omega
      have := List.not_of_lt_findIdx (p := (· == kk)) (xs := ns) hm
      rw [List.getElem?_eq_getElem hml] at q'
      rw [← Option.some.inj q']
      exact Bool.eq_false_iff.mpr (by simpa using this)
section
variable {Φ : Nat → List D → (D → Prop) → (Nat → Prop) → Prop} {exN : Nat → Str} {dr : Nat → Nat}
variable {X : Cx} {R : RT} {Ed : Nat → Prop} {e e2 : Expr} {a b : C} {pos p p2 pos2 : Pos}
theorem rp_rg {K : PySem.W.Frag} {F : Addr → Prop} {H : Hp} (i j : Int) : RpAll K F H (L2.rgV i j) ((List.range (j - i).toNat).map fun (k : Nat) => PyData.int (i + (k : Int))) := by
  have go : ∀ l : List Nat, RpAll K F H (l.map fun (k : Nat) => V.int (i + (k : Int))) (l.map fun (k : Nat) => PyData.int (i + (k : Int))) := by
    intro l
    induction l with
    | nil => exact .nil
    | cons x r ih => exact .cons (.int _) ih
  exact go _
/-- list(range(x, y)) -/
theorem nd_lrg (hK : X.K = R.K) (hc : X.calm = true) (hg : Gl X "list") (hm : X.mg "list" = none) (hg2 : Gl X "range") (hm2 : X.mg "range" = none) (hs : isStar e = false) (hs2 : isStar e2 = false)
    (ha : PE X e (TEx Φ exN dr R (rlB R) Ed a)) (hb : PE X e2 (TEx Φ exN dr R (rlB R) Ed b)) :
    PE X (.Call (.Name "list" p) [.Call (.Name "range" p2) [e, e2] [] pos2] [] pos) (TEx Φ exN dr R (rlN R) Ed (.lrg a b)) :=
  PEw (pe_listRg hc hg hm (prg_2 hg2 hm2 ha hb (each_plain hs) (each_plain hs2) (by rw [each_plain hs2]; rfl)) rfl) fun σ H Q ⟨n, F, ρ, Qd, E, hn, hw, k⟩ => by
    simp only [wp] at hw
    simp only [drw] at hn k
    refine two E hn hw fun d1 d2 v1 v2 F2 H2 q x r1 r2 => ?_
    obtain ⟨i, j, rfl, rfl, q1, q2⟩ : ∃ i j : Int, d1 = .I i ∧ d2 = .I j ∧ (-(2 ^ 62) ≤ i ∧ i < 2 ^ 62 ∧ -(2 ^ 62) ≤ j ∧ j < 2 ^ 62 ∧ (j - i).toNat ≤ 2 ^ 24) ∧ Qd (.L ((List.range (j - i).toNat).map fun (k : Nat) => PyData.int (i + (k : Int)))) := by
      unfold lrgD at q
      split at q
      · exact ⟨_, _, rfl, rfl, q.1, q.2⟩
      · exact q.elim
    cases (RB.int r1)
    cases (RB.int r2)
    refine ⟨i, j, rfl, rfl, q1, fun p hp => ?_⟩
    have hr : RpAll R.K F2 H2 (L2.rgV i j) ((List.range (j - i).toNat).map fun (k : Nat) => PyData.int (i + (k : Int))) := rp_rg i j
    refine k _ _ F2 _ q2 (x.trans (Nxt.upd x.env hp)) ?_
    exact RN.back E x.ext (Nxt.upd x.env hp).env.st (Nxt.upd x.env hp (o := .lst (L2.rgV i j))).ext x.env.st (x.env.newL hp hr)
end
/-! ### reversed, range with a step -/
theorem get_rev {α : Type} {l : List α} {i : Nat} (h : i < l.length) : l.reverse[i]? = l[l.length - 1 - i]? := List.getElem?_reverse h
theorem yl_revL {R : RT} {F : Addr → Prop} {H : Hp} {bb : Bool} {a : Addr} {vs : List V} {ps : List PyData} (h1 : H a = some (.lst vs)) (h2 : RpAll R.K F H vs ps) (h3 : F a ∨ (bb = true ∧ NotS R.sa a)) : Yl R bb (Itv R.K a vs.length) (ps.reverse.map D.py) F H := by
  intro i F' H' st sub
  have e : H' a = some (.lst vs) := by
    rcases h3 with h3 | ⟨hb, h3⟩
    · exact st.1 _ _ h1 (.inl h3)
    · exact st.2 hb _ _ h1 h3
  have hl := h2.length
  refine ⟨fun d hd => ?_, fun hz => by show vs.length ≤ i; rw [hl]; simpa using hz⟩
  obtain ⟨p, hp, rfl⟩ := get_py hd
  have hi : i < ps.length := by
    have := (List.getElem?_eq_some_iff.mp hp).1
    simpa using this
  rw [get_rev hi] at hp
  obtain ⟨v, hv, r⟩ := h2.get hp
  rw [← hl] at hv
  refine ⟨⟨by omega, vs, v, SqL.of e, hv⟩, fun x H'' ⟨eq, y⟩ => ⟨.inl eq, ?_⟩⟩
  have := y vs (SqL.of e)
  rw [hv] at this
  cases this
  subst eq
  exact r.mono st.1 sub
theorem yl_revT {R : RT} {F : Addr → Prop} {H : Hp} {bb : Bool} {a : Addr} {vs : List V} {ps : List PyData} (h1 : SqT R.K H a vs) (h2 : RpAll R.K F H vs ps) : Yl R bb (_root_.RT.ItvT R.K a vs.length) (ps.reverse.map D.py) F H := by
  intro i F' H' st sub
  have e := st.1.sqt h1
  have hl := h2.length
  refine ⟨fun d hd => ?_, fun hz => by show vs.length ≤ i; rw [hl]; simpa using hz⟩
  obtain ⟨p, hp, rfl⟩ := get_py hd
  have hi : i < ps.length := by
    have := (List.getElem?_eq_some_iff.mp hp).1
    simpa using this
  rw [get_rev hi] at hp
  obtain ⟨v, hv, r⟩ := h2.get hp
  rw [← hl] at hv
  refine ⟨⟨by omega, vs, v, e, hv⟩, fun x H'' ⟨eq, y⟩ => ⟨.inl eq, ?_⟩⟩
  have := y vs e
  rw [hv] at this
  cases this
  subst eq
  exact r.mono st.1 sub
theorem nd_irev (hK : X.K = R.K) (hg : Gl X "reversed") (hm : X.mg "reversed" = none) (hs : isStar e = false) {rl : Rl} {bb : Bool} (hcase : (bb = false ∧ rl = rlD R) ∨ (bb = true ∧ rl = rlB R))
    (ha : PE X e (TEx Φ exN dr R rl Ed a)) : PI X tg (.Call (.Name "reversed" p) [e] [] pos) (TIx Φ exN dr R bb Ed (.rev a)) :=
  PIw (_root_.RT.pi_revA hg hm ha (each_plain hs)) fun σ H K ⟨n, F, ρ, Qd, E, hn, hw, hi, k⟩ => by
    simp only [wp] at hw
    simp only [drw] at hn k
    refine ⟨n, F, ρ, _, E, hn, hw, fun d v F1 H1 q1 x1 r1 => ?_⟩
    rw [hK]
    cases d with
    | py p =>
      cases p with
      | list ps =>
        have q1 : Qd (.args (ps.reverse.map D.py)) := q1
        rcases hcase with ⟨h1, h2⟩ | ⟨h1, h2⟩
        · subst h2
          cases r1 with
          | lst g1 g2 g3 => exact ⟨_, _, rfl, .inl ⟨SqL.of g1, k _ _ _ F1 H1 q1 rfl x1 (yl_revL g1 g3 (.inl g2)) (fun z => by cases z)⟩⟩
        · subst h2
          obtain ⟨a, vs, rfl, g1, g2, g3⟩ := RB.list x1.env r1
          exact ⟨_, _, rfl, .inl ⟨SqL.of g1, k _ _ _ F1 H1 q1 rfl x1 (yl_revL g1 g3 (.inr ⟨h1, g2⟩)) (fun z => by cases z)⟩⟩
      | tuple ps =>
        have q1 : Qd (.args (ps.reverse.map D.py)) := q1
        rcases hcase with ⟨h1, h2⟩ | ⟨h1, h2⟩
        · subst h2
          obtain ⟨a, vs, rfl, g1, g2⟩ := RB.tuple (.inl r1)
          exact ⟨_, _, rfl, .inr ⟨g1, k _ _ _ F1 H1 q1 rfl x1 (yl_revT g1 g2) (fun z => by cases z)⟩⟩
        · subst h2
          obtain ⟨a, vs, rfl, g1, g2⟩ := RB.tuple r1
          exact ⟨_, _, rfl, .inr ⟨g1, k _ _ _ F1 H1 q1 rfl x1 (yl_revT g1 g2) (fun z => by cases z)⟩⟩
      | _ => exact q1.elim
    | _ => exact q1.elim
end
end Y

/-! part Y16 -/
set_option Elab.async false
set_option linter.all false
set_option maxRecDepth 100000
set_option maxHeartbeats 2000000
/-! Y16: a lambda is made; what it changes. -/
namespace Y
open PySem PySem.Spec PyProof.Rows LamX
open L2 (Hp HO V Cx Inv TE TI TT TG TS VK XK upd upd_ne upd_same ne_of_none frs CX cloFrom PE PS PSs FnScope Gl Vis Room Takes WX cxOf closure_ok E0)
/-- the table at P may have grown by a new code object -/
def Lst (P : Addr) (q : Str) (H H1 : Hp) : Prop := H1 = H ∨ ∃ (ps : Array Value) (c' : Addr), H P ≠ none ∧ H c' = none ∧ H1 = upd (upd H P (.tbl ps)) c' (CodeO c' q)
section
variable {X : Cx} {pins : List (Addr × Obj)} {σ : L2.St} {H : Hp} {s : Shared}
theorem lam_make3 {T : List (Addr × Str)} {c P : Addr} {params : Arguments} {body : Expr} {scope : Scope} {pos : Pos} {E : Value → Shared → Prop} {Q : Value → Shared → Prop} (I : Inv X pins σ H s) (TB : TabB X.base X.mg c P) (hcode : X.env.code = .ref c)
    (hm : (P, X.env.qual ++ "<lambda>") ∈ T) (hu : ∀ p ∈ T, p.1 = P → p.2 = X.env.qual ++ "<lambda>") (hT : Tabs T H) (hdef : defaultsOf params X.env = ([], [])) (hfree : ∀ y ∈ scope.names, y.2 = .free → ∃ c, X.env.cells.lookup y.1 = some c)
    (h : ∀ (f c' : Addr) (pm ctv : Value) (H1 : Hp) (s' : Shared), Inv X pins σ H1 s' → Lst P (X.env.qual ++ "<lambda>") H H1 → Tabs T H1 →
      s'.heap.get? f = some (PySem.W.kla_obj "<lambda>" (X.env.qual ++ "<lambda>") params body scope (cloFrom X.env.cells scope.names []) pm c' ctv) → H1 f = none → f ∉ frs X.stack → H1 c' = some (CodeO c' (X.env.qual ++ "<lambda>")) → Q (.ref f) s') :
    wpAny (model X.prog X.w) X.A (eval (.Lambda params body scope pos) X.env) Q E s := by
  obtain ⟨ps, hP, ht, ha⟩ := hT _ hm
  have bP : s.heap.BuiltinsAt X.mg P := TB.bm.keeps I.bk
  have hP' : s.heap.get? P = some { cls := .none, data := .fields ps } := I.hok P _ hP
  have nofr : ∀ f, s.heap.objs.size ≤ f → f ∉ frs X.stack := fun f hf z => by
    rcases List.mem_cons.mp (I.stkSub _ z) with e | e
    · have h1 := I.lt
      rw [← e] at h1
      exact Nat.lt_irrefl _ (Nat.lt_of_lt_of_le h1 hf)
    · exact I.nofs hf e
  refine PySem.W.kla_eval hdef ?_
  cases hc : codeAmong pos ps.toList with
  | some cv =>
    obtain ⟨c', e, hco⟩ := ha pos cv hc
    subst e
    refine PySem.W.kla_makeFunctionHit (mg := X.mg) (c := c) (P := P) (ps := ps) (closure_ok hfree) I.ok.glob (I.mod.glob.keeps I.bk) hcode (TB.code.keeps I.bk) hP' ht hc bP fun ctv h' tk hx hsz => ?_
    have I1 : Inv X pins σ H { s with heap := h'.push (PySem.W.kla_obj "<lambda>" (X.env.qual ++ "<lambda>") params body scope (cloFrom X.env.cells scope.names []) ((X.mg "__name__").getD .none) c' ctv), toks := tk } := I.kept fun b o e => Heap.get?_push_of_some _ (hx b o e)
    exact h _ c' _ ctv H _ I1 (.inl rfl) hT (Heap.get?_push_size _ rfl) (I.hok.fresh hsz) (nofr _ hsz) hco
  | none =>
    refine PySem.W.kla_makeFunction (mg := X.mg) (c := c) (P := P) (ps := ps) (closure_ok hfree) I.ok.glob (I.mod.glob.keeps I.bk) hcode (TB.code.keeps I.bk) hP' ht hc TB.gP bP fun c' ctv h' tk hx hge hlt hrec htb => ?_
    obtain ⟨c2, oc, vs, t, e2, hoc, hd, hv⟩ := hrec
    cases e2
    have hsz : s.heap.objs.size ≤ h'.objs.size := Nat.le_trans hge (Nat.le_of_lt hlt)
    have nC : H c' = none := I.hok.fresh hge
    have I1 := inv_table (t' := tk) (more := #[rawInt pos.line, rawInt pos.col, .ref c']) (h' := h'.push (PySem.W.kla_obj "<lambda>" (X.env.qual ++ "<lambda>") params body scope (cloFrom X.env.cells scope.names []) ((X.mg "__name__").getD .none) c' ctv)) I hP
      (fun b o hb e => Heap.get?_push_of_some _ (hx b o hb e)) (Heap.get?_push_of_some _ htb) hge ⟨oc, vs, t, Heap.get?_push_of_some _ hoc, hd, hv⟩
    have keepC : ∀ c0, H c0 = some (CodeO c0 (X.env.qual ++ "<lambda>")) ∨ (∃ q, H c0 = some (CodeO c0 q)) → c0 ≠ P ∧ c0 ≠ c' := fun c0 hz => by
      have : ∃ q, H c0 = some (CodeO c0 q) := hz.elim (fun z => ⟨_, z⟩) id
      obtain ⟨q, hz⟩ := this
      refine ⟨fun z => ?_, ne_of_none hz nC⟩
      rw [z, hP] at hz
      exact codeO_ne ps (Option.some.inj hz).symm
    have eL : (ps ++ #[rawInt pos.line, rawInt pos.col, .ref c']).toList = ps.toList ++ [rawInt pos.line, rawInt pos.col, .ref c'] := by simp
    refine h h'.objs.size c' _ ctv _ _ I1 (.inr ⟨_, c', (by rw [hP]; exact Option.some_ne_none _), nC, rfl⟩) (fun p hp => ?_) (Heap.get?_push_size _ rfl) ?_ (nofr _ hsz) upd_same
    · by_cases hb : p.1 = P
      · rw [hu p hp hb, hb]
        refine ⟨_, by rw [upd_ne (ne_of_none hP nC), upd_same], by rw [eL]; exact PySem.TriplesOk_snoc _ _ _ _ ht, fun p' cv hcv => ?_⟩
        rw [eL] at hcv
        rcases among_app _ ht hcv with z | z
        · obtain ⟨c0, e1, e2⟩ := ha p' cv z
          obtain ⟨n1, n2⟩ := keepC c0 (.inl e2)
          exact ⟨c0, e1, by rw [upd_ne n2, upd_ne n1]; exact e2⟩
        · exact ⟨c', z, upd_same⟩
      · obtain ⟨ps', a1, a2, a3⟩ := hT p hp
        refine ⟨ps', by rw [upd_ne (ne_of_none a1 nC), upd_ne hb]; exact a1, a2, fun p' cv hcv => ?_⟩
        obtain ⟨c0, e1, e2⟩ := a3 p' cv hcv
        obtain ⟨n1, n2⟩ := keepC c0 (.inr ⟨_, e2⟩)
        exact ⟨c0, e1, by rw [upd_ne n2, upd_ne n1]; exact e2⟩
    · rw [upd_ne (Nat.ne_of_gt hlt), upd_ne (Nat.ne_of_gt (Nat.lt_of_lt_of_le (Heap.lt_size hP') hsz))]
      exact I.hok.fresh hsz
def tLam3 (T : List (Addr × Str)) (P : Addr) (q : Str) (TT : (XK → Hp → VK → Prop) → Hp → VK → Prop) (t : XK → TE) : TE := fun σ H Q => Tabs T H ∧ ∀ H1, Lst P q H H1 → Tabs T H1 → TT (fun E H' Q' => t E σ H' Q') H1 Q
end
/-- the context of the lambda's body; an exception leaves as L2N.CX says -/
abbrev lamN (X : Cx) (A : Around) (outer : List Env) (s : Shared) (H : Hp) (E : XK) (scope : Scope) (f c' : Addr) : Cx :=
  (lamCx X A outer s H E scope f c').wish fun e s' => wpAny (model X.prog X.w) (A.deeper (lamEnv X scope s.heap.objs.size f c')) (leaving (lamEnv X scope s.heap.objs.size f c') e) (fun _ s'' => L2N.CX X.prog X.w outer H s E e s'') (fun e' s'' => L2N.CX X.prog X.w outer H s E e' s'') s'
section
variable {X : Cx} {pins : List (Addr × Obj)} {σ : L2.St} {H : Hp} {s : Shared}
/-- x(), in the def that got the lambda -/
theorem pe_actN {CXg : L2.CXT} {Eg : XK} {Ng : List Str} {qg : Str} {sg : Scope} {g f c' : Addr} {cdg pm ctv : Value} {params : Arguments} {body : Expr} {scope : Scope} {k i : Nat} {a : Str} {pn : List (Addr × Obj)} {xe : Value → Shared → Prop} {W : WX} {E : XK} {tb : TE} {p1 p2 : Pos}
    (I : Inv X pins σ H s) (L : LamS X.env.scope scope) (hf : s.heap.get? f = some (PySem.W.kla_obj "<lambda>" (X.env.qual ++ "<lambda>") params body scope (cloFrom X.env.cells scope.names []) pm c' ctv)) (hfn : H f = none) (hfr : f ∉ frs X.stack)
    (hbind : bindArgs (PySem.W.kla_fn "<lambda>" (X.env.qual ++ "<lambda>") params body scope (cloFrom X.env.cells scope.names []) pm (.ref c') ctv) ⟨[], []⟩ = pure [])
    (tk : L2N.Takes ((cxOf CXg X.prog X.w X.K X.mg X.base Ng qg sg g cdg X.A X.stack s H Eg).tr pn xe) W) (hW : ∀ cls d σ' H', E cls d H' → W cls d σ' H') (hr : Room (k + 1) (X.A.deeper (envOfC qg sg s.heap.objs.size g cdg)))
    (hbody : ∀ (A : Around) (outer : List Env) (s : Shared) (H : Hp), Room k (A.deeper (lamEnv X scope s.heap.objs.size f c')) → PE (lamN X A outer s H E scope f c') body tb)
    (hN : Ng[i]? = some a) (hv : Vis sg a) (hd : (a == ("__debug__" : Str)) = false) (hcd : (a == ("__classdict__" : Str)) = false) :
    PE ((cxOf CXg X.prog X.w X.K X.mg X.base Ng qg sg g cdg X.A X.stack s H Eg).tr pn xe) (.Call (.Name a p1) [] [] p2)
      (fun σZ HZ Q => σZ[i]? = some (some (.ref f)) ∧ HZ c' = some (CodeO c' (X.env.qual ++ "<lambda>")) ∧ tb σ HZ Q) := by
  refine ⟨fun pinsZ sZ σZ HZ Q IZ h => ?_⟩
  obtain ⟨hs, hc, ht⟩ := h
  refine wpAny_Call_Name_kw (L2.thn ((L2.pe_var (pos := p1) (i := i) hN hv hd hcd).run pinsZ sZ σZ HZ (fun v H1 => v = .ref f ∧ H1 = HZ) IZ ⟨.ref f, hs, rfl, rfl⟩) fun u s1 ⟨v, H1, I1, r1, q1⟩ => ?_)
  obtain ⟨rfl, rfl⟩ := q1
  obtain rfl : u = Value.ref f := r1
  have of1 : s1.heap.get? f = some (PySem.W.kla_obj "<lambda>" (X.env.qual ++ "<lambda>") params body scope (cloFrom X.env.cells scope.names []) pm c' ctv) := I1.base.keep f _ hf hfn hfr (fun z => nomatch (show f ∈ ([] : List Addr) from z))
  refine PySem.W.callWith_F0 ⟨_, _, _, _, of1⟩ ?_
  obtain ⟨⟨oc, vs, t, hoc, hdc, hvc⟩, _, _⟩ := I1.hok c' _ hc
  have rc : codeAny (model X.prog X.w) (X.A.deeper (envOfC qg sg s.heap.objs.size g cdg)) (.call (.ref f) ⟨[], []⟩) (L2.CR (L2N.CX X.prog X.w) (envOfC qg sg s.heap.objs.size g cdg :: X.stack) X.prog X.w H1 s1 Q E) s1 := by
    refine PySem.W.kla_callFunE hr.depth of1 rfl L.co L.gen rfl ⟨c', oc, vs, t, rfl, hoc, hdc, hvc⟩ ?_
    rw [hbind]
    refine wpAny_pure (wpAny_newFunctionEnv (fun y hy => (L.own y hy).2) (fun y hy => absurd hy (by simp)) (fun h₁ hns hsb => ⟨I1.nolimit.fresh _ hsb, ?_⟩) L.kind)
    show codeAny _ _ (.expr body (lamEnv X scope s1.heap.objs.size f c')) _ _
    have kp : ∀ b o, s1.heap.get? b = some o → h₁.get? b = some o := fun b o e => hsb.extBut b o (Nat.ne_of_lt (Heap.lt_size e)) (Heap.get?_push_of_some _ e)
    have J := (lam_start2 (f := f) (c' := c') (E := E) (tk := s1.toks + ([] : List (Str × Value)).length) I L I1.env0 hr.hd I1.base hns kp).wish (fun e s' => wpAny (model X.prog X.w) ((X.A.deeper (envOfC qg sg s.heap.objs.size g cdg)).deeper (lamEnv X scope s1.heap.objs.size f c')) (leaving (lamEnv X scope s1.heap.objs.size f c') e) (fun _ s'' => L2N.CX X.prog X.w (envOfC qg sg s.heap.objs.size g cdg :: X.stack) H1 s1 E e s'') (fun e' s'' => L2N.CX X.prog X.w (envOfC qg sg s.heap.objs.size g cdg :: X.stack) H1 s1 E e' s'') s')
    refine PySem.W.kla_codeExpr (wpAny_mono ((hbody _ _ s1 H1 (hr.deeper _)).run [] _ _ H1 Q J ht) (fun v s' hq => ?_) fun e s' hq => hq)
    obtain ⟨w', H', J', rv, q⟩ := hq
    exact ⟨w', H', J'.os, J'.bare, J'.base, J'.hok, rv, q⟩
  have hx : L2.Passes (L2N.CX X.prog X.w) ((cxOf CXg X.prog X.w X.K X.mg X.base Ng qg sg g cdg X.A X.stack s H Eg).tr pn xe) E := L2N.passes_call tk hW
  refine wpAny_call (codeAny_mono rc fun r s' hq => ?_)
  cases r with
  | error e => exact hx pinsZ σZ H1 s1 e s' I1 hq
  | ok fl =>
    cases fl with
    | ret u => exact I1.after hq
    | next => exact False.elim hq
    | brk => exact False.elim hq
    | cont => exact False.elim hq
end
/-- the def that calls what it got: a calls it; TT: what it makes of the lambda's reading -/
def GivesN (X : Cx) (Ng : List Str) (x : Str) (sg : Scope) (g : Addr) (cdg : Value) (bg : List Stmt) (a : Str) (q : Str) (TT : (XK → Hp → VK → Prop) → Hp → VK → Prop) : Prop :=
  ∀ (f c' : Addr) (s : Shared) (H : Hp) (Q : VK) (tl : XK → Hp → VK → Prop),
    (∀ (W : WX) (pn : List (Addr × Obj)) (xe : Value → Shared → Prop) (E : XK) (p1 p2 : Pos), L2N.Takes ((cxOf C8.CX0 X.prog X.w X.K X.mg X.base Ng x sg g cdg X.A X.stack s H C8.E0).nox.tr pn xe) W → (∀ cls d σ' H', E cls d H' → W cls d σ' H') →
      PE ((cxOf C8.CX0 X.prog X.w X.K X.mg X.base Ng x sg g cdg X.A X.stack s H C8.E0).nox.tr pn xe) (.Call (.Name a p1) [] [] p2) (fun σZ HZ Q => σZ[0]? = some (some (.ref f)) ∧ HZ c' = some (CodeO c' q) ∧ tl E HZ Q)) →
    H c' = some (CodeO c' q) → TT tl H Q →
    ∃ t, PSs (cxOf C8.CX0 X.prog X.w X.K X.mg X.base Ng x sg g cdg X.A X.stack s H C8.E0).nox bg t ∧ t { nx := fun _ H' => Q .non H', rt := Q } (L2.start Ng [.ref f]) H
section
variable {X : Cx}
/-- x(lambda: body) -/
theorem pe_lamcall3 {T : List (Addr × Str)} {TT : (XK → Hp → VK → Prop) → Hp → VK → Prop} {x a : Str} {g c P : Addr} {k : Nat} {pg : Arguments} {bg : List Stmt} {sg : Scope} {dV kV doc pm cdv ct oc : Value} {an od : Option Addr} {osl : Array (Option Value)} {Ng : List Str}
    {params : Arguments} {body : Expr} {scope : Scope} {t : XK → TE} {p lpos pos : Pos} (hg : Gl X x) (hm : X.mg x = some (.ref g)) (hk : PySem.W.keepIn X.K (.ref g) = true)
    (lk : X.K.lookup g = some ⟨oc, od, .func (PySem.W.fnOf x x pg bg sg dV kV doc pm an cdv ct), osl⟩) (hcg : PySem.W.codeIn X.K cdv x = true) (hb : L2.Binds X.K (PySem.W.fnOf x x pg bg sg dV kV doc pm an cdv ct) [a] []) (Sg : FnScope Ng [a] sg) (hNg : Ng[0]? = some a) (hva : Vis sg a)
    (hG : GivesN X Ng x sg g cdv bg a (X.env.qual ++ "<lambda>") TT)
    (TB : TabB X.base X.mg c P) (hcode : X.env.code = .ref c) (hmT : (P, X.env.qual ++ "<lambda>") ∈ T) (hu : ∀ p ∈ T, p.1 = P → p.2 = X.env.qual ++ "<lambda>") (hr : Room (k + 2) X.A) (L : LamS X.env.scope scope) (hdef : defaultsOf params X.env = ([], []))
    (hbind : ∀ (q : Str) (cl : List (Str × Addr)) (pm cv ctv : Value), bindArgs (PySem.W.kla_fn "<lambda>" q params body scope cl pm cv ctv) ⟨[], []⟩ = pure [])
    (hbody : ∀ (A : Around) (outer : List Env) (s : Shared) (H : Hp) (E : XK) (f c' : Addr), Room k (A.deeper (lamEnv X scope s.heap.objs.size f c')) → PE (lamN X A outer s H E scope f c') body (t E))
    (hdb : (x == ("__debug__" : Str)) = false) (hd : (a == ("__debug__" : Str)) = false) (hcd : (a == ("__classdict__" : Str)) = false) :
    PE X (.Call (.Name x p) [.Lambda params body scope lpos] [] pos) (tLam3 T P (X.env.qual ++ "<lambda>") TT t) := by
  refine ⟨fun pins s σ H Q I h => ?_⟩
  obtain ⟨hT, h⟩ := h
  refine wpAny_Call_Name_kw (L2.ld_glob I hg hm ?_ hdb)
  refine PySem.W.callWith_K (h₀ := X.base) I.ok.mod.kin hk ?_ (by rfl) (by rfl)
  show wpAny _ _ (spliced ((false, eval (.Lambda params body scope lpos) X.env) :: backTo pos (starEach [] X.env))) _ _ s
  refine Calls.spliced_cons (lam_make3 I TB hcode hmT hu hT hdef (L.has I.ok) fun f c' pm' ctv H1 s' I1 eN T1 hf hfn hfr hco => Calls.spliced_nil ⟨I1.kIn, ?_⟩)
  have rc : codeAny (model X.prog X.w) X.A (.call (.ref g) ⟨[.ref f], []⟩) (L2.CR C8.CX0 X.stack X.prog X.w H1 s' Q C8.E0) s' := by
    refine run_ofS (N := Ng) (ps := [a]) (us := [.ref f]) (vs := [.ref f]) lk hcg Sg hr I1.env0 (hb s' [.ref f] I1.kIn rfl) (.cons rfl .nil) rfl fun hr' => ?_
    obtain ⟨t', ht', hq'⟩ := hG f c' s' H1 Q (fun E H' Q' => t E σ H' Q') (fun W pn xe E p1 p2 tk hW => pe_actN (CXg := C8.CX0) (Eg := C8.E0) (i := 0) I1 L hf hfn hfr (hbind _ _ _ _ _) tk hW hr' (fun A outer s H hr2 => hbody A outer s H E f c' hr2) hNg hva hd hcd) hco (h H1 eN T1)
    exact ⟨t', ht'.nox, hq'⟩
  refine wpAny_call (codeAny_mono rc fun r s2 hq => ?_)
  cases r with
  | error e => exact (show False from hq).elim
  | ok fl =>
    cases fl with
    | ret u => exact I1.after hq
    | next => exact False.elim hq
    | brk => exact False.elim hq
    | cont => exact False.elim hq
end
end Y

/-! part Y17 -/
set_option Elab.async false
set_option linter.all false
set_option maxRecDepth 100000
set_option maxHeartbeats 2000000
/-! Y17: a comprehension in an except suite. -/
namespace Y
open PySem PySem.Spec
open PyProof.Rows hiding St
open L2
open L2H (Hot1 HotC PIH TurnH)
section
variable {X : Cx}
/-- the exception that the suite handles, seen from a block within -/
theorem hot_in {pins : List (Addr × Obj)} {σ σ' : St} {H H' : Hp} {s s' : Shared} {scope : Scope} {ce : Env} {fp : List Addr} {p : Addr × Obj} (I : Inv X pins σ H s) (hp : p ∈ X.pn) (hL : ce.locals = s.heap.objs.size) (hf : p.1 ∉ fp) (J : Inv (X.blk s H scope ce fp) [] σ' H' s') :
    Inv ((X.blk s H scope ce fp).tr [p] fun _ _ => False) [] σ' H' s' := by
  obtain ⟨g1, g2, g3, g4, g5⟩ := I.pin p (List.mem_append_left _ hp)
  have nst : p.1 ∉ frs X.stack := fun hm => by
    rcases List.mem_cons.mp (I.stkSub _ hm) with z | z
    · exact g3 z
    · exact g4 z
  refine ⟨J.ok.toTry _ _, J.os, J.bare, J.base, J.loc, J.cell, J.free, J.freeC, fun q hq => ?_, J.hok, J.len⟩
  have e : q = p := by
    rw [List.append_nil] at hq
    exact List.mem_singleton.mp hq
  subst e
  refine ⟨J.base.keep _ _ g1 g2 nst hf, J.base.free _ _ g1 g2 hf, ?_, nst, g5⟩
  show q.1 ≠ ce.locals
  rw [hL]
  exact Nat.ne_of_lt (Heap.lt_size g1)
theorem hot_out {pn : List (Addr × Obj)} {xe : Value → Shared → Prop} {σ' : St} {H' : Hp} {s' : Shared} (ok : X.Ok) (hpn : X.pn = []) (J : Inv (X.tr pn xe) [] σ' H' s') : Inv X [] σ' H' s' :=
  ⟨ok, J.os, J.bare, J.base, J.loc, J.cell, J.free, J.freeC, fun q hq => absurd (show q ∈ ([] : List (Addr × Obj)) from by rw [hpn] at hq; exact hq) (by simp), J.hok, J.len⟩
theorem lcH_core {pins : List (Addr × Obj)} {s : Shared} {σ : St} {H : Hp} {Q : VK} {elt tg iter : Expr} {ifs : List Expr} {scope : Scope} {own : List (Str × Nat)} {pos pos' : Pos} {wi : TI} {g : TG} {tt : TT} {te : TE} {use : Option (Value → Sem Unit)} {Qf : Value → Shared → Prop} {p : Addr × Obj}
    (h1 : Hot1 X.A p) (hp : p ∈ X.pn) (hN : X.N.Nodup) (I : Inv X pins σ H s) (hi : PIH X tg iter wi) (ok : BlkOk X.N X.env.scope scope own)
    (hg : ∀ (s : Shared) (H : Hp) (C : Addr) (cl : List (Str × Addr)) (fp : List Addr), PG (X.blk s H scope (compEnvC scope cl C X.env) fp) tg g) (ht : ∀ (s : Shared) (H : Hp) (C : Addr) (cl : List (Str × Addr)) (fp : List Addr), PTs (X.blk s H scope (compEnvC scope cl C X.env) fp) ifs tt)
    (he : ∀ (s : Shared) (H : Hp) (C : Addr) (cl : List (Str × Addr)) (fp : List Addr), PE (X.blk s H scope (compEnvC scope cl C X.env) fp) elt te) (hs : ∀ x, foldedSetIterable iter X.env x = pure x)
    (h : tLc wi g tt te (own.map (·.2)) σ H Q)
    (hRR : ∀ D C s' m H', Inv X pins σ H' s' → Q (.ref D) H' → s'.heap.Ns C m → FpOk X pins H' C → compPost (model X.prog X.w) X.A X.xe use Qf (.ref D) C (.ok .next) s') :
    wpAny (model X.prog X.w) X.A (comprehension (.ListComp elt [⟨tg, iter, ifs, 0⟩] scope pos) scope X.env pos' (newList []) false (eval iter X.env) use) Qf X.xe s := by
  have hfree : ∀ y ∈ scope.names, y.2 = .free → ∃ c, X.env.cells.lookup y.1 = some c := fun y hy e => (ok.free y hy e).elim (fun k => I.ok.has _ (.inl k)) (fun k => I.ok.has _ (.inr k))
  refine wpAny_comprehension_free (use := use) rfl hs (closure_ok hfree) ok.kind (fun y hy e => by rw [ok.uniq y hy, e])
    (thn (hi.run pins s σ H _ I h) fun xv s1 hx => thn hx fun itv s2 ⟨it, fp, tn, J, H2, e, I2, T, st2, f2, q⟩ => ?_)
  subst e
  refine wpAny_newObj_type (newEnv_comp ?_) (by show 0 ≤ sizeLine; decide)
  generalize hD : s2.heap.objs.size = D
  obtain ⟨W, ⟨m0, w0⟩, turn⟩ := q D (I2.hok.fresh (Nat.le_of_eq hD))
  generalize hs3 : ({ s2 with heap := s2.heap.push { cls := .type "list", data := .seq ([] : List Value).toArray } } : Shared) = s3
  have I3 : Inv X pins σ (upd H2 D (.lst [])) s3 := by
    rw [← hs3]
    refine I2.laid (t' := s2.toks) (fun b o e => Heap.get?_push_of_some _ e) (Nat.le_of_eq hD) ⟨Nat.zero_le _, [], 0, .nil, ?_⟩
    rw [← hD]
    exact Heap.get?_push_size _ rfl
  have h3 : s3.heap = s2.heap.push { cls := .type "list", data := .seq ([] : List Value).toArray } := by rw [← hs3]
  have f3 : ∀ b ∈ fp, FpOk X pins (upd H2 D (.lst [])) b ∧ b < s3.heap.objs.size := fun b hb => by
    have hlt : b < s2.heap.objs.size := by
      obtain ⟨o, e, _⟩ := T.obj _ _ st2 b hb
      exact Heap.lt_size e
    refine ⟨⟨?_, (f2 b hb).2⟩, by rw [h3, Heap.size_push]; exact Nat.lt_succ_of_lt hlt⟩
    rw [upd_ne (by rw [← hD]; exact Nat.ne_of_lt hlt)]
    exact (f2 b hb).1
  have hpf : p.1 ∉ fp := fun hm => (f2 p.1 hm).2.2.2.2.2 p (List.mem_append_left _ hp) rfl
  have st3 : tn 0 s3.heap := T.keep _ _ _ st2 fun b _ o e => by rw [h3]; exact Heap.get?_push_of_some _ e
  have I4 := block_start I3 ok hN f3
  generalize hcl : cellsFrom (s3.heap.objs.size + 1) scope.names (cloFrom X.env.cells scope.names []) = cl at I4
  have pg := hg s3 (upd H2 D (.lst [])) s3.heap.objs.size cl fp
  have pt := ht s3 (upd H2 D (.lst [])) s3.heap.objs.size cl fp
  have pe := he s3 (upd H2 D (.lst [])) s3.heap.objs.size cl fp
  show codeAny _ _ (.compStart (.ListComp elt [⟨tg, iter, ifs, 0⟩] scope pos) 0 (.ref it) (.ref D) (compEnvC scope cl s3.heap.objs.size X.env)) (compPost (model X.prog X.w) X.A X.xe use Qf (.ref D) s3.heap.objs.size) { s3 with heap := pushCells (s3.heap.push { cls := .type "dict", data := .dict #[] }) scope.names }
  have nfp : ∀ b ∈ fp, (upd H2 D (.lst [])) b = none := fun b hb => (f3 b hb).1.1
  generalize hce : compEnvC scope cl s3.heap.objs.size X.env = ce at I4 pg pt pe ⊢
  have cL : ce.locals = s3.heap.objs.size := by subst hce; rfl
  generalize hH3 : upd H2 D (.lst []) = H3 at I3 I4 pg pt pe w0 nfp f3
  generalize hs4 : ({ s3 with heap := pushCells (s3.heap.push { cls := .type "dict", data := .dict #[] }) scope.names } : Shared) = s4 at I4 ⊢
  have st4 : tn 0 s4.heap := T.keep _ _ _ st3 fun b _ o e => by rw [← hs4]; exact pushCells_keeps _ _ _ _ (Heap.get?_push_of_some _ e)
  let XB : Cx := X.blk s3 H3 scope ce fp
  have hot : HotC (XB.tr [p] fun _ _ => False) := ⟨p, h1, List.mem_singleton_self _⟩
  have stat : ∀ {σ' : St} {H' : Hp} {s' : Shared}, Inv XB [] σ' H' s' → (∀ b ∈ fp, H' b = none) → ∀ b ∈ fp, FpOk XB [] H' b := fun {σ' H' s'} I' hn b hb =>
    ⟨hn b hb, (I'.ok.exf b hb).1, I'.ok.exfs b hb, .inl hb, fun x c e => (I'.ok.exf b hb).2 x c e, fun p hp => absurd (show p ∈ ([] : List (Addr × Obj)) ++ [] from hp) (by simp)⟩
  have statH : ∀ {σ' : St} {H' : Hp} {s' : Shared}, Inv XB [] σ' H' s' → (∀ b ∈ fp, H' b = none) → ∀ b ∈ fp, FpOk (XB.tr [p] fun _ _ => False) [] H' b := fun {σ' H' s'} I' hn b hb => by
    obtain ⟨a1, a2, a3, a4, a5, _⟩ := stat I' hn b hb
    refine ⟨a1, a2, a3, a4, a5, fun q hq z => ?_⟩
    have e : q = p := by
      rw [List.append_nil] at hq
      exact List.mem_singleton.mp hq
    subst e
    exact hpf (z ▸ hb)
  have loop : codeAny (model X.prog X.w) X.A (.compLoop (.ListComp elt [⟨tg, iter, ifs, 0⟩] scope pos) 0 (.ref it) (.ref D) ce) (compPost (model X.prog X.w) X.A X.xe use Qf (.ref D) s3.heap.objs.size) s4 := by
    refine compLoop_any (fun n s' => ∃ i H', Inv XB [] (wipe σ (own.map (·.2))) H' s' ∧ tn i s'.heap ∧ (∀ b ∈ fp, H' b = none) ∧ W i n H') ?_ m0 ⟨0, H3, I4, st4, nfp, w0⟩
    rintro n s5 ⟨i, H5, I5, st5, n5, w5⟩
    have I5h := hot_in I3 hp cL hpf I5
    rcases turn i n H5 w5 with ⟨stop, qq⟩ | ⟨go, Nx, hNx, step⟩
    · have td := T.done (XB.tr [p] fun _ _ => False) rfl rfl rfl hot i [] s5 _ H5 (fun _ _ => False) I5h (statH I5 n5) st5 stop
      refine thnF td fun r s6 ⟨hr, I6h⟩ => ?_
      subst hr
      have I6 := hot_out (X := XB) I5.ok rfl I6h
      have I7 : Inv X pins σ H5 s6 := I3.call' (ch := fp) I6.os I6.base I6.hok I6.bare fun b hb => ⟨(f3 b hb).1.2.2.2.1, (f3 b hb).1.2.1, (f3 b hb).1.2.2.2.2.1, (f3 b hb).1.2.2.2.2.2⟩
      have nC : H5 s3.heap.objs.size = none := by
        have z : H5 ce.locals = none := I6.free
        rw [cL] at z
        exact z
      obtain ⟨m, hn, _⟩ := I6.loc
      have hn : s6.heap.Ns ce.locals m := hn
      rw [cL] at hn
      exact hRR D s3.heap.objs.size s6 m H5 I7 qq hn (I3.fpOk (Nat.le_refl _) nC)
    · have ti := T.item (XB.tr [p] fun _ _ => False) rfl rfl rfl hot i [] s5 _ H5 (fun _ _ => False) I5h (statH I5 n5) st5 go
      refine thnF ti fun r s6 ⟨u, hr, h6⟩ => ?_
      subst hr
      refine thnF h6 fun _ s7 ⟨x, H7, I7h, r7, y7, st7, n7⟩ => ?_
      have I7 := hot_out (X := XB) I5.ok rfl I7h
      have I7' := I7.pinned (stat I7 n7) (T.obj _ _ st7)
      refine thnF (pg.run _ s7 _ H7 x u _ I7' r7 (step x H7 y7)) fun _ s8 ⟨σ8, H8, I8, hw8, q8⟩ => ?_
      refine thnF (pt.run _ s8 σ8 H8 _ I8 q8) fun b s9 ⟨H9, I9, q9⟩ => ?_
      have fin : ∀ {s' : Shared} {H' : Hp}, Inv XB ([] ++ pinsAt fp s7.heap) σ8 H' s' → Nx H' → ∃ m, m < n ∧ ∃ i H', Inv XB [] (wipe σ (own.map (·.2))) H' s' ∧ tn i s'.heap ∧ (∀ b ∈ fp, H' b = none) ∧ W i m H' := fun {s' H'} I' nx => by
        obtain ⟨m', hm, w'⟩ := hNx H' nx
        have pin' : ∀ b ∈ fp, ∀ o, s7.heap.get? b = some o → s'.heap.get? b = some o ∧ H' b = none := fun b hb o e =>
          let z := I'.pin (b, o) (List.mem_append_right _ (List.mem_append_right _ (mem_pinsAt hb e)))
          ⟨z.1, z.2.1⟩
        have hl : (wipe σ (own.map (·.2))).length = σ8.length := by rw [← hw8, wipe_length]
        refine ⟨m', hm, i + 1, H', (I'.unpinned (pins := [])).weak hl (fun j v e => ?_), T.keep _ _ _ st7 fun b hb o e => (pin' b hb o e).1, fun b hb => ?_, w'⟩
        · rw [← hw8] at e
          exact (wipe_some e).1
        · obtain ⟨o, e, _⟩ := T.obj _ _ st7 b hb
          exact (pin' b hb o e).2
      cases b with
      | false =>
        simp only [Bool.false_eq_true, if_false] at q9 ⊢
        exact fin I9 q9
      | true =>
        simp only [if_true] at q9 ⊢
        refine thnF (pe.run _ s9 σ8 H9 _ I9 q9) fun z s10 ⟨yv, H10, I10, r10, acc, hD10, hz10, nx⟩ => ?_
        exact app_ok (X := XB) I10 hD10 hz10 r10 fun s11 I11 => fin I11 nx
  exact codeAny_compStart_list loop (T.self X.A 0 _ _ _ st4 loop)
/-- name = [..] on one line, in an except suite -/
theorem ps_setLcH {i : Nat} {y : Str} {py : Pos} {elt tg iter : Expr} {ifs : List Expr} {scope : Scope} {own : List (Str × Nat)} {pos spos : Pos} {wi : TI} {g : TG} {tt : TT} {te : TE} {p : Addr × Obj} (h1 : Hot1 X.A p) (hp : p ∈ X.pn) (hN : X.N.Nodup) (hy : X.N[i]? = some y) (hyl : X.env.scope.names.lookup y = some .local)
    (hsw : swapsWith (.ListComp elt [⟨tg, iter, ifs, 0⟩] scope pos) (some (.Name y py)) spos.line X.env = pure true) (hi : PIH X tg iter wi) (ok : BlkOk X.N X.env.scope scope own)
    (hg : ∀ (s : Shared) (H : Hp) (C : Addr) (cl : List (Str × Addr)) (fp : List Addr), PG (X.blk s H scope (compEnvC scope cl C X.env) fp) tg g) (ht : ∀ (s : Shared) (H : Hp) (C : Addr) (cl : List (Str × Addr)) (fp : List Addr), PTs (X.blk s H scope (compEnvC scope cl C X.env) fp) ifs tt)
    (he : ∀ (s : Shared) (H : Hp) (C : Addr) (cl : List (Str × Addr)) (fp : List Addr), PE (X.blk s H scope (compEnvC scope cl C X.env) fp) elt te) (hs : ∀ x, foldedSetIterable iter X.env x = pure x) :
    PS X (.Assign [.Name y py] (.ListComp elt [⟨tg, iter, ifs, 0⟩] scope pos) spos) (tAsg (tLc wi g tt te (own.map (·.2))) (gName i)) := by
  refine ⟨fun pins s σ H D I h => ?_⟩
  rw [exec_Assign_Name_used _ _ _ _ hsw]
  refine wpAny_bind (wpAny_standAt (wpAny_bind ?_))
  show wpAny _ X.A (do let _ ← comprehension (.ListComp elt [⟨tg, iter, ifs, 0⟩] scope pos) scope X.env (firstIterPos [⟨tg, iter, ifs, 0⟩] pos) (newList []) false (eval iter X.env) (some (assign (.Name y py) X.env))) _ _ s
  have h : tLc wi g tt te (own.map (·.2)) σ H (fun x H1 => gName i x σ H1 D.nx) := h
  refine wpAny_bind (thn (lcH_core (Qf := fun _ s' => SP X pins D .next s') h1 hp hN I hi ok hg ht he hs h fun L C s' m H' I' q hn f => ?_) fun _ s' hq => wpAny_pure (wpAny_pure hq))
  show wpAny _ _ (assign (.Name y py) X.env (.ref L)) _ _ _
  refine wpAny_assign_Name (store_ok2 (v := V.ref L) I' hN hy (.inl hyl) rfl (fun s2 I2 ⟨a, sb, ha⟩ => ?_) (.inr hyl))
  obtain ⟨f0, f1, f2, f3, f4, f5⟩ := f
  have haC : C ≠ a := ha.elim (fun z => by rw [z]; exact f1) fun z e => f4 y a z e.symm
  exact ⟨m, hn.sameBut sb haC, fun h3 sb3 => ⟨_, H', I2.turned (t' := s2.toks) (fun b o hb e => (sb3.2 b hb).trans e) f0 f1 f3 f4 f5, q⟩⟩
end
end Y

/-! part Y18 -/
set_option Elab.async false
set_option linter.all false
set_option maxRecDepth 100000
set_option maxHeartbeats 2000000
/-! Y18: the law's def that tells a call's value, or its error's kind. -/
namespace Y
open PySem PySem.Spec
open PyProof.Rows hiding St
open L2
open L2H (Hot1 HotC PIH TurnH)
def clsN : List Str := ["NotAllowed", "TooLarge", "Missing", "BadPaper", "BadForm", "Broken"]
def kndN : List Str := ["refused", "large", "missing", "paper", "form", "broken"]
def exName (k : Nat) : Str := kndN.getD k ""
/-- the classes: at ca j, all below CS -/
structure ClsF (S : RS) : Prop where
  mI : S.mg "isinstance" = none
  mR : S.mg "range" = none
  mT : S.mg "int" = none
  mL : S.mg "len" = none
  base : ∃ CS : Addr, S.mg "SpreadError" = some (.ref CS) ∧ ∀ k, k < 3 → PySem.W.exmOne S.K (.ref (S.ex k)) (.ref CS) = some true
  cls : ∀ j, j < 6 → S.mg (clsN.getD j "") = some (.ref (S.ex j))
  exc : ∀ k, k < 3 → ExcC S.K (S.ex k)
  kit : ∀ k j, k < 3 → j < 6 → PySem.W.kitOne S.K (.ref (S.ex k)) (.ref (S.ex j)) = some (decide (k = j))
def kindsV (k : Nat) : List V := (List.range 6).map fun j => V.bl (decide (k = j))
/-- isinstance(e, C) -/
def isiT (c : Nat) : Expr → Bool
  | .Call (.Name f _) [.Name e _, .Name x _] [] _ => decide (f = "isinstance") && decide (e = "e") && decide (x = clsN.getD c "")
  | _ => false
def kE (sg : Scope) (x : Str) (k : NameKind) : Bool := decide (sg.names.lookup x = some k)
def toldNs : List Str := ["call", "e", "kinds", "names", "k"]
theorem toldNd : toldNs.Nodup := by decide +kernel
/-- the scope of the telling def -/
def toldSc (sg : Scope) : Bool := scC' sg && kE sg "call" .local && kE sg "e" .local && kE sg "kinds" .cell && kE sg "names" .local && kE sg "isinstance" .globalImplicit && kE sg "range" .globalImplicit && kE sg "int" .globalImplicit && kE sg "len" .globalImplicit && kE sg "SpreadError" .globalImplicit && clsN.all (fun x => kE sg x .globalImplicit)
where scC' (sg : Scope) : Bool := C8.scC toldNs ["call"] sg
def ownK : List (Str × Nat) := [("k", 4)]
def cStr : Expr → Option Str
  | .Constant (.str x) _ _ => some x
  | _ => none
theorem cStr_ok {e : Expr} {x : Str} (h : cStr e = some x) : ∃ j p, e = .Constant (.str x) j p := by
  unfold cStr at h
  split at h
  · cases h; exact ⟨_, _, rfl⟩
  · cases h
def sLst : List Expr → List Str → Bool
  | [], [] => true
  | e :: es, y :: ys => match cStr e with | some x => decide (x = y) && sLst es ys | none => false
  | _, _ => false
/-- kinds = [..] -/
def st1B : Stmt → Bool
  | .Assign [.Name x _] (.List [a0, a1, a2, a3, a4, a5] _) _ => decide (x = "kinds") && isiT 0 a0 && isiT 1 a1 && isiT 2 a2 && isiT 3 a3 && isiT 4 a4 && isiT 5 a5
  | _ => false
/-- names = [..] -/
def st2B (sg : Scope) : Stmt → Bool
  | .Assign [.Name y py] (.ListComp (.Subscript (.List cs _) (.Name k1 _) _) [⟨.Name k2 _, .Call (.Name r _) [.Constant (.int 6) _ _] [] _, [.Subscript (.Name kd _) (.Name k3 _) _], 0⟩] scope pos) _ =>
    decide (y = "names") && sLst cs kndN && decide (k1 = "k") && decide (k2 = "k") && decide (r = "range") && decide (kd = "kinds") && decide (k3 = "k") && (py.line == pos.line) && (!(scope.names.any fun (n, k) => n == y && (k == .local || k == .cell))) &&
      blkC toldNs sg scope ownK && decide (scope.names.lookup ("k" : Str) = some .local) && decide ((relS scope sg).names.lookup ("k" : Str) = some .local) && decide ((relS scope sg).names.lookup ("kinds" : Str) = some .cell ∨ (relS scope sg).names.lookup ("kinds" : Str) = some .free)
  | _ => false
def st3B : Stmt → Bool
  | .Return (some (.Tuple [.Subscript (.List [.Constant (.str o) _ _, .Subscript (.BinOp (.Name n1 _) .Add (.List [.Constant (.str em) _ _] _) _) (.Constant (.int 0) _ _) _] _) (.Call (.Name f _) [.Compare (.Call (.Name l _) [.Name n2 _] [] _) [.Eq] [.Constant (.int 1) _ _] _] [] _) _] _ _)) _ =>
    decide (n1 = "names") && decide (n2 = "names") && decide (f = "int") && decide (l = "len")
  | _ => false
section
variable {X : Cx} {S : RS} {a : Addr} {oe : Obj} {pn : List (Addr × Obj)} {k : Nat}
/-- where the suite stands -/
structure Su (S : RS) (X : Cx) : Prop where
  hK : X.K = S.K
  hm : X.mg = S.mg
  hN : X.N = toldNs
  hf : ∀ x, X.fn x = true
  sc : toldSc X.env.scope = true
  F : ClsF S
theorem kE_ok {sg : Scope} {x : Str} {k : NameKind} (h : kE sg x k = true) : sg.names.lookup x = some k := of_decide_eq_true h
theorem Su.sc_ {X : Cx} (u : Su S X) : C8.scC toldNs ["call"] X.env.scope = true ∧ X.env.scope.names.lookup ("call" : Str) = some .local ∧ X.env.scope.names.lookup ("e" : Str) = some .local ∧ X.env.scope.names.lookup ("kinds" : Str) = some .cell ∧ X.env.scope.names.lookup ("names" : Str) = some .local ∧
    Gl X "isinstance" ∧ Gl X "range" ∧ Gl X "int" ∧ Gl X "len" ∧ Gl X "SpreadError" ∧ ∀ x ∈ clsN, Gl X x := by
  have h := u.sc
  unfold toldSc at h
  simp only [Bool.and_eq_true, List.all_eq_true] at h
  obtain ⟨⟨⟨⟨⟨⟨⟨⟨⟨⟨h0, h1⟩, h2⟩, h3⟩, h4⟩, h5⟩, h6⟩, h7⟩, h8⟩, h9⟩, h10⟩ := h
  exact ⟨h0, kE_ok h1, kE_ok h2, kE_ok h3, kE_ok h4, kE_ok h5, kE_ok h6, kE_ok h7, kE_ok h8, kE_ok h9, fun x hx => kE_ok (h10 x hx)⟩
theorem pe_isi {j : Nat} {e : Expr} (u : Su S X) (hk : k < 3) (hj : j < 6) (hz : Zc (.ref (S.ex k)) none oe) (hfl : ∃ vs, oe.data = .fields vs) (h : isiT j e = true) :
    PE (X.suite a ((a, oe) :: pn)) e (fun σ H Q => σ[1]? = some (some (.ref a)) ∧ Q (.bl (decide (k = j))) H) := by
  unfold isiT at h
  split at h
  · rename_i f p1 e1 p2 x p3 p4
    simp only [Bool.and_eq_true, decide_eq_true_eq] at h
    obtain ⟨⟨rfl, rfl⟩, rfl⟩ := h
    obtain ⟨_, _, he, _, _, gI, _, _, _, _, gC⟩ := u.sc_
    have hcl : clsN.getD j "" ∈ clsN := by
      have hl : j < clsN.length := hj
      rw [List.getD_eq_getElem?_getD, List.getElem?_eq_getElem hl]
      exact List.getElem_mem hl
    have hmj := u.F.cls j hj
    have hnd : (clsN.getD j "" == ("__debug__" : Str)) = false := by
      have : ∀ x ∈ clsN, (x == ("__debug__" : Str)) = false := by decide +kernel
      exact this _ hcl
    refine PEw (pe_callB (r := rIsE X.K (S.ex k) a) (call_isE (X := X) (pn := pn) (by rw [u.hK]; exact u.F.exc k hk) hz hfl) gI (by show X.mg _ = none; rw [u.hm]; exact u.F.mI) (by decide +kernel)
      (pa_cons (pe_var (i := 1) (by show X.N[1]? = _; rw [u.hN]; rfl) (.inl he) (by decide +kernel) (by decide +kernel)) (pa_cons (pe_glob (v := .ref (S.ex j)) (gC _ hcl) (by show X.mg _ = _; rw [u.hm]; exact hmj) rfl hnd) pa_nil)) (by decide +kernel) (by decide +kernel)) fun σ H Q ⟨h1, h2⟩ => ?_
    refine ⟨.ref a, h1, .ref (S.ex j), .ref (S.ex j), decide (k = j), rfl, fun w r => r, ?_, h2⟩
    rw [u.hK]
    exact u.F.kit k j hk hj
  · cases h
theorem s1_ok {st : Stmt} (u : Su S X) (hk : k < 3) (hz : Zc (.ref (S.ex k)) none oe) (hfl : ∃ vs, oe.data = .fields vs) (h : st1B st = true) :
    PS (X.suite a ((a, oe) :: pn)) st (fun D σ H => σ[1]? = some (some (.ref a)) ∧ ∀ p, H p = none → D.nx (σ.set 2 (some (.ref p))) (upd H p (.lst (kindsV k)))) := by
  unfold st1B at h
  split at h
  · rename_i x p1 a0 a1 a2 a3 a4 a5 p2 p3
    simp only [Bool.and_eq_true, decide_eq_true_eq] at h
    obtain ⟨⟨⟨⟨⟨⟨rfl, h0⟩, h1⟩, h2⟩, h3⟩, h4⟩, h5⟩ := h
    have ns : ∀ {j e}, isiT j e = true → ∀ {es env}, starEach (e :: es) env = (false, eval e env) :: starEach es env := fun {j e} h {es env} => by
      unfold isiT at h
      split at h
      · rfl
      · cases h
    have q := fun {j e} (hj : j < 6) (h : isiT j e = true) => pe_isi (pn := pn) (a := a) u hk hj hz hfl h
    refine PSw (ps_set (i := 2) (by show X.N.Nodup; rw [u.hN]; exact toldNd) (by show X.N[2]? = _; rw [u.hN]; rfl) (.inr u.sc_.2.2.2.1)
      (pe_lst (pa_cons (q (by decide) h0) (pa_cons (q (by decide) h1) (pa_cons (q (by decide) h2) (pa_cons (q (by decide) h3) (pa_cons (q (by decide) h4) (pa_cons (q (by decide) h5) pa_nil (ns h5)) (ns h4)) (ns h3)) (ns h2)) (ns h1)) (ns h0)))
      rfl (.inl (u.hf _))) fun D σ H ⟨e1, hh⟩ => ?_
    refine ⟨e1, e1, e1, e1, e1, e1, by show 6 ≤ sizeLine; decide, fun p hp => hh p hp⟩
  · cases h
theorem sLst_ok {cs : List Expr} {ys : List Str} (h : sLst cs ys = true) {Y : Cx} : PA Y cs (fun σ H Q => Q (ys.map V.str) H) := by
  induction cs generalizing ys with
  | nil =>
    cases ys with
    | nil => exact PAw pa_nil fun σ H Q h => h
    | cons _ _ => cases h
  | cons e es ih =>
    cases ys with
    | nil => simp [sLst] at h
    | cons y ys =>
      simp only [sLst] at h
      split at h
      · rename_i x q
        obtain ⟨j, p, rfl⟩ := cStr_ok q
        simp only [Bool.and_eq_true, decide_eq_true_eq] at h
        obtain ⟨rfl, h⟩ := h
        exact PAw (pa_cons pe_str (ih h)) fun σ H Q h => h
      · cases h
/-- the kept part of the heap -/
def Kp (H H' : Hp) : Prop := ∀ b o, H b = some o → H' b = some o
theorem Kp.new {H : Hp} {p : Addr} {o : HO} (h : H p = none) : Kp H (upd H p o) := fun b u e => by rw [upd_ne (ne_of_none e h)]; exact e
theorem Kp.trans {H H1 H2 : Hp} (a : Kp H H1) (b : Kp H1 H2) : Kp H H2 := fun c o e => b c o (a c o e)
theorem Kp.none {H H1 : Hp} (a : Kp H H1) {p : Addr} (h : H1 p = none) : H p = none := by
  cases q : H p with
  | none => rfl
  | some o => rw [a p o q] at h; cases h
theorem ixK : ∀ k, k < 3 → ∀ i, i < 6 → atI (kindsV k) ((0 : Int) + (i : Nat)) = some (V.bl (decide (k = i))) := by decide +kernel
theorem ixN6 : ∀ i, i < 6 → atI (kndN.map V.str) ((0 : Int) + (i : Nat)) = some (V.str (exName i)) := by decide +kernel
theorem s2_ok {st : Stmt} (u : Su S X) (hk : k < 3) (hz : PXN.CtxN oe) (hfl : ∃ vs, oe.data = .fields vs) (h : st2B X.env.scope st = true) :
    PS (X.suite a ((a, oe) :: pn)) st (fun D σ H => ∃ c0 L n0 k0, σ = [c0, some (.ref a), some (.ref L), n0, k0] ∧ H L = some (.lst (kindsV k)) ∧ ∀ M H', Kp H H' → H M = none → H' M = some (.lst [.str (exName k)]) → D.nx [c0, some (.ref a), some (.ref L), some (.ref M), k0] H') := by
  unfold st2B at h
  split at h
  · rename_i y py cs p1 k1 p2 p3 k2 p4 r p5 j6 p6 p7 kd p8 k3 p9 p10 scope pos spos
    simp only [Bool.and_eq_true, decide_eq_true_eq, Bool.not_eq_true'] at h
    obtain ⟨⟨⟨⟨⟨⟨⟨⟨⟨⟨⟨⟨rfl, hcs⟩, rfl⟩, rfl⟩, rfl⟩, rfl⟩, rfl⟩, hl⟩, ha⟩, hb⟩, hk1⟩, hk2⟩, hk3⟩ := h
    obtain ⟨hsc, _, _, _, hnm, _, gR, _⟩ := u.sc_
    have FS := C8.fnScope_by hsc
    have hNn : (X.suite a ((a, oe) :: pn)).N.Nodup := by show X.N.Nodup; rw [u.hN]; exact toldNd
    have vk : ∀ {s1 : Shared} {H : Hp} {C : Addr} {cl : List (Str × Addr)} {fp : List Addr}, Vis ((X.suite a ((a, oe) :: pn)).blk s1 H scope (compEnvC scope cl C X.env) fp).env.scope "k" := .inl hk2
    have pv4 : ∀ {s1 : Shared} {H : Hp} {C : Addr} {cl : List (Str × Addr)} {fp : List Addr} {p : Pos}, PE ((X.suite a ((a, oe) :: pn)).blk s1 H scope (compEnvC scope cl C X.env) fp) (.Name "k" p) (tVar 4) := fun {s1 H C cl fp p} =>
      pe_var (by show X.N[4]? = _; rw [u.hN]; rfl) vk (by decide +kernel) (by decide +kernel)
    obtain ⟨vs, hvs⟩ := hfl
    refine PSw (ps_setLcH (i := 3) (wi := iRng1 (tCons (tC (.int 6)) tNil)) (g := gName 4) (tt := tB (tOp (rIx X.K) (tVar 2) (tVar 4))) (te := tOp (rIx X.K) (tLst (fun σ H Q => Q (kndN.map V.str) H)) (tVar 4)) (own := ownK) (p := (a, oe)) ⟨rfl, vs, hvs, hz vs hvs⟩ List.mem_cons_self hNn (by show X.N[3]? = _; rw [u.hN]; rfl) hnm
      (sw_true FS.kind hnm hl ha) (L2H.pi_range1H gR (by show X.mg _ = none; rw [u.hm]; exact u.F.mR) (pa_cons pe_int pa_nil)) (by have := blkOk_by hb; rw [← u.hN] at this; exact this)
      (fun s1 H C cl fp => pg_name hNn (by show X.N[4]? = _; rw [u.hN]; rfl) (.inl hk2) (.inr hk2))
      (fun s1 H C cl fp => pts_one (pt_val (pe_ix ix_seq (pe_var (by show X.N[2]? = _; rw [u.hN]; rfl) (by
        rcases hk3 with z | z
        · exact .inr (.inl z)
        · exact .inr (.inr z)) (by decide +kernel) (by decide +kernel)) pv4 (fun _ _ => rfl)) (fun _ => rfl)))
      (fun s1 H C cl fp => pe_ix ix_seq (pe_lst (sLst_ok hcs)) pv4 (fun _ _ => rfl)) (fun _ => rfl)) fun D σ H ⟨c0, L, n0, k0, e, hL, hh⟩ => ?_
    subst e
    refine ⟨6, rfl, by decide, by decide, fun M hM => ?_⟩
    have nLM : L ≠ M := ne_of_none hL hM
    refine lc_range (lo := 0) (n := 6) (fun i H' => H' M = some (.lst (if k < i then [V.str (exName k)] else [])) ∧ ∀ b o, H b = some o → H' b = some o) ⟨by rw [upd_same]; rfl, fun b o e => by rw [upd_ne (ne_of_none e hM)]; exact e⟩ (fun i H2 hi ⟨q1, q2⟩ => ?_) (fun H2 ⟨q1, q2⟩ => ?_)
    · refine ⟨rfl, _, rfl, _, rfl, .inl ⟨L, _, _, _, rfl, rfl, SqL.of (q2 _ _ hL), ixK k hk i hi, decide (k = i), rfl, ?_⟩⟩
      by_cases hki : k = i
      · subst hki
        rw [if_pos (decide_eq_true rfl)]
        refine ⟨by show 6 ≤ sizeLine; decide, fun p hp => ⟨_, rfl, .inl ⟨p, _, _, _, rfl, rfl, SqL.of upd_same, ixN6 k hi, ?_⟩⟩⟩
        rw [if_neg (Nat.lt_irrefl k)] at q1
        refine ⟨[], by rw [upd_ne (ne_of_none q1 hp)]; exact q1, by show 0 < sizeLine; decide, ?_, fun b o e => ?_⟩
        · rw [upd_same, if_pos (Nat.lt_succ_self k)]
          rfl
        · rw [upd_ne (ne_of_none e hM), upd_ne (ne_of_none (q2 _ _ e) hp)]
          exact q2 b o e
      · have hf : ¬ (decide (k = i) = true) := by rw [decide_eq_false hki]; exact Bool.false_ne_true
        dsimp only
        rw [if_neg hf]
        refine ⟨?_, q2⟩
        rw [q1]
        by_cases h1 : k < i
        · rw [if_pos h1, if_pos (Nat.lt_succ_of_lt h1)]
        · rw [if_neg h1, if_neg (by omega)]
    · rw [if_pos (by omega)] at q1
      exact hh M H2 q2 hM q1
  · cases h
theorem s3_ok {st : Stmt} (u : Su S X) (h : st3B st = true) :
    PS (X.suite a ((a, oe) :: pn)) st (fun D σ H => ∃ c0 L M k0 x, σ = [c0, some (.ref a), some (.ref L), some (.ref M), k0] ∧ H M = some (.lst [.str x]) ∧ ∀ T H', Kp H H' → H T = none → H' T = some (.tup [.str x]) → D.rt (.ref T) H') := by
  unfold st3B at h
  split at h
  · rename_i o j1 p1 n1 p2 em j2 p3 p4 p5 j3 p6 p7 p8 f p9 l p10 n2 p11 p12 j4 p13 p14 p15 p16 kk p17 p18
    simp only [Bool.and_eq_true, decide_eq_true_eq] at h
    obtain ⟨⟨⟨rfl, rfl⟩, rfl⟩, rfl⟩ := h
    obtain ⟨_, _, _, _, hnm, _, _, gI, gL, _⟩ := u.sc_
    have pv3 : ∀ {p : Pos}, PE (X.suite a ((a, oe) :: pn)) (.Name "names" p) (tVar 3) := fun {p} => pe_var (by show X.N[3]? = _; rw [u.hN]; rfl) (.inl hnm) (by decide +kernel) (by decide +kernel)
    refine PSw (ps_ret (pe_tup (pa_cons (pe_ix ix_seq (pe_lst (pa_cons pe_str (pa_cons (pe_ix ix_seq (pe_op op_cat pv3 (pe_lst (pa_cons pe_str pa_nil))) pe_int (fun _ _ => rfl)) pa_nil)))
      (pe_callTy call_int1 gI (by show X.mg _ = none; rw [u.hm]; exact u.F.mT) (by decide +kernel) (pa_cons (pe_cmpR op_eq (pe_callB call_len_seq gL (by show X.mg _ = none; rw [u.hm]; exact u.F.mL) (by decide +kernel) (pa_cons pv3 pa_nil) (by decide +kernel) (by decide +kernel)) pe_int (nomark _)) pa_nil) (by decide +kernel) (by decide +kernel)) (fun _ _ => rfl)) pa_nil))) fun D σ H ⟨c0, L, M, k0, x, e, hM, hh⟩ => ?_
    subst e
    refine ⟨_, rfl, by show 1 ≤ sizeLine; decide, fun p1 hp1 => ?_⟩
    have hM1 : (upd H p1 (.lst [V.str em])) M = some (.lst [.str x]) := by rw [upd_ne (ne_of_none hM hp1)]; exact hM
    refine ⟨M, p1, _, _, rfl, rfl, hM1, upd_same, by show 2 ≤ sizeLine; decide, fun p2 hp2 => ?_⟩
    refine .inl ⟨p2, _, 0, .str x, rfl, rfl, SqL.of upd_same, rfl, ?_⟩
    refine ⟨by show 2 ≤ sizeLine; decide, fun p3 hp3 => ?_⟩
    have k1 : Kp H (upd (upd (upd H p1 (.lst [V.str em])) p2 (.lst ([V.str x] ++ [V.str em]))) p3 (.lst [V.str o, V.str x])) := (Kp.new hp1).trans ((Kp.new hp2).trans (Kp.new hp3))
    refine ⟨_, rfl, M, _, rfl, .inl (SqL.of (k1 _ _ hM)), rfl, .inr ⟨true, rfl, ?_⟩⟩
    refine .inl ⟨p3, _, 1, .str x, rfl, rfl, SqL.of upd_same, rfl, ?_⟩
    refine ⟨by show 1 ≤ sizeLine; decide, fun T hT => hh T _ (k1.trans (Kp.new hT)) (k1.none hT) upd_same⟩
  · cases h
end
end Y

/-! part Y19 -/
set_option Elab.async false
set_option linter.all false
set_option maxRecDepth 100000
set_option maxHeartbeats 2000000
/-! Y19: what the telling def makes of a lambda. -/
namespace Y
open PySem PySem.Spec
open PyProof.Rows hiding St
open L2 LamX
def toldB (sg : Scope) : List Stmt → Bool
  | [.Try [.Return (some (.Tuple [.Constant (.str t) _ _, .Call (.Name c _) [] [] _] _ _)) _] [.ExceptHandler (some (.Name se _)) (some e) [s1, s2, s3] _] [] [] _] =>
    decide (t = "told") && decide (c = "call") && decide (se = "SpreadError") && decide (e = "e") && st1B s1 && st2B sg s2 && st3B s3 && toldSc sg
  | _ => false
/-- what a told call comes to -/
def TTd (S : RS) : (XK → Hp → VK → Prop) → Hp → VK → Prop := fun tl H Q =>
  tl (fun cls d H' => ∃ k, k < 3 ∧ cls = .ref (S.ex k) ∧ d = none ∧ ∀ T H'', Kp H' H'' → H' T = none → H'' T = some (.tup [.str (exName k)]) → Q (.ref T) H'') H
    (fun v H' => [V.str "told", v].length ≤ sizeLine ∧ ∀ T, H' T = none → Q (.ref T) (upd H' T (.tup [.str "told", v])))
theorem five {α : Type} {l : List α} (h : l.length = 5) : ∃ a b c d e, l = [a, b, c, d, e] := by
  match l, h with
  | [a, b, c, d, e], _ => exact ⟨a, b, c, d, e, rfl⟩
section
variable {X : Cx} {S : RS} {a : Addr} {oe : Obj} {pn : List (Addr × Obj)}
theorem suite_ok {s1 s2 s3 : Stmt} {k : Nat} (u : Su S X) (hk : k < 3) (hz : L2N.Zn (.ref (S.ex k)) none oe) (hfl : ∃ vs, oe.data = .fields vs) (h1 : st1B s1 = true) (h2 : st2B X.env.scope s2 = true) (h3 : st3B s3 = true) :
    PSs (X.suite a ((a, oe) :: pn)) [s1, s2, s3] (fun D σ H => (∃ c0 x2 x3 x4, σ = [c0, some (.ref a), x2, x3, x4]) ∧ ∀ T H', Kp H H' → H T = none → H' T = some (.tup [.str (exName k)]) → D.rt (.ref T) H') :=
  PSsw (pss_cons (s1_ok u hk hz.zc hfl h1) (pss_cons (s2_ok u hk hz.2.2 hfl h2) (pss_one (s3_ok u h3)))) fun D σ H ⟨⟨c0, x2, x3, x4, e⟩, hq⟩ => by
    subst e
    refine ⟨rfl, fun L hL => ⟨c0, L, x3, x4, rfl, upd_same, fun M H1 k1 hM q1 => ⟨c0, L, M, x4, exName k, rfl, q1, fun T H2 k2 hT q2 => ?_⟩⟩⟩
    exact hq T H2 ((Kp.new hL).trans (k1.trans k2)) ((Kp.new hL).trans k1 |>.none hT) q2
theorem told_ok {q : Str} {sg : Scope} {g : Addr} {cdg : Value} {bg : List Stmt} (hK : X.K = S.K) (hm : X.mg = S.mg) (F : ClsF S) (h : toldB sg bg = true) :
    GivesN X toldNs "_law_told" sg g cdg bg "call" q (TTd S) := by
  intro f c' s H Q tl act hc hq
  unfold toldB at h
  split at h
  · rename_i t j0 p0 c p1 p2 kt p3 p4 se np e s1 s2 s3 pos' pos
    simp only [Bool.and_eq_true, decide_eq_true_eq] at h
    obtain ⟨⟨⟨⟨⟨⟨⟨rfl, rfl⟩, rfl⟩, rfl⟩, h1⟩, h2⟩, h3⟩, hsc⟩ := h
    generalize hY : (cxOf C8.CX0 X.prog X.w X.K X.mg X.base toldNs "_law_told" sg g cdg X.A X.stack s H C8.E0).nox = Y at act ⊢
    have u : Su S Y := by subst hY; exact ⟨hK, hm, rfl, fun _ => rfl, hsc, F⟩
    have hsg : Y.env.scope = sg := by subst hY; rfl
    obtain ⟨CS, hCS, hex⟩ := F.base
    have FS := C8.fnScope_by (by have := u.sc_.1; exact this)
    refine ⟨_, pss_one (L2N.ps_try_as (X := Y) (i := 1) (c := .ref CS) (Wout := fun _ _ _ _ => False)
      (tb := fun W D σ H => ∃ Ech : XK, (∀ cls d σ' H', Ech cls d H' → W cls d σ' H') ∧ σ[0]? = some (some (.ref f)) ∧ H c' = some (CodeO c' q) ∧ tl Ech H (fun v H' => [V.str "told", v].length ≤ sizeLine ∧ ∀ T, H' T = none → D.rt (.ref T) (upd H' T (.tup [.str "told", v]))))
      (ts := fun a cls d D σ H => ∃ k, k < 3 ∧ cls = .ref (S.ex k) ∧ d = none ∧ (∃ σ0 : L2.St, σ = σ0.set 1 (some (.ref a))) ∧ ∀ T H', Kp H H' → H T = none → H' T = some (.tup [.str (exName k)]) → D.rt (.ref T) H')
      (by subst hY; rfl) (by subst hY; rfl) (by rw [u.hN]; exact toldNd) (by rw [u.hN]; rfl) u.sc_.2.2.1 ⟨u.sc_.2.2.2.2.2.2.2.2.2.1, by decide +kernel, .inl (by rw [u.hm]; exact hCS)⟩ (fun uu s' ⟨_, _, _, _, _, _, _, _, _, _, _, _, _, _, _, _, w⟩ => w.elim) (fun W pn xe tk _ => ?_) (fun a oe cls d pn hz hfl => ?_)), ?_⟩
    · refine ⟨fun pins s' σ H' D I h' => ?_⟩
      obtain ⟨Ech, hW, g1, g2, g3⟩ := h'
      have hp := act W pn xe Ech p1 p2 tk hW
      have hr := pss_one (ps_ret (pos := p4) (pe_tup (x1 := kt) (pos := p3) (pa_cons (pe_str (j := j0) (pos := p0) (x := "told")) (pa_cons hp pa_nil))))
      exact hr.run pins s' σ H' D I ⟨g1, g2, g3⟩
    · refine ⟨fun pins s' σ H' D I h' => ?_⟩
      obtain ⟨k, hk, rfl, rfl, ⟨σ0, hσ⟩, hh⟩ := h'
      have hl : σ.length = 5 := by
        have := I.len
        rw [this]
        show Y.N.length = 5
        rw [u.hN]
        rfl
      rw [hσ, List.length_set] at hl
      obtain ⟨a0, a1, a2, a3, a4, rfl⟩ := five hl
      exact (suite_ok u hk hz hfl h1 (by rw [hsg]; exact h2) h3).run pins s' σ H' D I ⟨⟨a0, a2, a3, a4, hσ⟩, hh⟩
    · refine ⟨fun cls d H' => ∃ k, k < 3 ∧ cls = .ref (S.ex k) ∧ d = none ∧ ∀ T H'', Kp H' H'' → H' T = none → H'' T = some (.tup [.str (exName k)]) → Q (.ref T) H'', fun cls d σ' H' ⟨k, hk, e1, e2, hh⟩ => ?_, rfl, hc, hq⟩
      subst e1 e2
      refine ⟨true, by rw [u.hK]; exact hex k hk, fun _ a ha => ⟨k, hk, rfl, rfl, ⟨σ', rfl⟩, hh⟩, fun z => nomatch z⟩
  · cases h
end
end Y

/-! part Y9 -/
set_option Elab.async false
set_option linter.all false
set_option maxRecDepth 100000
set_option maxHeartbeats 1000000
/-! Y9: the checker of expressions. -/
namespace Y
open PySem PySem.Spec
open PyProof.Rows hiding St
open L2
/-- what a global name stands for -/
inductive Gk where
  | fn (k : Nat) | int (i : Int) | abs | ex (k : Nat) | tup (is : List Int)
/-- the class k is raised with a text -/
def RaiseOk (S : RS) (x : Str) (k : Nat) : Prop := ∀ X : Cx, X.prog = S.P → X.w = S.w → X.K = S.K → X.mg = S.mg → X.base = S.base → Gl X x → ∀ (m : Str) (j : Nat) (p p2 pos : Pos), L2N.PMk X (.Call (.Name x p) [.Constant (.str m) j p2] [] pos) (fun _ H Q => Q (.ref (S.ex k)) none H)
def GkOk (S : RS) (x : Str) : Gk → Prop
  | .fn k => S.mg x = some (.ref (S.fa k))
  | .int i => ∃ u, S.mg x = some u ∧ RelV (.int i) u
  | .abs => S.mg x = none
  | .ex k => RaiseOk S x k
  | .tup is => ∃ a, S.mg x = some (.ref a) ∧ ∀ H, SqT S.K H a (is.map V.int)
/-- the program, seen by the checker -/
structure Tb where
  gt : List (Str × Gk)
  lv : Nat → Nat
structure Bas (S : RS) (T : Tb) : Prop where
  g : ∀ x k, T.gt.lookup x = some k → GkOk S x k
/-- the def that compares by repr -/
def sameB (sg : Scope) : List Stmt → Bool
  | [.Return (some (.Compare (.Call (.Name r1 _) [.List [.Name a _] _] [] _) [.Eq] [.Call (.Name r2 _) [.List [.Name b _] _] [] _] _)) _] =>
    decide (r1 = "repr") && decide (r2 = "repr") && decide (a = "told") && decide (b = "due") && C8.scC ["told", "due"] ["told", "due"] sg && kE sg "told" .local && kE sg "due" .local && kE sg "repr" .globalImplicit
  | _ => false
/-- what stands where the law itself runs -/
structure LawF (S : RS) (R : RT) (X : Cx) : Prop where
  tab : ∃ c P, LamX.TabB X.base X.mg c P ∧ X.env.code = .ref c ∧ R.sa.T = [(P, X.env.qual ++ "<lambda>")]
  told : ∃ g pg bg sg fd, S.mg "_law_told" = some (.ref g) ∧ FunD S.K "_law_told" "_law_told" pg bg sg [] [] g fd ∧ Binds S.K fd ["call"] [] ∧ toldB sg bg = true
  cls : ClsF S
  same : ∃ g pg bg sg fd, S.mg "_law_same" = some (.ref g) ∧ FunD S.K "_law_same" "_law_same" pg bg sg [] [] g fd ∧ Binds S.K fd ["told", "due"] [] ∧ sameB sg bg = true
  rep : S.mg "repr" = none
  grd : X.A.guards = some []
/-- where an expression is read -/
structure Sit (S : RS) (T : Tb) (Φ : Nat → List D → (D → Prop) → (Nat → Prop) → Prop) (dr : Nat → Nat) (R : RT) (z : Pz) (X : Cx) (Ed : Nat → Prop) : Prop where
  A : At S z X
  hS : R.S = S
  w : Wsh R Ed X
  bs : Bas S T
  fh : ∀ k, T.lv k ≤ z.L → FHeld S Φ dr T.lv k
  lw : z.gd = true → LawF S R X
theorem Sit.hK {S : RS} {T : Tb} {Φ : Nat → List D → (D → Prop) → (Nat → Prop) → Prop} {dr : Nat → Nat} {R : RT} {z : Pz} {X : Cx} {Ed : Nat → Prop} (s : Sit S T Φ dr R z X Ed) : X.K = R.K := by rw [s.A.hK, ← s.hS]
inductive Rk where
  | d | b | n
def rlOf (R : RT) : Rk → Rl
  | .d => rlD R
  | .b => rlB R
  | .n => rlN R
def notB : Rk → Bool
  | .b => false
  | _ => true
def kGl (z : Pz) (x : Str) : Bool := decide (z.sc.names.lookup x = some .globalImplicit)
def kVis (z : Pz) (i : Nat) (x : Str) : Bool := decide (z.N[i]? = some x) && (match z.sc.names.lookup x with | some .local => true | some .cell => true | some .free => true | _ => false) && !(x == ("__debug__" : Str)) && !(x == ("__classdict__" : Str))
def kLoc (z : Pz) (i : Nat) (x : Str) : Bool := decide (z.N[i]? = some x) && (match z.sc.names.lookup x with
  | some .local => true
  | some .cell => (match z.own with | none => true | some s => s.names.lookup x == some .cell)
  | _ => false)
def isTab (T : Tb) (x : Str) : Gk → Bool
  | .fn k => match T.gt.lookup x with | some (.fn j) => j == k | _ => false
  | .int i => match T.gt.lookup x with | some (.int j) => j == i | _ => false
  | .abs => match T.gt.lookup x with | some .abs => true | _ => false
  | .ex k => match T.gt.lookup x with | some (.ex j) => j == k | _ => false
  | .tup is => match T.gt.lookup x with | some (.tup j) => j == is | _ => false
theorem isTab_ok {T : Tb} {x : Str} {g : Gk} (h : isTab T x g = true) : T.gt.lookup x = some g := by
  unfold isTab at h
  split at h <;> split at h <;> first
    | (rename_i e; rw [e, eq_of_beq h])
    | assumption
    | cases h
def plainT : Expr → Bool
  | .UnaryOp .Not _ _ => false
  | .BoolOp _ _ _ => false
  | .IfExp _ _ _ _ => false
  | .Compare _ _ _ _ => false
  | _ => true
theorem plainT_ok {e : Expr} {env : Env} (h : plainT e = true) : ∀ whole, isTrue e env whole = (do let v ← whole; standAt e.pos; holding [v] (truthy v)) := by
  intro whole
  cases e
  case UnaryOp op l p => cases op <;> first | rfl | (simp only [plainT] at h; cases h)
  all_goals first | rfl | (simp only [plainT] at h; cases h)
def plainI : Expr → Bool
  | .Slice _ _ _ _ => false
  | _ => true
theorem plainI_ok {e : Expr} (h : plainI e = true) : PlainIx e := by
  intro o i
  cases e <;> first | rfl | cases h
def plainF : Expr → Bool
  | .Set _ _ _ => false
  | _ => true
theorem plainF_ok {e : Expr} (h : plainF e = true) {env : Env} : ∀ x, foldedSetIterable e env x = pure x := by
  intro x
  cases e <;> first | rfl | cases h
/-- a core term's checkers, one for each place -/
structure Ck where
  r : Rk
  e : Pz → Expr → Bool
  t : Pz → Expr → Bool
  bE : BoolOp → Pz → List Expr → Bool
  bT : BoolOp → Pz → List Expr → Bool
  a : Bool → Pz → List Expr → Bool
  o : Pz → Option Expr → Bool
  i : Bool → Pz → Expr → Expr → Bool
  g : Pz → Expr → Bool
  gs : Pz → List Expr → Bool
  f : Pz → List Expr → Bool
section
variable (S : RS) (T : Tb) (Φ : Nat → List D → (D → Prop) → (Nat → Prop) → Prop) (dr : Nat → Nat)
def rlb (R : RT) (b : Bool) : Rl := if b = true then rlB R else rlD R
structure Snd (k : Ck) (c : C) : Prop where
  e : ∀ {R z X Ed}, Sit S T Φ dr R z X Ed → ∀ {x}, k.e z x = true → PE X x (TEx Φ exName dr R (rlOf R k.r) Ed c)
  t : ∀ {R z X Ed}, Sit S T Φ dr R z X Ed → ∀ {x}, k.t z x = true → PT X x (TTx Φ exName dr R Ed c)
  bE : ∀ {R z X Ed}, Sit S T Φ dr R z X Ed → ∀ {op xs} {pos : Pos}, k.bE op z xs = true → PE X (.BoolOp op xs pos) (TEx Φ exName dr R (rlD R) Ed c)
  bT : ∀ {R z X Ed}, Sit S T Φ dr R z X Ed → ∀ {op xs} {pos : Pos}, k.bT op z xs = true → PW X (.BoolOp op xs pos) (TTx Φ exName dr R Ed c)
  a : ∀ {R z X Ed}, Sit S T Φ dr R z X Ed → ∀ {b xs}, k.a b z xs = true → PA X xs (TAx Φ exName dr R (rlb R b) Ed c)
  o : ∀ {R z X Ed}, Sit S T Φ dr R z X Ed → ∀ {x}, k.o z x = true → PO X x (TOx Φ exName dr R Ed c)
  i : ∀ {R z X Ed}, Sit S T Φ dr R z X Ed → ∀ {b tg x}, k.i b z tg x = true → PI X tg x (TIx Φ exName dr R b Ed c)
  g : ∀ {R z X Ed}, Sit S T Φ dr R z X Ed → ∀ {x}, k.g z x = true → PG X x (TGx R c)
  gs : ∀ {R z X Ed}, Sit S T Φ dr R z X Ed → ∀ {xs}, k.gs z xs = true → PGs X xs (TGsx R c)
  f : ∀ {R z X Ed}, Sit S T Φ dr R z X Ed → ∀ {xs}, k.f z xs = true → PTs X xs (TTx Φ exName dr R Ed c)
end
/-- a value's -/
def mkE (cnt : Bool) (r : Rk) (e : Pz → Expr → Bool) : Ck where
  r := r
  e := e
  t := fun z x => notB r && plainT x && e z x
  bE := fun _ z xs => match xs with | [x] => notB r && e z x | _ => false
  bT := fun _ z xs => match xs with | [x] => notB r && plainT x && e z x | _ => false
  a := fun _ _ _ => false
  o := fun z x => match x with | some x => notB r && e z x | none => false
  i := fun b z _ x => !cnt && (b || notB r) && e z x
  g := fun _ _ => false
  gs := fun _ _ => false
  f := fun z xs => match xs with | [x] => notB r && plainT x && e z x | _ => false
section
variable {S : RS} {T : Tb} {Φ : Nat → List D → (D → Prop) → (Nat → Prop) → Prop} {dr : Nat → Nat}
variable {R : RT} {z : Pz} {X : Cx} {Ed : Nat → Prop} {x l r : Expr} {xs : List Expr} {a b c : C} {pos : Pos}
theorem toD {k : Rk} (h : PE X x (TEx Φ exName dr R (rlOf R k) Ed c)) (n : notB k = true) : PE X x (TEx Φ exName dr R (rlD R) Ed c) := by
  cases k with
  | d => exact h
  | b => cases n
  | n => exact TE.n2d h
theorem toB {k : Rk} (h : PE X x (TEx Φ exName dr R (rlOf R k) Ed c)) : PE X x (TEx Φ exName dr R (rlB R) Ed c) := by
  cases k with
  | d => exact TE.d2b h
  | b => exact h
  | n => exact TE.d2b (TE.n2d h)
theorem pw_one {op : BoolOp} {t : TT} (h : PT X x t) : PW X (.BoolOp op [x] pos) t := by
  cases op with
  | And => exact pw_and1 h
  | Or => exact pw_or1 h
theorem mkE_snd {cnt : Bool} {k : Rk} {e : Pz → Expr → Bool} (hc : cnt = true ∨ cntC0 c = false) (h : ∀ {R z X Ed}, Sit S T Φ dr R z X Ed → ∀ {x}, e z x = true → PE X x (TEx Φ exName dr R (rlOf R k) Ed c)) : Snd S T Φ dr (mkE cnt k e) c where
  e := fun s _ q => h s q
  t := fun s x q => by
    simp only [mkE, Bool.and_eq_true] at q
    exact TE.test (toD (h s q.2) q.1.1) (plainT_ok q.1.2)
  bE := fun s op xs pos q => by
    simp only [mkE] at q
    split at q
    · simp only [Bool.and_eq_true] at q
      exact pe_one (toD (h s q.2) q.1)
    · cases q
  bT := fun s op xs pos q => by
    simp only [mkE] at q
    split at q
    · simp only [Bool.and_eq_true] at q
      exact pw_one (TE.test (toD (h s q.2) q.1.1) (plainT_ok q.1.2))
    · cases q
  a := fun s b xs q => by cases q
  o := fun s x q => by
    simp only [mkE] at q
    split at q
    · simp only [Bool.and_eq_true] at q
      exact nd_part1 (toD (h s q.2) q.1)
    · cases q
  i := fun s b tg x q => by
    simp only [mkE, Bool.and_eq_true, Bool.not_eq_true', Bool.or_eq_true] at q
    obtain ⟨⟨q1, q2⟩, q3⟩ := q
    rcases hc with hc | hc
    · rw [hc] at q1; cases q1
    cases b with
    | true => exact nd_iseqB s.hK hc (toB (h s q3))
    | false =>
      rcases q2 with q2 | q2
      · cases q2
      · exact nd_iseq s.hK hc (toD (h s q3) q2)
  g := fun s x q => by cases q
  gs := fun s x q => by cases q
  f := fun s xs q => by
    simp only [mkE] at q
    split at q
    · simp only [Bool.and_eq_true] at q
      exact pts_one (TE.test (toD (h s q.2) q.1.1) (plainT_ok q.1.2))
    · cases q
/-- no value -/
def mkN : Ck where
  r := .b
  e := fun _ _ => false
  t := fun _ _ => false
  bE := fun _ _ _ => false
  bT := fun _ _ _ => false
  a := fun _ _ _ => false
  o := fun _ _ => false
  i := fun _ _ _ _ => false
  g := fun _ _ => false
  gs := fun _ _ => false
  f := fun _ _ => false
theorem mkN_snd : Snd S T Φ dr mkN c := by
  constructor <;> intros <;> (rename_i h; cases h)
/-- a test's: as a value, and as a test -/
def mkT (k : Ck) (t : Pz → Expr → Bool) : Ck := { k with t := t, bT := fun _ z xs => (match xs with | [x] => t z x | _ => false), f := fun z xs => (match xs with | [x] => t z x | _ => false) }
theorem mkT_snd {k : Ck} {t : Pz → Expr → Bool} (h : Snd S T Φ dr k c) (ht : ∀ {R z X Ed}, Sit S T Φ dr R z X Ed → ∀ {x}, t z x = true → PT X x (TTx Φ exName dr R Ed c)) : Snd S T Φ dr (mkT k t) c where
  e := h.e
  t := ht
  bE := h.bE
  bT := fun s op xs pos q => by
    simp only [mkT] at q
    split at q
    · exact pw_one (ht s q)
    · cases q
  a := h.a
  o := h.o
  i := h.i
  g := h.g
  gs := h.gs
  f := fun s xs q => by
    simp only [mkT] at q
    split at q
    · exact pts_one (ht s q)
    · cases q
/-- and, or -/
def mkBo (o : BoolOp) (A B : Ck) : Ck :=
  let vE : BoolOp → Pz → List Expr → Bool := fun op z xs => match xs with | l :: r :: rest => decide (op = o) && notB A.r && A.e z l && B.bE o z (r :: rest) | _ => false
  let vT : BoolOp → Pz → List Expr → Bool := fun op z xs => match xs with | l :: r :: rest => decide (op = o) && A.t z l && B.bT o z (r :: rest) | _ => false
  let E : Pz → Expr → Bool := fun z x => match x with | .BoolOp op xs _ => vE op z xs | _ => false
  let Tt : Pz → Expr → Bool := fun z x => match x with | .BoolOp op xs _ => vT op z xs | _ => false
  { r := .d, e := E, t := Tt, bE := fun op z xs => (match xs with | [x] => E z x | xs => vE op z xs), bT := fun op z xs => (match xs with | [x] => Tt z x | xs => vT op z xs), a := fun _ _ _ => false, o := fun _ _ => false,
    i := fun _ _ _ _ => false, g := fun _ _ => false, gs := fun _ _ => false, f := fun z xs => (match xs with | [x] => Tt z x | _ => false) }
theorem mkBo_snd {o : BoolOp} {A B : Ck} {c : C}
    (hE : ∀ {R z X Ed}, Sit S T Φ dr R z X Ed → ∀ {l r : Expr} {rest : List Expr} {pos : Pos}, notB A.r = true → A.e z l = true → B.bE o z (r :: rest) = true → PE X (.BoolOp o (l :: r :: rest) pos) (TEx Φ exName dr R (rlD R) Ed c))
    (hT : ∀ {R z X Ed}, Sit S T Φ dr R z X Ed → ∀ {l r : Expr} {rest : List Expr} {pos : Pos}, A.t z l = true → B.bT o z (r :: rest) = true → PW X (.BoolOp o (l :: r :: rest) pos) (TTx Φ exName dr R Ed c)) : Snd S T Φ dr (mkBo o A B) c := by
  have vE : ∀ {R z X Ed}, Sit S T Φ dr R z X Ed → ∀ {op : BoolOp} {xs : List Expr} {pos : Pos}, (match xs with | l :: r :: rest => decide (op = o) && notB A.r && A.e z l && B.bE o z (r :: rest) | _ => false) = true → PE X (.BoolOp op xs pos) (TEx Φ exName dr R (rlD R) Ed c) := by
    intro R z X Ed s op xs pos q
    split at q
    · simp only [Bool.and_eq_true, decide_eq_true_eq] at q
      obtain ⟨⟨⟨e, q1⟩, q2⟩, q3⟩ := q
      subst e
      exact hE s q1 q2 q3
    · cases q
  have vT : ∀ {R z X Ed}, Sit S T Φ dr R z X Ed → ∀ {op : BoolOp} {xs : List Expr} {pos : Pos}, (match xs with | l :: r :: rest => decide (op = o) && A.t z l && B.bT o z (r :: rest) | _ => false) = true → PW X (.BoolOp op xs pos) (TTx Φ exName dr R Ed c) := by
    intro R z X Ed s op xs pos q
    split at q
    · simp only [Bool.and_eq_true, decide_eq_true_eq] at q
      obtain ⟨⟨e, q2⟩, q3⟩ := q
      subst e
      exact hT s q2 q3
    · cases q
  have E : ∀ {R z X Ed}, Sit S T Φ dr R z X Ed → ∀ {x : Expr}, (mkBo o A B).e z x = true → PE X x (TEx Φ exName dr R (rlD R) Ed c) := by
    intro R z X Ed s x q
    simp only [mkBo] at q
    split at q
    · exact vE s q
    · cases q
  have Tt : ∀ {R z X Ed}, Sit S T Φ dr R z X Ed → ∀ {x : Expr}, (mkBo o A B).t z x = true → PT X x (TTx Φ exName dr R Ed c) := by
    intro R z X Ed s x q
    simp only [mkBo] at q
    split at q
    · exact (vT s q).pt
    · cases q
  refine { e := fun s _ q => E s q, t := fun s _ q => Tt s q, bE := ?_, bT := ?_, a := fun _ _ _ q => (by cases q), o := fun _ _ q => (by cases q), i := fun _ _ _ _ q => (by cases q), g := fun _ _ q => (by cases q), gs := fun _ _ q => (by cases q), f := ?_ }
  · intro R z X Ed s op xs pos q
    match xs, q with
    | [], q => cases q
    | [x], q => exact pe_one (E s q)
    | l :: r :: rest, q => exact vE s (xs := l :: r :: rest) q
  · intro R z X Ed s op xs pos q
    match xs, q with
    | [], q => cases q
    | [x], q => exact pw_one (Tt s q)
    | l :: r :: rest, q => exact vT s (xs := l :: r :: rest) q
  · intro R z X Ed s xs q
    match xs, q with
    | [], q => cases q
    | [x], q => exact pts_one (Tt s q)
    | l :: r :: rest, q => cases q
end
end Y

/-! part Y20 -/
set_option Elab.async false
set_option linter.all false
set_option maxRecDepth 100000
set_option maxHeartbeats 2000000
/-! Y20: repr, the comparison by repr, told calls. -/
namespace Y
open PySem PySem.Spec
open PyProof.Rows hiding St
open L2 LamX
section
variable {K : PySem.W.Frag} {H H' : Hp}
theorem SqL.kp (k : Kp H H') {a : Addr} {vs : List V} (h : SqL K H a vs) : SqL K H' a vs := by
  rcases h with (h | ⟨o, h⟩) | h
  · exact .inl (.inl (k _ _ h))
  · exact .inl (.inr ⟨o, k _ _ h⟩)
  · exact .inr h
theorem SqT.kp (k : Kp H H') {a : Addr} {vs : List V} (h : SqT K H a vs) : SqT K H' a vs := by
  rcases h with (h | ⟨o, h⟩) | h
  · exact .inl (.inl (k _ _ h))
  · exact .inl (.inr ⟨o, k _ _ h⟩)
  · exact .inr h
mutual
theorem Dp.kp (k : Kp H H') : ∀ {v : V} {p : PyData}, Dp K H v p → Dp K H' v p
  | _, _, .non => .non
  | _, _, .bl b => .bl b
  | _, _, .int i => .int i
  | _, _, .str x => .str x
  | _, _, .lst h1 h3 => .lst (SqL.kp k h1) (DpAll.kp k h3)
  | _, _, .tup h1 h2 => .tup (SqT.kp k h1) (DpAll.kp k h2)
theorem DpAll.kp (k : Kp H H') : ∀ {vs : List V} {ps : List PyData}, DpAll K H vs ps → DpAll K H' vs ps
  | _, _, .nil => .nil
  | _, _, .cons h1 h2 => .cons (Dp.kp k h1) (DpAll.kp k h2)
end
end
def rRepr (K : PySem.W.Frag) : RCa := fun xs H Q => ∃ a p, xs = [.ref a] ∧ Dp K H (.ref a) p ∧ ReprOk p ∧ Q (.str p.shown) H
theorem call_reprD {X : Cx} {k : Nat} (hg : X.A.guards = some []) (hr : Room k X.A) : CallR X (.builtin "repr") (rRepr X.K) := by
  intro pins s σ H xs us Q I r h
  obtain ⟨a, p, rfl, hd, ⟨h1, h2, h3, h4⟩, q⟩ := h
  obtain ⟨u, rfl, ru⟩ := Vals.one r
  cases ru
  obtain ⟨as, rd⟩ := Dp.reads I p (.ref a) (.ref a) hd rfl
  refine repr_of_reads' rd h1 (fun z => by rw [h2] at z; cases z) hg ?_ (fun _ _ e => e) (fun h' u tk hk => ?_) h4
  · have := hr.un
    omega
  · exact ⟨.str p.shown, H, I.kept (t' := tk) hk, ⟨u, rfl⟩, q⟩
theorem boot_repr : bootBuiltins "repr" = some (.builtin "repr") := by decide +kernel
/-- repr([x]) == repr([y]) -/
theorem pss_same {X : Cx} {k : Nat} {bg : List Stmt} (hg : X.A.guards = some []) (hr : Room k X.A) (hN : X.N = (["told", "due"] : List Str)) (hm : X.mg "repr" = none) (h : sameB X.env.scope bg = true) :
    PSs X bg (fun D σ H => ∃ v w p q, σ = [some v, some w] ∧ Dp X.K H v p ∧ Dp X.K H w q ∧ ReprOk (.list [p]) ∧ ReprOk (.list [q]) ∧ ∀ H', Kp H H' → D.rt (.bl (decide ((PyData.list [p]).shown = (PyData.list [q]).shown))) H') := by
  unfold sameB at h
  split at h
  · rename_i r1 p1 a p2 p3 p4 r2 p5 b p6 p7 p8 p9 p10
    simp only [Bool.and_eq_true, decide_eq_true_eq] at h
    obtain ⟨⟨⟨⟨⟨⟨⟨rfl, rfl⟩, rfl⟩, rfl⟩, _⟩, h1⟩, h2⟩, h3⟩ := h
    have gR : Gl X "repr" := kE_ok h3
    have v0 : ∀ {p : Pos}, PE X (.Name "told" p) (tVar 0) := fun {p} => pe_var (by rw [hN]; rfl) (.inl (kE_ok h1)) (by decide +kernel) (by decide +kernel)
    have v1 : ∀ {p : Pos}, PE X (.Name "due" p) (tVar 1) := fun {p} => pe_var (by rw [hN]; rfl) (.inl (kE_ok h2)) (by decide +kernel) (by decide +kernel)
    refine PSsw (pss_one (ps_ret (pe_cmpR op_eq (pe_callB (call_reprD hg hr) gR hm boot_repr (pa_cons (pe_lst (pa_cons v0 pa_nil)) pa_nil) (by decide +kernel) (by decide +kernel)) (pe_callB (call_reprD hg hr) gR hm boot_repr (pa_cons (pe_lst (pa_cons v1 pa_nil)) pa_nil) (by decide +kernel) (by decide +kernel)) (nomark _)))) fun D σ H ⟨v, w, p, q, e, d1, d2, o1, o2, hq⟩ => ?_
    subst e
    refine ⟨v, rfl, by show 1 ≤ sizeLine; decide, fun L1 n1 => ⟨L1, .list [p], rfl, ?_, o1, ?_⟩⟩
    · exact .lst (SqL.of upd_same) (.cons (Dp.kp (Kp.new n1) d1) .nil)
    refine ⟨w, rfl, by show 1 ≤ sizeLine; decide, fun L2 n2 => ⟨L2, .list [q], rfl, ?_, o2, ?_⟩⟩
    · exact .lst (SqL.of upd_same) (.cons (Dp.kp ((Kp.new n1).trans (Kp.new n2)) d2) .nil)
    refine ⟨rfl, ?_⟩
    have e : decide (V.str (PyData.list [p]).shown = V.str (PyData.list [q]).shown) = decide ((PyData.list [p]).shown = (PyData.list [q]).shown) := by
      by_cases z : (PyData.list [p]).shown = (PyData.list [q]).shown
      · rw [decide_eq_true z, z, decide_eq_true rfl]
      · rw [decide_eq_false z, decide_eq_false (fun y => z (by injection y))]
    rw [e]
    exact hq _ ((Kp.new n1).trans (Kp.new n2))
  · cases h
section
variable {R : RT} {F F' : Addr → Prop} {H H' : Hp} {σ : St} {ρ : Ev} {n m : Nat}
theorem StOk.kp {sa : SA} (st : StOk sa n H) (k : Kp H H') : StOk sa n H' := ⟨fun s b es => by
  obtain ⟨c, ns, q1, q2, q3, q4, q5⟩ := st.1 s b es
  exact ⟨c, ns, k _ _ q1, q2, q3, k _ _ q4, q5⟩, st.2.ext k⟩
theorem EnvOk.kp (E : EnvOk R n F σ H ρ) (k : Kp H H') : Nxt R n σ ρ F H F H' := by
  have x : Ext R.sa H H' := fun b o q _ => k b o q
  refine ⟨⟨E.ext.trans x, E.st.kp k, E.s0, E.fs, fun a ha z => ?_, E.new, E.len, fun i s hs => ?_, E.apart⟩, x, fun _ h => h, fun _ h => .inl h⟩
  · exact E.fr a ha (Kp.none k z)
  · have q := E.slot i s hs
    cases s with
    | sh d =>
      obtain ⟨v, h1, h2⟩ := q
      exact ⟨v, h1, h2.mono (E.keep x) fun _ h => h⟩
    | ow ps =>
      obtain ⟨a, vs, h1, h2, h3, h4, h5⟩ := q
      exact ⟨a, vs, h1, k _ _ h2, h3.mono (E.keep x) fun _ h => h, h4, h5⟩
theorem EnvOk.lst {P : Addr} {q : Str} (E : EnvOk R n F σ H ρ) (h : Lst P q H H') (hT : Tabs R.sa.T H') (hP : (P, q) ∈ R.sa.T) : Nxt R n σ ρ F H F H' := by
  rcases h with h | ⟨ps, c, hn, hc, h⟩
  · subst h; exact .refl E
  have x : Ext R.sa H H' := fun b o q hb => by
    rw [h, upd_ne (ne_of_none q hc), upd_ne (hb.2 _ hP)]
    exact q
  refine ⟨⟨E.ext.trans x, ⟨fun s b es => ?_, hT⟩, E.s0, E.fs, fun a ha z => ?_, E.new, E.len, fun i s hs => ?_, E.apart⟩, x, fun _ h => h, fun _ h => .inl h⟩
  · obtain ⟨cc, ns, q1, q2, q3, q4, q5⟩ := E.st.1 s b es
    obtain ⟨ps0, t1, _⟩ := E.st.2 _ hP
    have nl : ∀ b vs, H b = some (.lst vs) → H' b = some (.lst vs) := fun b vs e => by
      rw [h, upd_ne (ne_of_none e hc), upd_ne (fun z => by rw [z, t1] at e; cases e)]
      exact e
    exact ⟨cc, ns, nl _ _ q1, q2, q3, nl _ _ q4, q5⟩
  · cases e : H a with
    | none => exact E.fr a ha e
    | some o => rw [x a o e (E.fs a ha)] at z; cases z
  · have q := E.slot i s hs
    cases s with
    | sh d =>
      obtain ⟨v, h1, h2⟩ := q
      exact ⟨v, h1, h2.mono (E.keep x) fun _ h => h⟩
    | ow ps =>
      obtain ⟨a, vs, h1, h2, h3, h4, h5⟩ := q
      exact ⟨a, vs, h1, x _ _ h2 (E.s0.notS h5), h3.mono (E.keep x) fun _ h => h, h4, h5⟩
theorem shE_get {i : Nat} {s : Sl} (h : (shE ρ)[i]? = some (some s)) : ∃ d, s = .sh d ∧ ρ[i]? = some (some (.sh d)) := by
  unfold shE at h
  rw [List.getElem?_map] at h
  cases q : ρ[i]? with
  | none => rw [q] at h; cases h
  | some o =>
    rw [q] at h
    cases o with
    | none => cases h
    | some t =>
      cases t with
      | sh d => exact ⟨d, by cases h; rfl, rfl⟩
      | ow ps => cases h
/-- as a lambda's entry -/
theorem EnvOk.lam (E : EnvOk R n F σ H ρ) (m : Nat) : EnvOk ⟨R.S, R.sa, m, H, F⟩ n F σ H (shE ρ) := by
  refine ⟨.refl, E.st, E.st.s0, E.fs, E.fr, fun a h => .inl h, by unfold shE; rw [List.length_map]; exact E.len, fun i s hs => ?_, fun i j a ps qs h1 _ _ _ => ?_⟩
  · obtain ⟨d, rfl, hd⟩ := shE_get hs
    obtain ⟨v, h1, h2⟩ := E.slot i _ hd
    exact ⟨v, h1, RD.to (R := R) (R' := ⟨R.S, R.sa, m, H, F⟩) rfl rfl h2⟩
  · obtain ⟨d, e, _⟩ := shE_get h1
    cases e
end
section
variable {S : RS} {T : Tb} {Φ : Nat → List D → (D → Prop) → (Nat → Prop) → Prop} {dr : Nat → Nat}
variable {R : RT} {z : Pz} {X : Cx} {Ed : Nat → Prop} {e l r : Expr} {a b c : C} {pos p : Pos}
theorem nd_repr (s : Sit S T Φ dr R z X Ed) (L : LawF S R X) (hg : Gl X "repr") (hs : isStar e = false) (ha : PE X e (TEx Φ exName dr R (rlB R) Ed a)) : PE X (.Call (.Name "repr" p) [e] [] pos) (TEx Φ exName dr R (rlN R) Ed (.repr a)) :=
  PEw (pe_callB (call_reprD L.grd s.A.hr) hg (by rw [s.A.hm]; exact L.rep) boot_repr (pa_cons ha pa_nil (each_plain hs)) (by decide +kernel) (by decide +kernel) (each_plain hs)) fun σ H Q ⟨n, F, ρ, Qd, E, hn, hw, k⟩ => by
    simp only [wp] at hw
    simp only [drw] at hn k
    refine ⟨n, F, ρ, _, E, hn, hw, fun d v F1 H1 q x r => ?_⟩
    split at q
    · rename_i pp
      obtain ⟨⟨q1, q2⟩, q3⟩ := q
      have hd := RB.dp r
      have : ∃ a, v = .ref a := by
        cases pp with
        | list ps => cases hd; exact ⟨_, rfl⟩
        | tuple ps => cases hd; exact ⟨_, rfl⟩
        | _ => cases q1
      obtain ⟨ad, rfl⟩ := this
      exact ⟨ad, pp, rfl, by rw [s.hK]; exact hd, q2, k _ _ F1 H1 q3 x (.inl ⟨.str _, fun _ z => nomatch z⟩)⟩
    · exact q.elim
theorem nd_same {e1 e2 : Expr} (s : Sit S T Φ dr R z X Ed) (L : LawF S R X) (hL : 1 ≤ z.L) (hg : Gl X "_law_same") (hs1 : isStar e1 = false) (hs2 : isStar e2 = false) (ha : PE X e1 (TEx Φ exName dr R (rlB R) Ed a)) (hb : PE X e2 (TEx Φ exName dr R (rlB R) Ed b)) :
    PE X (.Call (.Name "_law_same" p) [e1, e2] [] pos) (TEx Φ exName dr R (rlN R) Ed (.same a b)) := by
  obtain ⟨g, pg, bg, sg, fd, hm, FD, hB, hsame⟩ := L.same
  obtain ⟨oc, od, dV, kV, doc, pm, an, cdv, ct, osl, rfl, lk, hcd, _⟩ := FD.ex
  refine ⟨fun pins s0 σ H Q I h => ?_⟩
  have hall : [e2].all (fun e => !isStar e) = true := by rw [List.all_cons, hs2]; rfl
  refine wpAny_Call_Name_kw (ld_glob I hg (by rw [s.A.hm]; exact hm) ?_ (by decide +kernel))
  obtain ⟨n, F, ρ, Qd, E, hn, hw, k⟩ := h
  simp only [drw] at hn k
  have hA : PA X [e1, e2] (TAx Φ exName dr R (rlB R) Ed (.cons a (.cons b .nil))) := nd_acons (rl := rlB R) rlB_ok hs1 ha (nd_acons (rl := rlB R) rlB_ok hs2 hb nd_anil)
  refine PySem.W.callWith_K (h₀ := X.base) I.ok.mod.kin (by rw [s.A.hK]; exact FD.kp) (thn (hA.run pos pins s0 σ H (fun vs H1 => ∃ v w p q, vs = [v, w] ∧ Dp X.K H1 v p ∧ Dp X.K H1 w q ∧ ReprOk (.list [p]) ∧ ReprOk (.list [q]) ∧ ∀ H', Kp H1 H' → Q (.bl (decide ((PyData.list [p]).shown = (PyData.list [q]).shown))) H') I ?_) fun us s1 ⟨vs, H1, I1, r, v, w, p', q', ev, d1, d2, o1, o2, hq⟩ => ⟨I1.kIn, ?_⟩) (each_plain hs1) (none_star hall)
  · refine ⟨n, F, ρ, fun x => match x with
      | .args [x, y] => (match x, y with
        | .py p, .py q => (ReprOk (.list [p]) ∧ ReprOk (.list [q])) ∧ Qd (.B (decide ((PyData.list [p]).shown = (PyData.list [q]).shown)))
        | _, _ => False)
      | _ => False, E, by simp only [drw]; omega, hw, fun ds vs F1 H1 q x r hl => ?_⟩
    match ds, q with
    | [x1, y1], q =>
      obtain ⟨v, w, rfl, r1, r2⟩ := ra2 r
      cases x1 with
      | py p' =>
        cases y1 with
        | py q' =>
          have q : (ReprOk (.list [p']) ∧ ReprOk (.list [q'])) ∧ Qd (.B (decide ((PyData.list [p']).shown = (PyData.list [q']).shown))) := q
          exact ⟨v, w, p', q', rfl, by rw [s.hK]; exact RB.dp r1, by rw [s.hK]; exact RB.dp r2, q.1.1, q.1.2, fun H' kp => k _ _ F1 H' q.2 ((x.trans (x.env.kp kp)).mono (by simp only [drw]; omega)) (.inl ⟨.bl _, fun _ z => nomatch z⟩)⟩
        | _ => exact False.elim q
      | _ => exact False.elim q
  · subst ev
    have hsc : C8.scC ["told", "due"] ["told", "due"] sg = true := by
      unfold sameB at hsame
      split at hsame
      · simp only [Bool.and_eq_true] at hsame
        exact hsame.1.1.1.2
      · cases hsame
    have Sg := C8.fnScope_by hsc
    obtain ⟨k', hk'⟩ : ∃ k', z.L = k' + 1 := ⟨z.L - 1, by omega⟩
    have hr : Room (k' + 1) X.A := by rw [← hk']; exact s.A.hr
    have hl2 : us.length = 2 := r.length.symm
    have rc : codeAny (model X.prog X.w) X.A (.call (.ref g) ⟨us, []⟩) (L2.CR C8.CX0 X.stack X.prog X.w H1 s1 Q C8.E0) s1 := by
      refine run_ofS (N := ["told", "due"]) (ps := ["told", "due"]) (us := us) (vs := [v, w]) (by rw [s.A.hK]; exact lk) (by rw [s.A.hK]; exact hcd) Sg hr I1.env0 ?_ r rfl fun hr' => ?_
      · have := hB s1 us (by have := I1.kIn; rw [s.A.hK] at this; exact this) (by rw [List.append_nil]; exact hl2)
        rw [List.append_nil] at this
        exact this
      · refine ⟨_, pss_same (by show X.A.guards = _; exact L.grd) hr' rfl (by show X.mg _ = none; rw [s.A.hm]; exact L.rep) hsame, v, w, p', q', rfl, d1, d2, o1, o2, fun H' kp => hq H' kp⟩
    refine wpAny_call (codeAny_mono rc fun r s2 hq => ?_)
    cases r with
    | error e => exact (show False from hq).elim
    | ok fl =>
      cases fl with
      | ret u => exact I1.after hq
      | next => exact False.elim hq
      | brk => exact False.elim hq
      | cont => exact False.elim hq
end
end Y

/-! part Y21 -/
set_option Elab.async false
set_option linter.all false
set_option maxRecDepth 100000
set_option maxHeartbeats 2000000
/-! Y21: a told call. -/
namespace Y
open PySem PySem.Spec
open PyProof.Rows hiding St
open L2 LamX
section
variable {S : RS} {T : Tb} {Φ : Nat → List D → (D → Prop) → (Nat → Prop) → Prop} {dr : Nat → Nat}
variable {R : RT} {z : Pz} {X : Cx} {Ed : Nat → Prop} {e l r : Expr} {es : List Expr} {a b c : C} {pos p lpos : Pos}
def lamZ (z : Pz) (scope : Scope) : Pz := ⟨z.N, scope, some scope, z.L - 2, false⟩
/-- the lambda's reading: what it may raise is told of later -/
def tLx (Φ : Nat → List D → (D → Prop) → (Nat → Prop) → Prop) (dr : Nat → Nat) (S : RS) (a : C) : XK → TE := fun E σ H Q => ∃ (sa : SA) (m : Nat) (F : Addr → Prop) (Ed : Nat → Prop), m ≤ BIG ∧
  (∀ k H', Ed k → Ext sa H H' → StOk sa m H' → E (.ref (S.ex k)) none H') ∧ ∃ n ρ Qd, EnvOk ⟨S, sa, m, H, F⟩ n F σ H ρ ∧ n + drw dr a ≤ m ∧ wp Φ exName a ρ Qd Ed ∧ ∀ d v F' H', Qd d → Nxt ⟨S, sa, m, H, F⟩ (n + drw dr a) σ ρ F H F' H' → RD ⟨S, sa, m, H, F⟩ F' H' v d → Q v H'
theorem lam_fn {scope sc : Scope} (L : LamS sc scope) {Q : Prop} (x : Str) (h : (scope.names.lookup x == some .cell) = true) : Q :=
  absurd rfl (L.own _ (PySem.mem_of_lookup (eq_of_beq h))).2
theorem lam_sit {scope : Scope} (s : Sit S T Φ dr R z X Ed) (L : LamS X.env.scope scope) {sa : SA} {m : Nat} {F : Addr → Prop} {Ed' : Nat → Prop} {A : Around} {outer : List Env} {s0 : Shared} {H H2 : Hp} {E : XK} {f c' : Addr} (hr : Room (z.L - 2) (A.deeper (lamEnv X scope s0.heap.objs.size f c')))
    (hm : m ≤ BIG) (hE : ∀ k H', Ed' k → Ext sa H2 H' → StOk sa m H' → E (.ref (S.ex k)) none H') : Sit S T Φ dr ⟨S, sa, m, H2, F⟩ (lamZ z scope) (lamN X A outer s0 H E scope f c') Ed' where
  A := { hP := s.A.hP, hw := s.A.hw, hK := s.A.hK, hm := s.A.hm, hb := s.A.hb, hN := s.A.hN, nd := s.A.nd, hs := rfl, calm := rfl, hr := hr, hg := (fun z => (by cases z)), hf := (fun x h => lam_fn L x h) }
  hS := rfl
  w := ⟨⟨_, L2N.takes_of rfl rfl rfl rfl, fun j σ H' q x st => hE j H' q x st⟩, hm⟩
  bs := s.bs
  fh := fun k hk => s.fh k (Nat.le_trans hk (Nat.sub_le _ _))
  lw := fun z => (by cases z)
theorem nd_told {body : Expr} {scope : Scope} (s : Sit S T Φ dr R z X Ed) (L : LawF S R X) (hL : 2 ≤ z.L) (hg : Gl X "_law_told") (hlam : LamS X.env.scope scope)
    (ha : ∀ {R' X' Ed'}, Sit S T Φ dr R' (lamZ z scope) X' Ed' → PE X' body (TEx Φ exName dr R' (rlD R') Ed' a)) :
    PE X (.Call (.Name "_law_told" p) [.Lambda ⟨[], [], none, [], [], none, []⟩ body scope lpos] [] pos) (TEx Φ exName dr R (rlN R) Ed (.told a)) := by
  obtain ⟨g, pg, bg, sg, fd, hm, FD, hB, htold⟩ := L.told
  obtain ⟨oc, od, dV, kV, doc, pm, an, cdv, ct, osl, rfl, lk, hcd, _⟩ := FD.ex
  obtain ⟨c, P, TB, hcode, hT⟩ := L.tab
  have hsc : toldSc sg = true := by
    unfold toldB at htold
    split at htold
    · simp only [Bool.and_eq_true] at htold
      exact htold.2
    · cases htold
  have hsc2 : C8.scC toldNs ["call"] sg = true ∧ sg.names.lookup ("call" : Str) = some .local := by
    unfold toldSc at hsc
    simp only [Bool.and_eq_true] at hsc
    exact ⟨hsc.1.1.1.1.1.1.1.1.1.1, kE_ok hsc.1.1.1.1.1.1.1.1.1.2⟩
  have Sg := C8.fnScope_by hsc2.1
  have hr : Room ((z.L - 2) + 2) X.A := by rw [Nat.sub_add_cancel hL]; exact s.A.hr
  have hmT : (P, X.env.qual ++ "<lambda>") ∈ R.sa.T := by rw [hT]; exact List.mem_singleton_self _
  have main := pe_lamcall3 (pos := pos) (p := p) (lpos := lpos) (T := R.sa.T) (TT := TTd S) (t := tLx Φ dr S a) (k := z.L - 2) (params := ⟨[], [], none, [], [], none, []⟩) (body := body) (scope := scope) (Ng := toldNs) (a := "call") hg (by rw [s.A.hm]; exact hm) (by rw [s.A.hK]; exact FD.kp) (by rw [s.A.hK]; exact lk) (by rw [s.A.hK]; exact hcd) (by rw [s.A.hK]; exact hB) Sg rfl (.inl hsc2.2)
    (told_ok s.A.hK s.A.hm L.cls htold) TB hcode hmT (fun p hp _ => by rw [hT] at hp; rw [List.mem_singleton.mp hp]) hr hlam rfl (fun _ _ _ _ _ => rfl) (fun A outer s0 H E f c' hr' => ⟨fun pins s1 σ H2 Q I h => ?_⟩) (by decide +kernel) (by decide +kernel) (by decide +kernel)
  · refine PEw main fun σ H Q ⟨n, F, ρ, Qd, E, hn, hw, k⟩ => ?_
    simp only [wp] at hw
    simp only [drw] at hn k
    refine ⟨E.st.2, fun H1 hl hT1 => ?_⟩
    have x1 := E.lst hl hT1 hmT
    have E1 := x1.env
    have hS := s.hS
    refine ⟨R.sa, n + drw dr a, F, _, Nat.le_trans hn s.w.big, fun j H' hj hx hst => ?_, n, shE ρ, _, by have := E1.lam (n + drw dr a); rw [hS] at this; exact this, Nat.le_refl _, hw, fun d v F' H' q x r => ?_⟩
    · obtain ⟨hj3, hq⟩ := hj
      refine ⟨j, hj3, rfl, rfl, fun Tt H'' kp hn' hTt => ?_⟩
      have fr : ∀ b, F b → H' b ≠ none := fun b hb z => by
        cases q : H1 b with
        | none => exact E1.fr b hb q
        | some o =>
          rw [hx b o q (E1.fs b hb)] at z
          cases z
      have y : Nxt R (n + drw dr a) σ ρ F H1 F H' := E1.after ⟨hx, hst, fun _ h => h, fr, fun _ h => .inl h, E1.fs⟩
      have y2 := y.env.kp kp
      exact k _ _ F H'' hq ((x1.trans y).trans y2) (.inl ⟨.tup (SqT.of hTt) (.cons (.str _) .nil), fun _ z => nomatch z⟩)
    · split at q
      · rename_i pp
        refine ⟨by show 2 ≤ sizeLine; decide, fun Tt hTt => ?_⟩
        have y : Nxt R (n + drw dr a) σ ρ F H1 F' H' := E1.after ⟨x.ext, x.env.st, x.sub, x.env.fr, x.nw, x.env.fs⟩
        have r' : Rp R.K F' H' v pp := by
          have r : Rp S.K F' H' v pp := r
          show Rp R.S.K F' H' v pp
          rw [hS]; exact r
        have y2 := Nxt.upd y.env hTt (o := .tup [V.str "told", v])
        refine k _ _ F' _ q ((x1.trans y).trans y2) ?_
        have := y.env.newT hTt (RpAll.cons (.str "told") (.cons r' .nil))
        exact RN.back E (x1.trans y).ext y2.env.st y2.ext y.env.st this
      · exact q.elim
  · obtain ⟨sa, m, F, Ed', hm', hE, n, ρ, Qd, E0, hn, hw, kk⟩ := h
    exact (ha (lam_sit (F := F) s hlam hr' hm' hE)).run pins s1 σ H2 Q I ⟨n, F, ρ, Qd, E0, hn, hw, kk⟩
end
end Y

/-! part Y31 -/
set_option Elab.async false
set_option linter.all false
set_option maxRecDepth 100000
set_option maxHeartbeats 2000000
/-! Y31: a lambda with a default that it does not read. -/
namespace Y
open PySem PySem.Spec PyProof.Rows LamX
open L2 (Hp HO V Cx Inv TE TI TT TG TS VK XK upd upd_ne upd_same ne_of_none frs CX cloFrom PE PS PSs FnScope Gl Vis Room Takes WX cxOf closure_ok E0 Env0 Un)
structure LamD (sc scope : Scope) (d : Str) : Prop where
  kind : scope.kind = .function
  co : scope.isCoroutine = false
  gen : scope.isGenerator = false
  own : ∀ y ∈ scope.names, (y.2 = .local → y.1 = d) ∧ y.2 ≠ .cell
  par : scope.names.lookup d = some .local
  free : ∀ y ∈ scope.names, y.2 = .free → sc.names.lookup y.1 = some .cell ∨ sc.names.lookup y.1 = some .free
def lamDB (sc scope : Scope) (d : Str) : Bool :=
  decide (scope.kind = .function) && !scope.isCoroutine && !scope.isGenerator && decide (scope.names.lookup d = some .local) && scope.names.all fun y => (!decide (y.2 = .local) || decide (y.1 = d)) && !decide (y.2 = .cell) && (!decide (y.2 = .free) || decide (sc.names.lookup y.1 = some .cell) || decide (sc.names.lookup y.1 = some .free))
theorem lamD_by {sc scope : Scope} {d : Str} (h : lamDB sc scope d = true) : LamD sc scope d := by
  unfold lamDB at h
  simp only [Bool.and_eq_true, Bool.or_eq_true, Bool.not_eq_true', decide_eq_true_eq, decide_eq_false_iff_not, List.all_eq_true] at h
  obtain ⟨⟨⟨⟨h1, h2⟩, h3⟩, h5⟩, h4⟩ := h
  refine ⟨h1, h2, h3, fun y hy => ⟨fun e => (h4 y hy).1.1.resolve_left (fun z => z e), (h4 y hy).1.2⟩, h5, fun y hy e => ?_⟩
  rcases (h4 y hy).2 with (z | z) | z
  · exact absurd e z
  · exact .inl z
  · exact .inr z
theorem LamD.has {X : Cx} {scope : Scope} {d : Str} (L : LamD X.env.scope scope d) (ok : X.Ok) : ∀ y ∈ scope.names, y.2 = .free → ∃ c, X.env.cells.lookup y.1 = some c := fun y hy e => by
  rcases L.free y hy e with k | k
  · exact ok.has _ (.inl k)
  · exact ok.has _ (.inr k)
theorem binds_D {s : Shared} {T0 : Addr} {v : Value} {q : Str} {ar : Arg} {n : Int} {kd : Nat} {cp : Pos} {body : Expr} {scope : Scope} {cl : List (Str × Addr)} {doc pm cv ctv : Value} (oT : s.heap.get? T0 = some (PySem.W.kdv_tup [v])) :
    BindsTo s (PySem.W.kdv_fn "<lambda>" q ⟨[], [ar], none, [], [], none, [.Constant (.int n) kd cp]⟩ (.expr body) scope cl (.ref T0) doc pm cv ctv) ⟨[], []⟩ [(ar.arg, v)] := by
  refine BindsTo.of_defaults rfl oT rfl rfl ?_
  have e : (ar.arg == ar.arg) = true := beq_self_eq_true _
  simp [List.lookup]
section
variable {X : Cx} {pins : List (Addr × Obj)} {σ : L2.St} {H : Hp} {s : Shared}
theorem lam_tailD {T : List (Addr × Str)} {c P T0 : Addr} {v : Value} {params : Arguments} {body : Expr} {scope : Scope} {pos : Pos} {E : Value → Shared → Prop} {Q : Value → Shared → Prop} (I : Inv X pins σ H s) (TB : TabB X.base X.mg c P) (hcode : X.env.code = .ref c)
    (hm : (P, X.env.qual ++ "<lambda>") ∈ T) (hu : ∀ p ∈ T, p.1 = P → p.2 = X.env.qual ++ "<lambda>") (hT : Tabs T H) (hfree : ∀ y ∈ scope.names, y.2 = .free → ∃ c, X.env.cells.lookup y.1 = some c)
    (oT : s.heap.get? T0 = some (PySem.W.kdv_tup [v])) (nT : H T0 = none)
    (h : ∀ (f c' : Addr) (doc pm ctv : Value) (H1 : Hp) (s' : Shared), Inv X pins σ H1 s' → Lst P (X.env.qual ++ "<lambda>") H H1 → Tabs T H1 →
      s'.heap.get? f = some (PySem.W.kdv_obj "<lambda>" (X.env.qual ++ "<lambda>") params (.expr body) scope (cloFrom X.env.cells scope.names []) (.ref T0) doc pm c' ctv) → H1 f = none → f ∉ frs X.stack → s'.heap.get? T0 = some (PySem.W.kdv_tup [v]) → H1 T0 = none → H1 c' = some (CodeO c' (X.env.qual ++ "<lambda>")) → Q (.ref f) s') :
    wpAny (model X.prog X.w) X.A (makeTail "<lambda>" (X.env.qual ++ "<lambda>") params (.expr body) scope X.env (.ref T0) .none none pos pos.line) Q E s := by
  obtain ⟨ps, hP, ht, ha⟩ := hT _ hm
  have bP : s.heap.BuiltinsAt X.mg P := TB.bm.keeps I.bk
  have hP' : s.heap.get? P = some { cls := .none, data := .fields ps } := I.hok P _ hP
  have nofr : ∀ f, s.heap.objs.size ≤ f → f ∉ frs X.stack := fun f hf z => by
    rcases List.mem_cons.mp (I.stkSub _ z) with e | e
    · have h1 := I.lt
      rw [← e] at h1
      exact Nat.lt_irrefl _ (Nat.lt_of_lt_of_le h1 hf)
    · exact I.nofs hf e
  have hTs := Heap.lt_size oT
  cases hc : codeAmong pos ps.toList with
  | some cv =>
    obtain ⟨c', e, hco⟩ := ha pos cv hc
    subst e
    refine PySem.W.kdv_makeTailHit (mg := X.mg) (c := c) (P := P) (ps := ps) (closure_ok hfree) I.ok.glob (I.mod.glob.keeps I.bk) hcode (TB.code.keeps I.bk) hP' ht hc bP fun ctv doc h' tk hx hsz => ?_
    have I1 : Inv X pins σ H { s with heap := h'.push (PySem.W.kdv_obj "<lambda>" (X.env.qual ++ "<lambda>") params (.expr body) scope (cloFrom X.env.cells scope.names []) (.ref T0) doc ((X.mg "__name__").getD .none) c' ctv), toks := tk } := I.kept fun b o e => Heap.get?_push_of_some _ (hx b o e)
    exact h _ c' _ _ ctv H _ I1 (.inl rfl) hT (Heap.get?_push_size _ rfl) (I.hok.fresh hsz) (nofr _ hsz) (Heap.get?_push_of_some _ (hx _ _ oT)) nT hco
  | none =>
    refine PySem.W.kdv_makeTail (mg := X.mg) (c := c) (P := P) (ps := ps) (closure_ok hfree) I.ok.glob (I.mod.glob.keeps I.bk) hcode (TB.code.keeps I.bk) hP' ht hc TB.gP bP fun c' ctv doc h' tk hx hge hlt hrec htb => ?_
    obtain ⟨c2, oc, vs, t, e2, hoc, hd, hv⟩ := hrec
    cases e2
    have hsz : s.heap.objs.size ≤ h'.objs.size := Nat.le_trans hge (Nat.le_of_lt hlt)
    have nC : H c' = none := I.hok.fresh hge
    have I1 := inv_table (t' := tk) (more := #[rawInt pos.line, rawInt pos.col, .ref c']) (h' := h'.push (PySem.W.kdv_obj "<lambda>" (X.env.qual ++ "<lambda>") params (.expr body) scope (cloFrom X.env.cells scope.names []) (.ref T0) doc ((X.mg "__name__").getD .none) c' ctv)) I hP
      (fun b o hb e => Heap.get?_push_of_some _ (hx b o hb e)) (Heap.get?_push_of_some _ htb) hge ⟨oc, vs, t, Heap.get?_push_of_some _ hoc, hd, hv⟩
    have keepC : ∀ c0, H c0 = some (CodeO c0 (X.env.qual ++ "<lambda>")) ∨ (∃ q, H c0 = some (CodeO c0 q)) → c0 ≠ P ∧ c0 ≠ c' := fun c0 hz => by
      have : ∃ q, H c0 = some (CodeO c0 q) := hz.elim (fun z => ⟨_, z⟩) id
      obtain ⟨q, hz⟩ := this
      refine ⟨fun z => ?_, ne_of_none hz nC⟩
      rw [z, hP] at hz
      exact codeO_ne ps (Option.some.inj hz).symm
    have eL : (ps ++ #[rawInt pos.line, rawInt pos.col, .ref c']).toList = ps.toList ++ [rawInt pos.line, rawInt pos.col, .ref c'] := by simp
    have nTP : T0 ≠ P := fun z => by rw [z, hP] at nT; cases nT
    have nTc : T0 ≠ c' := Nat.ne_of_lt (Nat.lt_of_lt_of_le hTs hge)
    refine h h'.objs.size c' _ _ ctv _ _ I1 (.inr ⟨_, c', (by rw [hP]; exact Option.some_ne_none _), nC, rfl⟩) (fun p hp => ?_) (Heap.get?_push_size _ rfl) ?_ (nofr _ hsz) (Heap.get?_push_of_some _ (hx _ _ nTP oT)) (by rw [upd_ne nTc, upd_ne nTP]; exact nT) upd_same
    · by_cases hb : p.1 = P
      · rw [hu p hp hb, hb]
        refine ⟨_, by rw [upd_ne (ne_of_none hP nC), upd_same], by rw [eL]; exact PySem.TriplesOk_snoc _ _ _ _ ht, fun p' cv hcv => ?_⟩
        rw [eL] at hcv
        rcases among_app _ ht hcv with z | z
        · obtain ⟨c0, e1, e2⟩ := ha p' cv z
          obtain ⟨n1, n2⟩ := keepC c0 (.inl e2)
          exact ⟨c0, e1, by rw [upd_ne n2, upd_ne n1]; exact e2⟩
        · exact ⟨c', z, upd_same⟩
      · obtain ⟨ps', a1, a2, a3⟩ := hT p hp
        refine ⟨ps', by rw [upd_ne (ne_of_none a1 nC), upd_ne hb]; exact a1, a2, fun p' cv hcv => ?_⟩
        obtain ⟨c0, e1, e2⟩ := a3 p' cv hcv
        obtain ⟨n1, n2⟩ := keepC c0 (.inr ⟨_, e2⟩)
        exact ⟨c0, e1, by rw [upd_ne n2, upd_ne n1]; exact e2⟩
    · rw [upd_ne (Nat.ne_of_gt hlt), upd_ne (Nat.ne_of_gt (Nat.lt_of_lt_of_le (Heap.lt_size hP') hsz))]
      exact I.hok.fresh hsz
theorem lam_makeD {T : List (Addr × Str)} {c P : Addr} {n : Int} {kd : Nat} {cp : Pos} {ar : Arg} {body : Expr} {scope : Scope} {pos : Pos} {E : Value → Shared → Prop} {Q : Value → Shared → Prop} (I : Inv X pins σ H s) (TB : TabB X.base X.mg c P) (hcode : X.env.code = .ref c)
    (hm : (P, X.env.qual ++ "<lambda>") ∈ T) (hu : ∀ p ∈ T, p.1 = P → p.2 = X.env.qual ++ "<lambda>") (hT : Tabs T H) (hfree : ∀ y ∈ scope.names, y.2 = .free → ∃ c, X.env.cells.lookup y.1 = some c)
    (h : ∀ (f c' T0 : Addr) (v doc pm ctv : Value) (H1 : Hp) (s' : Shared), Inv X pins σ H1 s' → Lst P (X.env.qual ++ "<lambda>") H H1 → Tabs T H1 →
      s'.heap.get? f = some (PySem.W.kdv_obj "<lambda>" (X.env.qual ++ "<lambda>") ⟨[], [ar], none, [], [], none, [.Constant (.int n) kd cp]⟩ (.expr body) scope (cloFrom X.env.cells scope.names []) (.ref T0) doc pm c' ctv) → H1 f = none → f ∉ frs X.stack → s'.heap.get? T0 = some (PySem.W.kdv_tup [v]) → H1 T0 = none → T0 ∉ frs X.stack → H1 c' = some (CodeO c' (X.env.qual ++ "<lambda>")) → Q (.ref f) s') :
    wpAny (model X.prog X.w) X.A (eval (.Lambda ⟨[], [ar], none, [], [], none, [.Constant (.int n) kd cp]⟩ body scope pos) X.env) Q E s := by
  have nofr : ∀ f, s.heap.objs.size ≤ f → f ∉ frs X.stack := fun f hf z => by
    rcases List.mem_cons.mp (I.stkSub _ z) with e | e
    · have h1 := I.lt
      rw [← e] at h1
      exact Nat.lt_irrefl _ (Nat.lt_of_lt_of_le h1 hf)
    · exact I.nofs hf e
  refine PySem.W.kdv_lam rfl rfl ?_
  refine PySem.W.kdv_all1 (wpAny_Constant_int (PySem.W.kdv_all0 ?_))
  rw [makeFunction_eq]
  simp only [List.zip_nil_right, List.filterMap_nil, List.isEmpty_nil, if_true, pure_bind, List.isEmpty_cons, Bool.false_eq_true, if_false]
  refine wpAny_bind (wpAny_newTextTuple ?_)
  have I0 : Inv X pins σ H { s with heap := s.heap.push (PySem.W.kdv_tup [.int n s.toks]), toks := s.toks + 1 } := I.kept fun b o e => Heap.get?_push_of_some _ e
  exact lam_tailD I0 TB hcode hm hu hT hfree (Heap.get?_push_size _ rfl) (I.hok.fresh (Nat.le_refl _)) fun f c' doc pm ctv H1 s' I1 a b c d e g i j => h f c' _ _ doc pm ctv H1 s' I1 a b c d e g i (nofr _ (Nat.le_refl _)) j
theorem lam_startD {A : Around} {outer : List PySem.Env} {E : XK} {scope : Scope} {f c' : Addr} {h₁ : Heap} {tk : Nat} {d : Str} {v : Value} {HZ : Hp} {s1 : Shared} {σ' : L2.St} (I : Inv X pins σ H s) (L : LamD X.env.scope scope d) (e0 : Env0 X.prog X.w X.K X.mg X.base A outer s1 HZ) (hd : A.handled = none)
    (hσ : ∀ (j : Nat) (u : V), X.N[j]? = some d → σ'[j]? ≠ some (some u)) (hσ2 : ∀ (j : Nat) (u : V), σ'[j]? = some (some u) → σ[j]? = some (some u)) (hl : σ'.length = σ.length)
    (un : Un (frs X.stack) [] H HZ s.heap s1.heap) (hns : h₁.Ns s1.heap.objs.size fun y => ([(d, v)] : List (Str × Value)).reverse.lookup y) (kp : ∀ b o, s1.heap.get? b = some o → h₁.get? b = some o) :
    Inv (lamCx X A outer s1 HZ E scope f c') [] σ' HZ { s1 with heap := h₁, toks := tk } := by
  have hfree := L.has I.ok
  have cm : ∀ {y c}, (cloFrom X.env.cells scope.names []).lookup y = some c → X.env.cells.lookup y = some c := fun {y c} e => by
    rcases L2.cloFrom_mem (PySem.mem_of_lookup e) with hm | ⟨h1, h2⟩
    · cases hm
    · obtain ⟨c1, hc⟩ := hfree _ h1 rfl
      have hc : X.env.cells.lookup y = some c1 := hc
      have e2 : c = c1 := by
        rw [h2, hc] <;> rfl
      rw [e2]
      exact hc
  have look : ∀ {y}, scope.names.lookup y = some .free → ∃ c, (cloFrom X.env.cells scope.names []).lookup y = some c := fun {y} hl => by
    have hy : (y, NameKind.free) ∈ scope.names := PySem.mem_of_lookup hl
    exact L2.mem_lookup (L2.cloFrom_has (cells := X.env.cells) (acc := []) hy)
  have cellK : ∀ {c : Addr} {v : Option Value}, H c = none → s.heap.IsCell c v → h₁.IsCell c v := fun {c v} n ⟨o, ho, hd⟩ => by
    obtain ⟨sl, q⟩ := un.any ho n (by simp)
    exact ⟨_, kp _ _ q, hd⟩
  have noA : ∀ b : Addr, b ∉ (lamCx X A outer s1 HZ E scope f c').ex := fun b z => absurd (show b ∈ ([] : List Addr) from z) (by simp)
  refine ⟨⟨e0.mod, L.kind, rfl, rfl, Nat.le_refl _, fun y z c e1 e2 => I.ok.inj y z c (cm e1) (cm e2), fun y hy => ?_, fun y c z _ => ?_, fun _ => hd, Around.frames_deeper e0.frames, .inr ⟨rfl, rfl⟩, fun b z => absurd z (noA b), e0.bs, e0.bsz, fun b _ _ => noA b,
      fun b z => absurd z (noA b), e0.funs, e0.frf⟩,
    rfl, e0.bare, Un.kept kp, ⟨_, hns, fun i y v e1 e2 e3 => ?_⟩, fun y c e => ?_, e0.hok.fresh (Nat.le_refl _), fun y c e => ?_, fun q hq => absurd (show q ∈ ([] : List (Addr × Obj)) ++ [] from hq) (by simp), e0.hok.kept kp, hl.trans I.len⟩
  · have hy : scope.names.lookup y = some .cell ∨ scope.names.lookup y = some .free := hy
    rcases hy with hy | hy
    · exact absurd rfl (L.own _ (PySem.mem_of_lookup hy)).2
    · exact look hy
  · have z : false = true := z
    cases z
  · have e3 : Vis scope y := e3
    rcases e3 with k | k | k
    · have ey : y = d := (L.own _ (PySem.mem_of_lookup k)).1 rfl
      rw [ey] at e1
      exact absurd e2 (hσ i v e1)
    · exact absurd rfl (L.own _ (PySem.mem_of_lookup k)).2
    · obtain ⟨m, hn, hl⟩ := I.loc
      have hvis : Vis X.env.scope y := (L.free _ (PySem.mem_of_lookup k) rfl).elim (fun k => .inr (.inl k)) (fun k => .inr (.inr k))
      obtain ⟨w', r, q⟩ := hl i y v e1 (hσ2 i v e2) hvis
      obtain ⟨c2, h2⟩ := look k
      refine ⟨w', r, .inr ⟨.inr k, c2, h2, ?_⟩⟩
      have c1 := cm h2
      rcases q with ⟨k', _⟩ | ⟨_, c3, e', z⟩
      · have k' : X.env.scope.names.lookup y = some .local := k'
        rcases L.free _ (PySem.mem_of_lookup k) rfl with k2 | k2 <;> rw [show X.env.scope.names.lookup y = _ from k2] at k' <;> cases k'
      · rw [c1] at e'
        cases e'
        exact cellK (I.freeC y _ c1) z
  · obtain ⟨w', z⟩ := I.cell y c (cm e)
    exact ⟨w', cellK (I.freeC y c (cm e)) z⟩
  · obtain ⟨v, o, ho, hd⟩ := I.cell y c (cm e)
    exact un.free c o ho (I.freeC y c (cm e)) (by simp)
/-- x(), in the def that got the lambda -/
theorem pe_actD {CXg : L2.CXT} {Eg : XK} {Ng : List Str} {qg : Str} {sg : Scope} {g f c' T0 : Addr} {cdg doc pm ctv v : Value} {ar : Arg} {n : Int} {kd : Nat} {cp : Pos} {body : Expr} {scope : Scope} {k i i0 : Nat} {a : Str} {pn : List (Addr × Obj)} {xe : Value → Shared → Prop} {W : WX} {E : XK} {tb : TE} {p1 p2 : Pos}
    (I : Inv X pins σ H s) (L : LamD X.env.scope scope ar.arg) (hi0 : ∀ j : Nat, X.N[j]? = some ar.arg → j = i0) (hf : s.heap.get? f = some (PySem.W.kdv_obj "<lambda>" (X.env.qual ++ "<lambda>") ⟨[], [ar], none, [], [], none, [.Constant (.int n) kd cp]⟩ (.expr body) scope (cloFrom X.env.cells scope.names []) (.ref T0) doc pm c' ctv)) (hfn : H f = none) (hfr : f ∉ frs X.stack)
    (hT : s.heap.get? T0 = some (PySem.W.kdv_tup [v])) (hTn : H T0 = none) (hTr : T0 ∉ frs X.stack)
    (tk : L2N.Takes ((cxOf CXg X.prog X.w X.K X.mg X.base Ng qg sg g cdg X.A X.stack s H Eg).tr pn xe) W) (hW : ∀ cls d σ' H', E cls d H' → W cls d σ' H') (hr : Room (k + 1) (X.A.deeper (envOfC qg sg s.heap.objs.size g cdg)))
    (hbody : ∀ (A : Around) (outer : List PySem.Env) (s : Shared) (H : Hp), Room k (A.deeper (lamEnv X scope s.heap.objs.size f c')) → PE (lamN X A outer s H E scope f c') body tb)
    (hN : Ng[i]? = some a) (hv : Vis sg a) (hd : (a == ("__debug__" : Str)) = false) (hcd : (a == ("__classdict__" : Str)) = false) :
    PE ((cxOf CXg X.prog X.w X.K X.mg X.base Ng qg sg g cdg X.A X.stack s H Eg).tr pn xe) (.Call (.Name a p1) [] [] p2)
      (fun σZ HZ Q => σZ[i]? = some (some (.ref f)) ∧ HZ c' = some (CodeO c' (X.env.qual ++ "<lambda>")) ∧ tb (σ.set i0 none) HZ Q) := by
  refine ⟨fun pinsZ sZ σZ HZ Q IZ h => ?_⟩
  obtain ⟨hs, hc, ht⟩ := h
  refine wpAny_Call_Name_kw (L2.thn ((L2.pe_var (pos := p1) (i := i) hN hv hd hcd).run pinsZ sZ σZ HZ (fun v H1 => v = .ref f ∧ H1 = HZ) IZ ⟨.ref f, hs, rfl, rfl⟩) fun u s1 ⟨v, H1, I1, r1, q1⟩ => ?_)
  obtain ⟨rfl, rfl⟩ := q1
  obtain rfl : u = Value.ref f := r1
  have of1 := I1.base.keep f _ hf hfn hfr (fun z => nomatch (show f ∈ ([] : List Addr) from z))
  have oT1 := I1.base.keep T0 _ hT hTn hTr (fun z => nomatch (show T0 ∈ ([] : List Addr) from z))
  refine PySem.W.callWith_F0 ⟨_, _, _, _, of1⟩ ?_
  obtain ⟨⟨oc, vs, t, hoc, hdc, hvc⟩, _, _⟩ := I1.hok c' _ hc
  have rc : codeAny (model X.prog X.w) (X.A.deeper (envOfC qg sg s.heap.objs.size g cdg)) (.call (.ref f) ⟨[], []⟩) (L2.CR (L2N.CX X.prog X.w) (envOfC qg sg s.heap.objs.size g cdg :: X.stack) X.prog X.w H1 s1 Q E) s1 := by
    refine PySem.W.kla_callFunE hr.depth of1 rfl L.co L.gen rfl ⟨c', oc, vs, t, rfl, hoc, hdc, hvc⟩ ?_
    refine binds_D oT1 _ _ _ _ ?_
    refine wpAny_newFunctionEnv (fun y hy => (L.own y hy).2) (fun y hy => by rw [List.mem_singleton.mp hy]; exact L.par) (fun h₁ hns hsb => ⟨I1.nolimit.fresh _ hsb, ?_⟩) L.kind
    show codeAny _ _ (.expr body (lamEnv X scope s1.heap.objs.size f c')) _ _
    have kp : ∀ b o, s1.heap.get? b = some o → h₁.get? b = some o := fun b o e => hsb.extBut b o (Nat.ne_of_lt (Heap.lt_size e)) (Heap.get?_push_of_some _ e)
    have J := (lam_startD (σ' := σ.set i0 none) (f := f) (c' := c') (E := E) (tk := s1.toks + 1) I L I1.env0 hr.hd (fun j u e z => by
        have := hi0 j e
        subst this
        rw [List.getElem?_set] at z
        simp only [if_true] at z
        split at z <;> cases z) (fun j u z => by
        rw [List.getElem?_set] at z
        split at z
        · split at z <;> cases z
        · exact z) (List.length_set ..) I1.base hns kp).wish (fun e s' => wpAny (model X.prog X.w) ((X.A.deeper (envOfC qg sg s.heap.objs.size g cdg)).deeper (lamEnv X scope s1.heap.objs.size f c')) (leaving (lamEnv X scope s1.heap.objs.size f c') e) (fun _ s'' => L2N.CX X.prog X.w (envOfC qg sg s.heap.objs.size g cdg :: X.stack) H1 s1 E e s'') (fun e' s'' => L2N.CX X.prog X.w (envOfC qg sg s.heap.objs.size g cdg :: X.stack) H1 s1 E e' s'') s')
    refine PySem.W.kla_codeExpr (wpAny_mono ((hbody _ _ s1 H1 (hr.deeper _)).run [] _ _ H1 Q J ht) (fun v s' hq => ?_) fun e s' hq => hq)
    obtain ⟨w', H', J', rv, q⟩ := hq
    exact ⟨w', H', J'.os, J'.bare, J'.base, J'.hok, rv, q⟩
  have hx : L2.Passes (L2N.CX X.prog X.w) ((cxOf CXg X.prog X.w X.K X.mg X.base Ng qg sg g cdg X.A X.stack s H Eg).tr pn xe) E := L2N.passes_call tk hW
  refine wpAny_call (codeAny_mono rc fun r s' hq => ?_)
  cases r with
  | error e => exact hx pinsZ σZ H1 s1 e s' I1 hq
  | ok fl =>
    cases fl with
    | ret u => exact I1.after hq
    | next => exact False.elim hq
    | brk => exact False.elim hq
    | cont => exact False.elim hq
end
section
variable {X : Cx}
def tLamD (i0 : Nat) (T : List (Addr × Str)) (P : Addr) (q : Str) (TT : (XK → Hp → VK → Prop) → Hp → VK → Prop) (t : XK → TE) : TE := fun σ H Q => Tabs T H ∧ ∀ H1, Lst P q H H1 → Tabs T H1 → TT (fun E H' Q' => t E (σ.set i0 none) H' Q') H1 Q
/-- x(lambda d=n: body) -/
theorem pe_lamcallD {T : List (Addr × Str)} {TT : (XK → Hp → VK → Prop) → Hp → VK → Prop} {x a : Str} {g c P : Addr} {k i0 : Nat} {pg : Arguments} {bg : List Stmt} {sg : Scope} {dV kV doc pm cdv ct oc : Value} {an od : Option Addr} {osl : Array (Option Value)} {Ng : List Str}
    {ar : Arg} {n : Int} {kd : Nat} {cp : Pos} {body : Expr} {scope : Scope} {t : XK → TE} {p lpos pos : Pos} (hg : Gl X x) (hm : X.mg x = some (.ref g)) (hk : PySem.W.keepIn X.K (.ref g) = true)
    (lk : X.K.lookup g = some ⟨oc, od, .func (PySem.W.fnOf x x pg bg sg dV kV doc pm an cdv ct), osl⟩) (hcg : PySem.W.codeIn X.K cdv x = true) (hb : L2.Binds X.K (PySem.W.fnOf x x pg bg sg dV kV doc pm an cdv ct) [a] []) (Sg : FnScope Ng [a] sg) (hNg : Ng[0]? = some a) (hva : Vis sg a)
    (hG : GivesN X Ng x sg g cdv bg a (X.env.qual ++ "<lambda>") TT)
    (TB : TabB X.base X.mg c P) (hcode : X.env.code = .ref c) (hmT : (P, X.env.qual ++ "<lambda>") ∈ T) (hu : ∀ p ∈ T, p.1 = P → p.2 = X.env.qual ++ "<lambda>") (hr : Room (k + 2) X.A) (L : LamD X.env.scope scope ar.arg) (hi0 : ∀ j : Nat, X.N[j]? = some ar.arg → j = i0)
    (hbody : ∀ (A : Around) (outer : List PySem.Env) (s : Shared) (H : Hp) (E : XK) (f c' : Addr), Room k (A.deeper (lamEnv X scope s.heap.objs.size f c')) → PE (lamN X A outer s H E scope f c') body (t E))
    (hdb : (x == ("__debug__" : Str)) = false) (hd : (a == ("__debug__" : Str)) = false) (hcd : (a == ("__classdict__" : Str)) = false) :
    PE X (.Call (.Name x p) [.Lambda ⟨[], [ar], none, [], [], none, [.Constant (.int n) kd cp]⟩ body scope lpos] [] pos) (tLamD i0 T P (X.env.qual ++ "<lambda>") TT t) := by
  refine ⟨fun pins s σ H Q I h => ?_⟩
  obtain ⟨hT, h⟩ := h
  refine wpAny_Call_Name_kw (L2.ld_glob I hg hm ?_ hdb)
  refine PySem.W.callWith_K (h₀ := X.base) I.ok.mod.kin hk ?_ (by rfl) (by rfl)
  show wpAny _ _ (spliced ((false, eval (.Lambda ⟨[], [ar], none, [], [], none, [.Constant (.int n) kd cp]⟩ body scope lpos) X.env) :: backTo pos (starEach [] X.env))) _ _ s
  refine Calls.spliced_cons (lam_makeD I TB hcode hmT hu hT (L.has I.ok) fun f c' T0 v doc pm' ctv H1 s' I1 eN T1 hf hfn hfr oT nT rT hco => Calls.spliced_nil ⟨I1.kIn, ?_⟩)
  have rc : codeAny (model X.prog X.w) X.A (.call (.ref g) ⟨[.ref f], []⟩) (L2.CR C8.CX0 X.stack X.prog X.w H1 s' Q C8.E0) s' := by
    refine run_ofS (N := Ng) (ps := [a]) (us := [.ref f]) (vs := [.ref f]) lk hcg Sg hr I1.env0 (hb s' [.ref f] I1.kIn rfl) (.cons rfl .nil) rfl fun hr' => ?_
    obtain ⟨t', ht', hq'⟩ := hG f c' s' H1 Q (fun E H' Q' => t E (σ.set i0 none) H' Q') (fun W pn xe E p1 p2 tk hW => pe_actD (CXg := C8.CX0) (Eg := C8.E0) (i := 0) I1 L hi0 hf hfn hfr oT nT rT tk hW hr' (fun A outer s H hr2 => hbody A outer s H E f c' hr2) hNg hva hd hcd) hco (h H1 eN T1)
    exact ⟨t', ht'.nox, hq'⟩
  refine wpAny_call (codeAny_mono rc fun r s2 hq => ?_)
  cases r with
  | error e => exact (show False from hq).elim
  | ok fl =>
    cases fl with
    | ret u => exact I1.after hq
    | next => exact False.elim hq
    | brk => exact False.elim hq
    | cont => exact False.elim hq
end
end Y

/-! part Y32 -/
set_option Elab.async false
set_option linter.all false
set_option maxRecDepth 100000
set_option maxHeartbeats 2000000
/-! Y32: a told call, of a lambda with a default. -/
namespace Y
open PySem PySem.Spec
open PyProof.Rows hiding St
open L2 LamX
section
variable {S : RS} {T : Tb} {Φ : Nat → List D → (D → Prop) → (Nat → Prop) → Prop} {dr : Nat → Nat}
variable {R : RT} {z : Pz} {X : Cx} {Ed : Nat → Prop} {e l r : Expr} {es : List Expr} {a b c : C} {pos p lpos : Pos}
/-- the default's name stands at i alone -/
def kDi (N : List Str) (d : Str) (i : Nat) : Bool := (List.range N.length).all fun j => decide (j = i) || !decide (N[j]? = some d)
theorem kDi_ok {N : List Str} {d : Str} {i : Nat} (h : kDi N d i = true) : ∀ j : Nat, N[j]? = some d → j = i := fun j e => by
  unfold kDi at h
  rw [List.all_eq_true] at h
  have hj : j < N.length := by
    rcases Nat.lt_or_ge j N.length with q | q
    · exact q
    · rw [List.getElem?_eq_none q] at e; cases e
  have q := h j (List.mem_range.mpr hj)
  simp only [Bool.or_eq_true, Bool.not_eq_true', decide_eq_true_eq, decide_eq_false_iff_not] at q
  exact q.resolve_right fun z => z e
theorem lam_fnD {scope sc : Scope} {dn : Str} (L : LamD sc scope dn) {Q : Prop} (x : Str) (h : (scope.names.lookup x == some .cell) = true) : Q :=
  absurd rfl (L.own _ (PySem.mem_of_lookup (eq_of_beq h))).2
theorem lam_sitD {scope : Scope} (s : Sit S T Φ dr R z X Ed) {dn : Str} (L : LamD X.env.scope scope dn) {sa : SA} {m : Nat} {F : Addr → Prop} {Ed' : Nat → Prop} {A : Around} {outer : List Env} {s0 : Shared} {H H2 : Hp} {E : XK} {f c' : Addr} (hr : Room (z.L - 2) (A.deeper (lamEnv X scope s0.heap.objs.size f c')))
    (hm : m ≤ BIG) (hE : ∀ k H', Ed' k → Ext sa H2 H' → StOk sa m H' → E (.ref (S.ex k)) none H') : Sit S T Φ dr ⟨S, sa, m, H2, F⟩ (lamZ z scope) (lamN X A outer s0 H E scope f c') Ed' where
  A := { hP := s.A.hP, hw := s.A.hw, hK := s.A.hK, hm := s.A.hm, hb := s.A.hb, hN := s.A.hN, nd := s.A.nd, hs := rfl, calm := rfl, hr := hr, hg := (fun z => (by cases z)), hf := (fun x h => lam_fnD L x h) }
  hS := rfl
  w := ⟨⟨_, L2N.takes_of rfl rfl rfl rfl, fun j σ H' q x st => hE j H' q x st⟩, hm⟩
  bs := s.bs
  fh := fun k hk => s.fh k (Nat.le_trans hk (Nat.sub_le _ _))
  lw := fun z => (by cases z)
theorem nd_toldd {body : Expr} {scope : Scope} (s : Sit S T Φ dr R z X Ed) (L : LawF S R X) (hL : 2 ≤ z.L) (hg : Gl X "_law_told") {ar : Arg} {cn : Int} {kd i0 : Nat} {cp : Pos} (hlam : LamD X.env.scope scope ar.arg) (hi0 : ∀ j : Nat, X.N[j]? = some ar.arg → j = i0)
    (ha : ∀ {R' X' Ed'}, Sit S T Φ dr R' (lamZ z scope) X' Ed' → PE X' body (TEx Φ exName dr R' (rlD R') Ed' a)) :
    PE X (.Call (.Name "_law_told" p) [.Lambda ⟨[], [ar], none, [], [], none, [.Constant (.int cn) kd cp]⟩ body scope lpos] [] pos) (TEx Φ exName dr R (rlN R) Ed (.toldd i0 a)) := by
  obtain ⟨g, pg, bg, sg, fd, hm, FD, hB, htold⟩ := L.told
  obtain ⟨oc, od, dV, kV, doc, pm, an, cdv, ct, osl, rfl, lk, hcd, _⟩ := FD.ex
  obtain ⟨c, P, TB, hcode, hT⟩ := L.tab
  have hsc : toldSc sg = true := by
    unfold toldB at htold
    split at htold
    · simp only [Bool.and_eq_true] at htold
      exact htold.2
    · cases htold
  have hsc2 : C8.scC toldNs ["call"] sg = true ∧ sg.names.lookup ("call" : Str) = some .local := by
    unfold toldSc at hsc
    simp only [Bool.and_eq_true] at hsc
    exact ⟨hsc.1.1.1.1.1.1.1.1.1.1, kE_ok hsc.1.1.1.1.1.1.1.1.1.2⟩
  have Sg := C8.fnScope_by hsc2.1
  have hr : Room ((z.L - 2) + 2) X.A := by rw [Nat.sub_add_cancel hL]; exact s.A.hr
  have hmT : (P, X.env.qual ++ "<lambda>") ∈ R.sa.T := by rw [hT]; exact List.mem_singleton_self _
  have main := pe_lamcallD (i0 := i0) (ar := ar) (n := cn) (kd := kd) (cp := cp) (pos := pos) (p := p) (lpos := lpos) (T := R.sa.T) (TT := TTd S) (t := tLx Φ dr S a) (k := z.L - 2) (body := body) (scope := scope) (Ng := toldNs) (a := "call") hg (by rw [s.A.hm]; exact hm) (by rw [s.A.hK]; exact FD.kp) (by rw [s.A.hK]; exact lk) (by rw [s.A.hK]; exact hcd) (by rw [s.A.hK]; exact hB) Sg rfl (.inl hsc2.2)
    (told_ok s.A.hK s.A.hm L.cls htold) TB hcode hmT (fun p hp _ => by rw [hT] at hp; rw [List.mem_singleton.mp hp]) hr hlam hi0 (fun A outer s0 H E f c' hr' => ⟨fun pins s1 σ H2 Q I h => ?_⟩) (by decide +kernel) (by decide +kernel) (by decide +kernel)
  · refine PEw main fun σ H Q ⟨n, F, ρ, Qd, E, hn, hw, k⟩ => ?_
    simp only [wp] at hw
    simp only [drw] at hn k
    refine ⟨E.st.2, fun H1 hl hT1 => ?_⟩
    have x1 := E.lst hl hT1 hmT
    have E1 := x1.env
    have hS := s.hS
    refine ⟨R.sa, n + drw dr a, F, _, Nat.le_trans hn s.w.big, fun j H' hj hx hst => ?_, n, wipeE (shE ρ) [i0], _, by have := wipe_both (E1.lam (n + drw dr a)) [i0]; rw [hS] at this; exact this, Nat.le_refl _, hw, fun d v F' H' q x r => ?_⟩
    · obtain ⟨hj3, hq⟩ := hj
      refine ⟨j, hj3, rfl, rfl, fun Tt H'' kp hn' hTt => ?_⟩
      have fr : ∀ b, F b → H' b ≠ none := fun b hb z => by
        cases q : H1 b with
        | none => exact E1.fr b hb q
        | some o =>
          rw [hx b o q (E1.fs b hb)] at z
          cases z
      have y : Nxt R (n + drw dr a) σ ρ F H1 F H' := E1.after ⟨hx, hst, fun _ h => h, fr, fun _ h => .inl h, E1.fs⟩
      have y2 := y.env.kp kp
      exact k _ _ F H'' hq ((x1.trans y).trans y2) (.inl ⟨.tup (SqT.of hTt) (.cons (.str _) .nil), fun _ z => nomatch z⟩)
    · split at q
      · rename_i pp
        refine ⟨by show 2 ≤ sizeLine; decide, fun Tt hTt => ?_⟩
        have y : Nxt R (n + drw dr a) σ ρ F H1 F' H' := E1.after ⟨x.ext, x.env.st, x.sub, x.env.fr, x.nw, x.env.fs⟩
        have r' : Rp R.K F' H' v pp := by
          have r : Rp S.K F' H' v pp := r
          show Rp R.S.K F' H' v pp
          rw [hS]; exact r
        have y2 := Nxt.upd y.env hTt (o := .tup [V.str "told", v])
        refine k _ _ F' _ q ((x1.trans y).trans y2) ?_
        have := y.env.newT hTt (RpAll.cons (.str "told") (.cons r' .nil))
        exact RN.back E (x1.trans y).ext y2.env.st y2.ext y.env.st this
      · exact q.elim
  · obtain ⟨sa, m, F, Ed', hm', hE, n, ρ, Qd, E0, hn, hw, kk⟩ := h
    exact (ha (lam_sitD (F := F) s hlam hr' hm' hE)).run pins s1 σ H2 Q I ⟨n, F, ρ, Qd, E0, hn, hw, kk⟩
end
end Y

/-! part Y10 -/
set_option Elab.async false
set_option linter.all false
set_option maxRecDepth 100000
set_option maxHeartbeats 1000000
/-! Y10: the checker of expressions, and that it is right. -/
namespace Y
open PySem PySem.Spec
open PyProof.Rows hiding St
open L2
def noSt (es : List Expr) : Bool := es.all fun e => !isStar e
/-- a call's parts: the name, the arguments -/
def callP : Expr → Option (Str × List Expr)
  | .Call (.Name x _) es [] _ => some (x, es)
  | _ => none
theorem callP_ok {e : Expr} {x : Str} {es : List Expr} (h : callP e = some (x, es)) : ∃ p pos, e = .Call (.Name x p) es [] pos := by
  unfold callP at h
  split at h
  · cases h; exact ⟨_, _, rfl⟩
  · cases h
def nme : Expr → Option Str
  | .Name x _ => some x
  | _ => none
theorem nme_ok {e : Expr} {x : Str} (h : nme e = some x) : ∃ p, e = .Name x p := by
  unfold nme at h
  split at h
  · cases h; exact ⟨_, rfl⟩
  · cases h
theorem intsP_eq : ∀ {ps : List PyData} {is : List Int}, intsP ps = some is → ps = is.map PyData.int
  | [], is, h => by cases h; rfl
  | .int i :: r, is, h => by
    have h : (intsP r).map (i :: ·) = some is := h
    obtain ⟨js, h1, rfl⟩ := Option.map_eq_some_iff.mp h
    rw [intsP_eq h1]
    rfl
theorem rpAll_ints {K : PySem.W.Frag} {F : Addr → Prop} {H : Hp} : ∀ is : List Int, RpAll K F H (is.map V.int) (is.map PyData.int)
  | [] => .nil
  | i :: r => .cons (.int i) (rpAll_ints r)
def kNm (e : Expr) (f : Str → Bool) : Bool := match nme e with | some x => f x | none => false
theorem kNm_ok {e : Expr} {f : Str → Bool} (h : kNm e f = true) : ∃ x p, e = .Name x p ∧ f x = true := by
  unfold kNm at h
  split at h
  · rename_i x q
    obtain ⟨p, rfl⟩ := nme_ok q
    exact ⟨x, p, rfl, h⟩
  · cases h
def kCall (e : Expr) (f : Str → Expr → List Expr → Bool) : Bool := match callP e with | some (x, e :: es) => noSt (e :: es) && f x e es | _ => false
theorem kCall_ok {e : Expr} {f : Str → Expr → List Expr → Bool} (h : kCall e f = true) : ∃ x e1 es p pos, e = .Call (.Name x p) (e1 :: es) [] pos ∧ noSt (e1 :: es) = true ∧ f x e1 es = true := by
  unfold kCall at h
  split at h
  · rename_i x e1 es q
    obtain ⟨p, pos, rfl⟩ := callP_ok q
    rw [Bool.and_eq_true] at h
    exact ⟨x, e1, es, p, pos, rfl, h.1, h.2⟩
  · cases h
def isNil0 : C → Bool
  | .nil => true
  | _ => false
theorem isNil0_ok {a : C} (h : isNil0 a = true) : a = .nil := by cases a <;> first | rfl | cases h
def kCall0 (e : Expr) (f : Str → Bool) : Bool := match callP e with | some (x, []) => f x | _ => false
theorem kCall0_ok {e : Expr} {f : Str → Bool} (h : kCall0 e f = true) : ∃ x p pos, e = .Call (.Name x p) [] [] pos ∧ f x = true := by
  unfold kCall0 at h
  split at h
  · rename_i x q
    obtain ⟨p, pos, rfl⟩ := callP_ok q
    exact ⟨x, p, pos, rfl, h⟩
  · cases h
def kGlob (T : Tb) (z : Pz) (g : Gk) (x : Str) : Bool := kGl z x && isTab T x g && !(x == ("__debug__" : Str))
def litOk : PyData → Const → Bool
  | .int i, .int j => i == j
  | .bool i, .bool j => i == j
  | .none, .none => true
  | .str i, .str j => i == j
  | _, _ => false
def kComp (A : Pz → Expr → Bool) (I : Bool → Pz → Expr → Expr → Bool) (G : Pz → Expr → Bool) (Ff : Pz → List Expr → Bool) (own : List (Str × Nat)) (tgC : C) (st : Bool) (z : Pz) (e : Expr) : Bool :=
  match e with
  | .ListComp elt [⟨tg, iter, ifs, 0⟩] scope _ =>
    let z' := { z with sc := relS scope z.sc, own := some scope, gd := false }
    I true z tg iter && blkC z.N z.sc scope own && G z' tg && Ff z' ifs && A z' elt && plainF iter && (gvs tgC).all (fun i => decide (i ∈ own.map (·.2))) && st
  | _ => false
def kComp2 (A : Pz → Expr → Bool) (I I1 : Bool → Pz → Expr → Expr → Bool) (G G1 : Pz → Expr → Bool) (Ff Ff1 : Pz → List Expr → Bool) (own : List (Str × Nat)) (vs1 : List Nat) (tgC tg1C : C) (st : Bool) (z : Pz) (e : Expr) : Bool :=
  match e with
  | .ListComp elt [⟨tg, iter, ifs, 0⟩, ⟨tg1, iter1, ifs1, 0⟩] scope _ =>
    let z' := { z with sc := relS scope z.sc, own := some scope, gd := false }
    I true z tg iter && blkC z.N z.sc scope own && G z' tg && Ff z' ifs && A z' elt && plainF iter && (gvs tgC).all (fun i => decide (i ∈ own.map (·.2))) && st && (I1 false z' tg1 iter1 && G1 z' tg1 && Ff1 z' ifs1 && plainF iter1 && (gvs tg1C).all (fun i => decide (i ∈ vs1)) && vs1.all (fun i => decide (i ∈ own.map (·.2))))
  | _ => false
def kFns (T : Tb) (z : Pz) : List Nat → List Expr → Bool
  | [], [] => true
  | k :: ks, e :: es => !isStar e && kNm e (kGlob T z (.fn k)) && kFns T z ks es
  | _, _ => false
def ck (T : Tb) (dr : Nat → Nat) : C → Ck
  | .var i => { mkE false .d (fun z e => kNm e (kVis z i)) with g := fun z e => kNm e (kLoc z i) }
  | .bvar i => mkE false .b (fun z e => kNm e (kVis z i))
  | .scr i => mkE false .n (fun z e => match e with | .Subscript a (.Slice none (some (.Constant (.int 63) _ _)) none _) _ => kNm a (kVis z i) | _ => false)
  | .glob p => mkE false .n (fun z e => match p with | .int i => kNm e (kGlob T z (.int i)) | .tuple ps => (match intsP ps with | some is => kNm e (kGlob T z (.tup is)) | none => false) | _ => false)
  | .fnv k => mkE false .d (fun z e => kNm e (kGlob T z (.fn k)))
  | .lit p =>
    let K := mkE false .n (fun _ e => match e with | .Constant c _ _ => litOk p c | _ => false)
    { K with f := fun z xs => match p, xs with | .bool true, [] => true | _, xs => K.f z xs }
  | .nil => { mkN with a := fun _ _ xs => xs.isEmpty, o := fun _ x => x.isNone, gs := fun _ xs => xs.isEmpty }
  | .cons a r =>
    let A := ck T dr a
    let B := ck T dr r
    { mkN with a := fun b z xs => (match xs with | e :: es => !isStar e && (b || notB A.r) && A.e z e && B.a b z es | _ => false),
               gs := fun z xs => (match xs with | e :: es => !isStar e && A.g z e && B.gs z es | _ => false) }
  | .star a r =>
    let A := ck T dr a
    let B := ck T dr r
    { mkN with a := fun _ z xs => match xs with | .Starred e _ :: es => A.e z e && B.a false z es | _ => false }
  | .tup as =>
    let A := ck T dr as
    { mkE false .n (fun z e => match e with | .Tuple es _ _ => A.a false z es | _ => false) with
      g := fun z e => match e with | .Tuple es _ _ => noSt es && decide (lenG as = es.length) && isGs as && A.gs z es | _ => false }
  | .lst as =>
    let A := ck T dr as
    { mkE true .n (fun z e => match e with | .List es _ => A.a false z es | _ => false) with
      i := fun _ z _ e => match e with | .List es _ => A.a false z es | _ => false }
  | .bin op a b =>
    let A := ck T dr a
    let B := ck T dr b
    mkE false .n (fun z e => match e with | .BinOp l o r _ => decide (o = opM op) && A.e z l && B.e z r | _ => false)
  | .neg a =>
    let A := ck T dr a
    mkE false .n (fun z e => match e with | .UnaryOp .USub l _ => notB A.r && A.e z l | _ => false)
  | .cmp op a b =>
    let A := ck T dr a
    let B := ck T dr b
    let F : Pz → Expr → Bool := fun z e => match e with | .Compare l [o] [r] _ => decide (o = op) && !(behindInMarks op r) && A.e z l && B.e z r | _ => false
    mkT (mkE false .n F) F
  | .chain o1 o2 a b c =>
    let A := ck T dr a
    let B := ck T dr b
    let G := ck T dr c
    let F : Pz → Expr → Bool := fun z e => match e with | .Compare l [p1, p2] [r, s] _ => decide (p1 = o1) && decide (p2 = o2) && !(lastMarks [o1, o2] [r, s]) && A.e z l && B.e z r && G.e z s | _ => false
    mkT (mkE false .n F) F
  | .and a b => mkBo .And (ck T dr a) (ck T dr b)
  | .or a b => mkBo .Or (ck T dr a) (ck T dr b)
  | .not a =>
    let A := ck T dr a
    mkT (mkE false .n (fun z e => match e with | .UnaryOp .Not l _ => notB A.r && A.e z l | _ => false)) (fun z e => match e with | .UnaryOp .Not l _ => A.t z l | _ => false)
  | .ite t a b =>
    let K := ck T dr t
    let A := ck T dr a
    let B := ck T dr b
    mkE false .d (fun z e => match e with | .IfExp et l r _ => K.t z et && notB A.r && notB B.r && A.e z l && B.e z r | _ => false)
  | .ix a i =>
    let A := ck T dr a
    let B := ck T dr i
    mkE false .d (fun z e => match e with | .Subscript l r _ => plainI r && A.e z l && B.e z r | _ => false)
  | .slc a lo hi =>
    let A := ck T dr a
    let B := ck T dr lo
    let G := ck T dr hi
    mkE false .n (fun z e => match e with | .Subscript l (.Slice x y none _) _ => A.e z l && B.o z x && G.o z y | _ => false)
  | .call f as =>
    let A := ck T dr as
    mkE false .d (fun z e => (kCall e fun x e1 es => kGlob T z (.fn f) x && decide (T.lv f ≤ z.L) && A.a false z (e1 :: es)) || (isNil0 as && kCall0 e fun x => kGlob T z (.fn f) x && decide (T.lv f ≤ z.L)))
  | .callv i fs as =>
    let A := ck T dr as
    mkE false .d (fun z e => kCall e fun x e1 es => kVis z i x && fs.all (fun k => decide (T.lv k ≤ z.L)) && A.a false z (e1 :: es))
  | .bi b as =>
    let A := ck T dr as
    mkE false .n (fun z e => kCall e fun x e1 es => decide (x = biX b) && kGl z x && isTab T x .abs && A.a true z (e1 :: es))
  | .rng as =>
    let A := ck T dr as
    { mkN with i := fun _ z _ e => kCall e fun x e1 es => decide (x = ("range" : Str)) && kGl z x && isTab T x .abs && (match es with | [] => decide (lenC as = some 1) | [_] => decide (lenC as = some 2) | [_, _] => decide (lenC as = some 3) | _ => false) && A.a false z (e1 :: es) }
  | .lrg a b =>
    let A := ck T dr a
    let B := ck T dr b
    mkE false .n (fun z e => match e with
      | .Call (.Name x _) [.Call (.Name y _) [e1, e2] [] _] [] _ => decide (x = ("list" : Str)) && decide (y = ("range" : Str)) && kGl z x && isTab T x .abs && kGl z y && isTab T y .abs && !isStar e1 && !isStar e2 && A.e z e1 && B.e z e2
      | _ => false)
  | .zip a b =>
    let A := ck T dr a
    let B := ck T dr b
    { mkN with i := fun bb z tg e => kCall e fun x e1 es => (match tg, es with
        | .Tuple _ _ _, [e2] => decide (x = ("zip" : Str)) && kGl z x && isTab T x .abs && (bb || (notB A.r && notB B.r)) && A.e z e1 && B.e z e2
        | _, _ => false) }
  | .enum a =>
    let A := ck T dr a
    { mkN with i := fun bb z tg e => kCall e fun x e1 es => (match tg, es with
        | .Tuple _ _ _, [] => decide (x = ("enumerate" : Str)) && kGl z x && isTab T x .abs && (bb || notB A.r) && A.e z e1
        | _, _ => false) }
  | .rev a =>
    let A := ck T dr a
    { mkN with i := fun bb z _ e => kCall e fun x e1 es => (match es with
        | [] => decide (x = ("reversed" : Str)) && kGl z x && isTab T x .abs && (bb || notB A.r) && A.e z e1
        | _ => false) }
  | .fns ks => { mkN with i := fun _ z _ e => match e with | .List es _ => kFns T z ks es && decide (ks.length ≤ 100) | _ => false }
  | .meth .index o as =>
    let A := ck T dr o
    let B := ck T dr as
    mkE false .n (fun z e => match e with
      | .Call (.Attribute (.Name y p) m ap) [e1] [] cp => decide (m = ("index" : Str)) && !isStar e1 && (ap.endLine == cp.line) && A.e z (.Name y p) && B.a true z [e1]
      | _ => false)
  | .comp own el tg src ifs =>
    let E := ck T dr el
    let G := ck T dr tg
    let I := ck T dr src
    let Fi := ck T dr ifs
    mkE false .n (fun z e => kComp (fun z x => notB E.r && E.e z x) I.i G.g Fi.f own tg (decide (drw dr ifs + drw dr el = 0) || cntC src) z e)
  | .comp2 own vs1 el tg src ifs tg1 src1 ifs1 =>
    let E := ck T dr el
    let G := ck T dr tg
    let I := ck T dr src
    let Fi := ck T dr ifs
    let G1 := ck T dr tg1
    let I1 := ck T dr src1
    let Fi1 := ck T dr ifs1
    mkE false .n (fun z e => kComp2 (fun z x => notB E.r && E.e z x) I.i I1.i G.g G1.g Fi.f Fi1.f own vs1 tg tg1 (decide (drw dr ifs + drw dr src1 + drw dr ifs1 + drw dr el = 0)) z e)
  | .told a =>
    let A := ck T dr a
    mkE false .n (fun z e => match e with
      | .Call (.Name x _) [.Lambda ⟨[], [], none, [], [], none, []⟩ body scope _] [] _ => z.gd && decide (2 ≤ z.L) && decide (x = "_law_told") && kGl z x && LamX.lamSB z.sc scope && notB A.r && A.e (lamZ z scope) body
      | _ => false)
  | .toldd i a =>
    let A := ck T dr a
    mkE false .n (fun z e => match e with
      | .Call (.Name x _) [.Lambda ⟨[], [ar], none, [], [], none, [.Constant (.int _) _ _]⟩ body scope _] [] _ => z.gd && decide (2 ≤ z.L) && decide (x = "_law_told") && kGl z x && lamDB z.sc scope ar.arg && kDi z.N ar.arg i && notB A.r && A.e (lamZ z scope) body
      | _ => false)
  | .same a b =>
    let A := ck T dr a
    let B := ck T dr b
    mkE false .n (fun z e => kCall e fun x e1 es => match es with | [e2] => z.gd && decide (1 ≤ z.L) && decide (x = "_law_same") && kGl z x && A.e z e1 && B.e z e2 | _ => false)
  | .repr a =>
    let A := ck T dr a
    mkE false .n (fun z e => kCall e fun x e1 es => match es with | [] => z.gd && decide (x = "repr") && kGl z x && A.e z e1 | _ => false)
  | _ => mkN
section
variable {S : RS} {T : Tb} {Φ : Nat → List D → (D → Prop) → (Nat → Prop) → Prop} {dr : Nat → Nat}
variable {R : RT} {z : Pz} {X : Cx} {Ed : Nat → Prop} {x l r : Expr} {xs : List Expr} {a b c : C} {pos : Pos}
theorem kVis_ok {i : Nat} {x : Str} (s : Sit S T Φ dr R z X Ed) (h : kVis z i x = true) : X.N[i]? = some x ∧ Vis X.env.scope x ∧ (x == ("__debug__" : Str)) = false ∧ (x == ("__classdict__" : Str)) = false := by
  unfold kVis at h
  simp only [Bool.and_eq_true, decide_eq_true_eq, Bool.not_eq_true'] at h
  obtain ⟨⟨⟨h1, h2⟩, h3⟩, h4⟩ := h
  refine ⟨by rw [s.A.hN]; exact h1, ?_, h3, h4⟩
  unfold Vis
  rw [s.A.hs]
  split at h2
  · rename_i e; exact .inl e
  · rename_i e; exact .inr (.inl e)
  · rename_i e; exact .inr (.inr e)
  · cases h2
theorem kLoc_ok {i : Nat} {x : Str} (s : Sit S T Φ dr R z X Ed) (h : kLoc z i x = true) : X.N[i]? = some x ∧ L2.Loc X.env.scope x ∧ (X.fn x = true ∨ X.env.scope.names.lookup x = some .local) := by
  unfold kLoc at h
  simp only [Bool.and_eq_true, decide_eq_true_eq] at h
  obtain ⟨h1, h2⟩ := h
  refine ⟨by rw [s.A.hN]; exact h1, ?_⟩
  unfold L2.Loc
  rw [s.A.hs]
  split at h2
  · rename_i e; exact ⟨.inl e, .inr e⟩
  · rename_i e; exact ⟨.inr e, .inl (s.A.hf x h2)⟩
  · cases h2
theorem kGl_ok {x : Str} (s : Sit S T Φ dr R z X Ed) (h : kGl z x = true) : Gl X x := by
  unfold kGl at h
  have h := of_decide_eq_true h
  show X.env.scope.names.lookup x = some .globalImplicit
  rw [s.A.hs]
  exact h
theorem kTab_ok {x : Str} {g : Gk} (s : Sit S T Φ dr R z X Ed) (h : isTab T x g = true) : GkOk S x g := s.bs.g x g (isTab_ok h)
theorem abs_ok {x : Str} (s : Sit S T Φ dr R z X Ed) (h : isTab T x .abs = true) : X.mg x = none := by
  rw [s.A.hm]; exact kTab_ok s h
theorem kGlob_ok {x : Str} {g : Gk} (s : Sit S T Φ dr R z X Ed) (h : kGlob T z g x = true) : Gl X x ∧ GkOk S x g ∧ (x == ("__debug__" : Str)) = false := by
  unfold kGlob at h
  simp only [Bool.and_eq_true, Bool.not_eq_true'] at h
  exact ⟨kGl_ok s h.1.1, kTab_ok s h.1.2, h.2⟩
theorem star_none {e : Expr} {es : List Expr} (h : noSt (e :: es) = true) : isStar e = false := by
  unfold noSt at h
  rw [List.all_cons, Bool.and_eq_true, Bool.not_eq_true'] at h
  exact h.1
theorem Snd.withG {k : Ck} {c : C} {g : Pz → Expr → Bool} (h : Snd S T Φ dr k c) (hg : ∀ {R z X Ed}, Sit S T Φ dr R z X Ed → ∀ {x}, g z x = true → PG X x (TGx R c)) : Snd S T Φ dr { k with g := g } c :=
  { e := h.e, t := h.t, bE := h.bE, bT := h.bT, a := h.a, o := h.o, i := h.i, g := hg, gs := h.gs, f := h.f }
theorem Snd.withI {k : Ck} {c : C} {i : Bool → Pz → Expr → Expr → Bool} (h : Snd S T Φ dr k c) (hi : ∀ {R z X Ed}, Sit S T Φ dr R z X Ed → ∀ {b tg x}, i b z tg x = true → PI X tg x (TIx Φ exName dr R b Ed c)) : Snd S T Φ dr { k with i := i } c :=
  { e := h.e, t := h.t, bE := h.bE, bT := h.bT, a := h.a, o := h.o, i := hi, g := h.g, gs := h.gs, f := h.f }
theorem Snd.withF {k : Ck} {c : C} {f : Pz → List Expr → Bool} (h : Snd S T Φ dr k c) (hf : ∀ {R z X Ed}, Sit S T Φ dr R z X Ed → ∀ {xs}, f z xs = true → PTs X xs (TTx Φ exName dr R Ed c)) : Snd S T Φ dr { k with f := f } c :=
  { e := h.e, t := h.t, bE := h.bE, bT := h.bT, a := h.a, o := h.o, i := h.i, g := h.g, gs := h.gs, f := hf }
theorem sub_blk {scope : Scope} (s : Sit S T Φ dr R z X Ed) (s1 : Shared) (H : Hp) (C : Addr) (cl : List (Str × Addr)) (fp : List Addr) :
    Sit S T Φ dr R { z with sc := relS scope z.sc, own := some scope, gd := false } (X.blk s1 H scope (compEnvC scope cl C X.env) fp) noE where
  A := { hP := s.A.hP, hw := s.A.hw, hK := s.A.hK, hm := s.A.hm, hb := s.A.hb, hN := s.A.hN, nd := s.A.nd, hs := by rw [← s.A.hs]; rfl, hf := fun x h => h, calm := s.A.calm, hr := s.A.hr, hg := fun z => (by cases z) }
  hS := s.hS
  w := ⟨⟨fun _ _ _ _ => False, fun u s' ⟨_, _, _, _, _, _, _, _, _, _, _, _, _, _, _, _, w⟩ => w, fun k _ _ h => h.elim⟩, s.w.big⟩
  bs := s.bs
  fh := s.fh
  lw := fun z => (by cases z)
theorem tax_b (h : PA X xs (TAx Φ exName dr R (rlD R) Ed c)) : PA X xs (TAx Φ exName dr R (rlB R) Ed c) := PAw h fun σ H Q ⟨n, F, ρ, Qd, E, hn, hw, k⟩ =>
  ⟨n, F, ρ, Qd, E, hn, hw, fun ds vs F' H' q x r l => k ds vs F' H' q x (r.imp fun _ _ h => .inl h) l⟩

theorem kComp_ok {A : Ck} {E I G Fi : Ck} {own : List (Str × Nat)} {el tgC src ifs : C} {e : Expr} (hE : Snd S T Φ dr E el) (hI : Snd S T Φ dr I src) (hG : Snd S T Φ dr G tgC) (hF : Snd S T Φ dr Fi ifs) (s : Sit S T Φ dr R z X Ed)
    (h : kComp (fun z x => notB E.r && E.e z x) I.i G.g Fi.f own tgC (decide (drw dr ifs + drw dr el = 0) || cntC src) z e = true) :
    ∃ elt tg iter fs scope p, e = .ListComp elt [⟨tg, iter, fs, 0⟩] scope p ∧ PI X tg iter (TIx Φ exName dr R true Ed src) ∧ BlkOk X.N X.env.scope scope own ∧
      (∀ (s : Shared) (H : Hp) (C : Addr) (cl : List (Str × Addr)) (fp : List Addr), PG (X.blk s H scope (compEnvC scope cl C X.env) fp) tg (TGx R tgC)) ∧
      (∀ (s : Shared) (H : Hp) (C : Addr) (cl : List (Str × Addr)) (fp : List Addr), PTs (X.blk s H scope (compEnvC scope cl C X.env) fp) fs (TTx Φ exName dr R noE ifs)) ∧
      (∀ (s : Shared) (H : Hp) (C : Addr) (cl : List (Str × Addr)) (fp : List Addr), PE (X.blk s H scope (compEnvC scope cl C X.env) fp) elt (TEx Φ exName dr R (rlD R) noE el)) ∧
      (∀ x, foldedSetIterable iter X.env x = pure x) ∧ (∀ i ∈ gvs tgC, i ∈ own.map (·.2)) ∧ (drw dr ifs + drw dr el = 0 ∨ cntC src = true) := by
  unfold kComp at h
  split at h
  · rename_i elt tg iter fs scope p
    simp only [Bool.and_eq_true, List.all_eq_true, decide_eq_true_eq, Bool.or_eq_true] at h
    obtain ⟨⟨⟨⟨⟨⟨⟨h1, h2⟩, h3⟩, h4⟩, h5, h6⟩, h7⟩, h8⟩, h9⟩ := h
    refine ⟨elt, tg, iter, fs, scope, p, rfl, hI.i s h1, ?_, fun s1 H C cl fp => hG.g (sub_blk s s1 H C cl fp) h3, fun s1 H C cl fp => hF.f (sub_blk s s1 H C cl fp) h4,
      fun s1 H C cl fp => toD (hE.e (sub_blk s s1 H C cl fp) h6) h5, plainF_ok h7, h8, h9⟩
    rw [s.A.hN, s.A.hs]
    exact blkOk_by h2
  · cases h
theorem kComp2_ok {E I G Fi I1 G1 Fi1 : Ck} {own : List (Str × Nat)} {vs1 : List Nat} {el tgC src ifs tg1C src1 ifs1 : C} {e : Expr} (hE : Snd S T Φ dr E el) (hI : Snd S T Φ dr I src) (hG : Snd S T Φ dr G tgC) (hF : Snd S T Φ dr Fi ifs)
    (hI1 : Snd S T Φ dr I1 src1) (hG1 : Snd S T Φ dr G1 tg1C) (hF1 : Snd S T Φ dr Fi1 ifs1) (s : Sit S T Φ dr R z X Ed)
    (h : kComp2 (fun z x => notB E.r && E.e z x) I.i I1.i G.g G1.g Fi.f Fi1.f own vs1 tgC tg1C (decide (drw dr ifs + drw dr src1 + drw dr ifs1 + drw dr el = 0)) z e = true) :
    ∃ elt tg iter fs tg1 iter1 fs1 scope p, e = .ListComp elt [⟨tg, iter, fs, 0⟩, ⟨tg1, iter1, fs1, 0⟩] scope p ∧ PI X tg iter (TIx Φ exName dr R true Ed src) ∧ BlkOk X.N X.env.scope scope own ∧ (∀ i ∈ vs1, i ∈ own.map (·.2)) ∧
      (∀ (s : Shared) (H : Hp) (C : Addr) (cl : List (Str × Addr)) (fp : List Addr), PG (X.blk s H scope (compEnvC scope cl C X.env) fp) tg (TGx R tgC)) ∧
      (∀ (s : Shared) (H : Hp) (C : Addr) (cl : List (Str × Addr)) (fp : List Addr), PTs (X.blk s H scope (compEnvC scope cl C X.env) fp) fs (TTx Φ exName dr R noE ifs)) ∧
      (∀ (s : Shared) (H : Hp) (C : Addr) (cl : List (Str × Addr)) (fp : List Addr), PI (X.blk s H scope (compEnvC scope cl C X.env) fp) tg1 iter1 (TIx Φ exName dr R false noE src1)) ∧
      (∀ (s : Shared) (H : Hp) (C : Addr) (cl : List (Str × Addr)) (fp : List Addr), PG (X.blk s H scope (compEnvC scope cl C X.env) fp) tg1 (TGx R tg1C)) ∧
      (∀ (s : Shared) (H : Hp) (C : Addr) (cl : List (Str × Addr)) (fp : List Addr), PTs (X.blk s H scope (compEnvC scope cl C X.env) fp) fs1 (TTx Φ exName dr R noE ifs1)) ∧
      (∀ (s : Shared) (H : Hp) (C : Addr) (cl : List (Str × Addr)) (fp : List Addr), PE (X.blk s H scope (compEnvC scope cl C X.env) fp) elt (TEx Φ exName dr R (rlD R) noE el)) ∧
      (∀ x, foldedSetIterable iter X.env x = pure x) ∧ (∀ env x, foldedSetIterable iter1 env x = pure x) ∧ (∀ i ∈ gvs tgC, i ∈ own.map (·.2)) ∧ (∀ i ∈ gvs tg1C, i ∈ vs1) ∧ drw dr ifs + drw dr src1 + drw dr ifs1 + drw dr el = 0 := by
  unfold kComp2 at h
  split at h
  · rename_i elt tg iter fs tg1 iter1 fs1 scope p
    simp only [Bool.and_eq_true, List.all_eq_true, decide_eq_true_eq] at h
    obtain ⟨⟨⟨⟨⟨⟨⟨⟨h1, h2⟩, h3⟩, h4⟩, h5, h6⟩, h7⟩, h8⟩, h9⟩, ⟨⟨⟨⟨⟨g1, g2⟩, g3⟩, g4⟩, g5⟩, g6⟩⟩ := h
    refine ⟨elt, tg, iter, fs, tg1, iter1, fs1, scope, p, rfl, hI.i s h1, ?_, g6, fun s1 H C cl fp => hG.g (sub_blk s s1 H C cl fp) h3, fun s1 H C cl fp => hF.f (sub_blk s s1 H C cl fp) h4,
      fun s1 H C cl fp => hI1.i (sub_blk s s1 H C cl fp) g1, fun s1 H C cl fp => hG1.g (sub_blk s s1 H C cl fp) g2, fun s1 H C cl fp => hF1.f (sub_blk s s1 H C cl fp) g3,
      fun s1 H C cl fp => toD (hE.e (sub_blk s s1 H C cl fp) h6) h5, plainF_ok h7, fun env x => plainF_ok g4 x, h8, g5, h9⟩
    rw [s.A.hN, s.A.hs]
    exact blkOk_by h2
  · cases h
theorem kFns_ok (s : Sit S T Φ dr R z X Ed) : ∀ {ks : List Nat} {es : List Expr}, kFns T z ks es = true → PA X es (TAx Φ exName dr R (rlD R) Ed (fnsC ks))
  | [], [], _ => nd_anil
  | k :: ks, e :: es, h => by
    have h : (!isStar e && kNm e (kGlob T z (.fn k)) && kFns T z ks es) = true := h
    simp only [Bool.and_eq_true, Bool.not_eq_true'] at h
    obtain ⟨y, p, rfl, q⟩ := kNm_ok h.1.2
    obtain ⟨h1, h2, h4⟩ := kGlob_ok s q
    refine nd_acons (rl := rlD R) rlD_ok h.1.1 (nd_fnv h1 ?_ h4) (kFns_ok s h.2)
    rw [s.A.hm]
    have h2 : S.mg y = some (.ref (S.fa k)) := h2
    rw [h2, ← s.hS]
  | [], _ :: _, h => by cases h
  | _ :: _, [], h => by cases h
theorem snd (c : C) : Snd S T Φ dr (ck T dr c) c := by
  induction c with
  | var i =>
    refine Snd.withG (mkE_snd (.inr rfl) fun s x q => ?_) fun s x q => ?_
    · obtain ⟨y, p, rfl, q⟩ := kNm_ok q
      obtain ⟨h1, h2, h3, h4⟩ := kVis_ok s q
      exact nd_var h1 h2 h3 h4
    · obtain ⟨y, p, rfl, q⟩ := kNm_ok q
      obtain ⟨h1, h2, h3⟩ := kLoc_ok s q
      exact nd_gname s.A.nd h1 h2 h3
  | bvar i =>
    refine mkE_snd (.inr rfl) fun s x q => ?_
    obtain ⟨y, p, rfl, q⟩ := kNm_ok q
    obtain ⟨h1, h2, h3, h4⟩ := kVis_ok s q
    exact nd_bvar h1 h2 h3 h4
  | scr i =>
    refine mkE_snd (.inr rfl) fun s x q => ?_
    split at q
    · obtain ⟨y, p, rfl, q⟩ := kNm_ok q
      obtain ⟨h1, h2, h3, h4⟩ := kVis_ok s q
      exact nd_scr s.hK h1 h2 h3 h4
    · cases q
  | glob p =>
    refine mkE_snd (.inr rfl) fun s x q => ?_
    split at q
    · rename_i i
      obtain ⟨y, p, rfl, q⟩ := kNm_ok q
      obtain ⟨h1, ⟨u, h2, h3⟩, h4⟩ := kGlob_ok s q
      exact nd_const (pe_glob (v := .int i) h1 (by rw [s.A.hm]; exact h2) h3 h4) (fun _ _ => .int _) rfl (fun _ _ _ => rfl) (fun _ z => by cases z)
    · split at q
      · rename_i ps is hi
        obtain ⟨y, p, rfl, q⟩ := kNm_ok q
        obtain ⟨h1, ⟨a, h2, h3⟩, h4⟩ := kGlob_ok s q
        obtain rfl := intsP_eq hi
        exact nd_const (pe_glob (v := .ref a) h1 (by rw [s.A.hm]; exact h2) rfl h4) (fun F H => .tup (by rw [← s.hK, s.A.hK]; exact h3 H) (rpAll_ints is)) rfl (fun _ _ _ => rfl) (fun _ z => by cases z)
      · cases q
    · cases q
  | fnv k =>
    refine mkE_snd (.inr rfl) fun s x q => ?_
    obtain ⟨y, p, rfl, q⟩ := kNm_ok q
    obtain ⟨h1, h2, h4⟩ := kGlob_ok s q
    refine nd_fnv h1 ?_ h4
    rw [s.A.hm]
    have h2 : S.mg y = some (.ref (S.fa k)) := h2
    rw [h2, ← s.hS]
  | lit p =>
    have H : Snd S T Φ dr (mkE false .n (fun _ e => match e with | .Constant c _ _ => litOk p c | _ => false)) (.lit p) := by
      refine mkE_snd (.inr rfl) fun s x q => ?_
      split at q
      · rename_i c j pos
        unfold litOk at q
        split at q
        · cases eq_of_beq q
          exact nd_const pe_int (fun _ _ => .int _) rfl (fun _ _ _ => rfl) (fun _ z => by cases z)
        · cases eq_of_beq q
          exact nd_const pe_bl (fun _ _ => .bl _) rfl (fun _ _ _ => rfl) (fun _ z => by cases z)
        · exact nd_const pe_non (fun _ _ => .non) rfl (fun _ _ _ => rfl) (fun _ z => by cases z)
        · cases eq_of_beq q
          exact nd_const pe_str (fun _ _ => .str _) rfl (fun _ _ _ => rfl) (fun _ z => by cases z)
        · cases q
      · cases q
    refine Snd.withF H fun {R z X Ed} s xs q => ?_
    split at q
    · exact PTsw pts_nil fun σ H Q ⟨n, F, ρ, Qd, E, hn, hw, k⟩ => by
        obtain ⟨b, e, q⟩ := k _ F H hw (.refl (by simpa [drw] using E))
        cases e
        exact q
    · exact H.f s q
  | nil =>
    refine { (mkN_snd : Snd S T Φ dr mkN C.nil) with a := fun s b xs q => ?_, o := fun s x q => ?_, gs := fun s xs q => ?_ }
    · cases xs with
      | nil => exact nd_anil
      | cons _ _ => cases q
    · cases x with
      | none => exact nd_part0
      | some _ => cases q
    · cases xs with
      | nil => exact nd_gsnil
      | cons _ _ => cases q
  | cons a r ha hr =>
    refine { (mkN_snd : Snd S T Φ dr mkN (C.cons a r)) with a := ?_, gs := ?_ }
    · intro R z X Ed s b xs q
      match xs, q with
      | [], q => cases q
      | e :: es, q =>
        have q : (!isStar e && (b || notB (ck T dr a).r) && (ck T dr a).e z e && (ck T dr r).a b z es) = true := q
        simp only [Bool.and_eq_true, Bool.not_eq_true', Bool.or_eq_true] at q
        obtain ⟨⟨⟨q1, q2⟩, q3⟩, q4⟩ := q
        cases b with
        | true => exact nd_acons (rl := rlB R) rlB_ok q1 (toB (ha.e s q3)) (hr.a s q4)
        | false =>
          rcases q2 with q2 | q2
          · cases q2
          · exact nd_acons (rl := rlD R) rlD_ok q1 (toD (ha.e s q3) q2) (hr.a s q4)
    · intro R z X Ed s xs q
      match xs, q with
      | [], q => cases q
      | e :: es, q =>
        have q : (!isStar e && (ck T dr a).g z e && (ck T dr r).gs z es) = true := q
        simp only [Bool.and_eq_true, Bool.not_eq_true'] at q
        exact nd_gscons q.1.1 (ha.g s q.1.2) (hr.gs s q.2)
  | star a r ha hr =>
    refine { (mkN_snd : Snd S T Φ dr mkN (C.star a r)) with a := ?_ }
    intro R z X Ed s b xs q
    simp only [ck] at q
    split at q
    · rw [Bool.and_eq_true] at q
      cases b with
      | true => exact tax_b (nd_astar s.hK (toB (ha.e s q.1)) (hr.a s q.2))
      | false => exact nd_astar s.hK (toB (ha.e s q.1)) (hr.a s q.2)
    · cases q
  | tup as ha =>
    refine Snd.withG (mkE_snd (.inr rfl) fun s x q => ?_) fun s x q => ?_
    · split at q
      · exact nd_tup (ha.a s q)
      · cases q
    · split at q
      · simp only [Bool.and_eq_true, decide_eq_true_eq] at q
        exact nd_gtup s.hK s.A.calm q.1.1.1 q.1.1.2 q.1.2 (ha.gs s q.2)
      · cases q
  | lst as ha =>
    refine Snd.withI (mkE_snd (.inl rfl) fun s x q => ?_) fun s b tg x q => ?_
    · split at q
      · exact nd_lst (ha.a s q)
      · cases q
    · split at q
      · exact nd_ilst s.hK (ha.a s q)
      · cases q
  | bin op a b ha hb =>
    refine mkE_snd (.inr rfl) fun s x q => ?_
    split at q
    · simp only [Bool.and_eq_true, decide_eq_true_eq] at q
      rw [q.1.1]
      exact nd_bin s.hK (toB (ha.e s q.1.2)) (toB (hb.e s q.2))
    · cases q
  | neg a ha =>
    refine mkE_snd (.inr rfl) fun s x q => ?_
    split at q
    · simp only [Bool.and_eq_true] at q
      exact nd_neg (toD (ha.e s q.2) q.1)
    · cases q
  | cmp op a b ha hb =>
    have F : ∀ {R z X Ed}, Sit S T Φ dr R z X Ed → ∀ {x : Expr}, (match x with | .Compare l [o] [r] _ => decide (o = op) && !(behindInMarks op r) && (ck T dr a).e z l && (ck T dr b).e z r | _ => false) = true →
        PE X x (TEx Φ exName dr R (rlN R) Ed (.cmp op a b)) ∧ PT X x (TTx Φ exName dr R Ed (.cmp op a b)) := by
      intro R z X Ed s x q
      split at q
      · simp only [Bool.and_eq_true, decide_eq_true_eq, Bool.not_eq_true'] at q
        obtain ⟨⟨⟨q1, q2⟩, q3⟩, q4⟩ := q
        subst q1
        exact ⟨nd_cmp s.hK s.A.hr (toB (ha.e s q3)) (toB (hb.e s q4)) q2, nd_cmpT s.hK s.A.hr (toB (ha.e s q3)) (toB (hb.e s q4)) q2⟩
      · cases q
    exact mkT_snd (mkE_snd (.inr rfl) fun s x q => (F s q).1) fun s x q => (F s q).2
  | chain o1 o2 a b c ha hb hc =>
    have F : ∀ {R z X Ed}, Sit S T Φ dr R z X Ed → ∀ {x : Expr}, (match x with | .Compare l [p1, p2] [r, s] _ => decide (p1 = o1) && decide (p2 = o2) && !(lastMarks [o1, o2] [r, s]) && (ck T dr a).e z l && (ck T dr b).e z r && (ck T dr c).e z s | _ => false) = true →
        PE X x (TEx Φ exName dr R (rlN R) Ed (.chain o1 o2 a b c)) ∧ PT X x (TTx Φ exName dr R Ed (.chain o1 o2 a b c)) := by
      intro R z X Ed s x q
      split at q
      · simp only [Bool.and_eq_true, decide_eq_true_eq, Bool.not_eq_true'] at q
        obtain ⟨⟨⟨⟨⟨q1, q2⟩, q3⟩, q4⟩, q5⟩, q6⟩ := q
        subst q1 q2
        exact ⟨nd_chain s.hK s.A.hr (toB (ha.e s q4)) (toB (hb.e s q5)) (toB (hc.e s q6)) q3, nd_chainT s.hK s.A.hr (toB (ha.e s q4)) (toB (hb.e s q5)) (toB (hc.e s q6)) q3⟩
      · cases q
    exact mkT_snd (mkE_snd (.inr rfl) fun s x q => (F s q).1) fun s x q => (F s q).2
  | and a b ha hb => exact mkBo_snd (fun {R z X Ed} s {l r rest pos} q1 q2 q3 => nd_and (toD (ha.e s q2) q1) (hb.bE s q3)) (fun {R z X Ed} s {l r rest pos} q1 q2 => nd_andT (ha.t s q1) (hb.bT s q2))
  | or a b ha hb => exact mkBo_snd (fun {R z X Ed} s {l r rest pos} q1 q2 q3 => nd_or (toD (ha.e s q2) q1) (hb.bE s q3)) (fun {R z X Ed} s {l r rest pos} q1 q2 => nd_orT (ha.t s q1) (hb.bT s q2))
  | not a ha =>
    refine mkT_snd (mkE_snd (.inr rfl) fun s x q => ?_) fun s x q => ?_
    · split at q
      · rw [Bool.and_eq_true] at q
        exact nd_not (toD (ha.e s q.2) q.1)
      · cases q
    · split at q
      · exact nd_notT (ha.t s q)
      · cases q
  | ite t a b ht ha hb =>
    refine mkE_snd (.inr rfl) fun s x q => ?_
    split at q
    · simp only [Bool.and_eq_true] at q
      obtain ⟨⟨⟨⟨q1, q2⟩, q3⟩, q4⟩, q5⟩ := q
      exact nd_ite (ht.t s q1) (toD (ha.e s q4) q2) (toD (hb.e s q5) q3)
    · cases q
  | ix a i ha hi =>
    refine mkE_snd (.inr rfl) fun s x q => ?_
    split at q
    · simp only [Bool.and_eq_true] at q
      exact nd_ix s.hK (toB (ha.e s q.1.2)) (toB (hi.e s q.2)) (plainI_ok q.1.1)
    · cases q
  | slc a lo hi ha hl hh =>
    refine mkE_snd (.inr rfl) fun s x q => ?_
    split at q
    · simp only [Bool.and_eq_true] at q
      exact nd_slc s.hK (toB (ha.e s q.1.1)) (hl.o s q.1.2) (hh.o s q.2)
    · cases q
  | call f as ha =>
    refine mkE_snd (.inr rfl) fun s x q => ?_
    replace q := Bool.or_eq_true_iff.mp q
    rcases q with q | q
    · obtain ⟨y, e1, es, p, pos, rfl, hs, q⟩ := kCall_ok q
      simp only [Bool.and_eq_true, decide_eq_true_eq] at q
      obtain ⟨h1, h2, h3⟩ := kGlob_ok s q.1.1
      exact nd_call s.A s.hS s.w (s.fh f q.1.2) q.1.2 h1 h2 h3 hs (ha.a s q.2)
    · rw [Bool.and_eq_true] at q
      have e1 := isNil0_ok q.1
      subst e1
      obtain ⟨y, p, pos, rfl, k⟩ := kCall0_ok q.2
      have k1 := Bool.and_eq_true_iff.mp k
      have k2 := of_decide_eq_true k1.2
      obtain ⟨h1, h2, h3⟩ := kGlob_ok s k1.1
      exact nd_call0 s.A s.hS s.w (s.fh f k2) k2 h1 h2 h3
  | callv i fs as ha =>
    refine mkE_snd (.inr rfl) fun s x q => ?_
    obtain ⟨y, e1, es, p, pos, rfl, hs, q⟩ := kCall_ok q
    simp only [Bool.and_eq_true, decide_eq_true_eq, List.all_eq_true] at q
    obtain ⟨h1, h2, h3, h4⟩ := kVis_ok s q.1.1
    exact nd_callv s.A s.hS s.w (fun k hk => ⟨s.fh k (q.1.2 k hk), q.1.2 k hk⟩) h1 h2 h3 h4 hs (ha.a s q.2)
  | bi b as ha =>
    refine mkE_snd (.inr rfl) fun s x q => ?_
    obtain ⟨y, e1, es, p, pos, rfl, hs, q⟩ := kCall_ok q
    simp only [Bool.and_eq_true, decide_eq_true_eq] at q
    obtain ⟨⟨⟨q1, q2⟩, q3⟩, q6⟩ := q
    exact nd_bi s.A.calm s.hK q1 (kGl_ok s q2) (abs_ok s q3) hs (ha.a s q6)
  | lrg a b ha hb =>
    refine mkE_snd (.inr rfl) fun s x q => ?_
    split at q
    · simp only [Bool.and_eq_true, decide_eq_true_eq, Bool.not_eq_true'] at q
      obtain ⟨⟨⟨⟨⟨⟨⟨⟨⟨q1, q2⟩, q3⟩, q4⟩, q5⟩, q6⟩, q7⟩, q8⟩, q9⟩, q10⟩ := q
      subst q1 q2
      exact nd_lrg s.hK s.A.calm (kGl_ok s q3) (abs_ok s q4) (kGl_ok s q5) (abs_ok s q6) q7 q8 (toB (ha.e s q9)) (toB (hb.e s q10))
    · cases q
  | rng as ha =>
    refine { (mkN_snd : Snd S T Φ dr mkN (C.rng as)) with i := ?_ }
    intro R z X Ed s b tg x q
    obtain ⟨y, e1, es, p, pos, rfl, hs, q⟩ := kCall_ok q
    simp only [Bool.and_eq_true, decide_eq_true_eq] at q
    obtain ⟨⟨⟨⟨q1, q2⟩, q3⟩, q4⟩, q5⟩ := q
    subst q1
    have hs1 := star_none hs
    match es, hs, q4, q5 with
    | [], hs, q4, q5 => exact nd_irng1 (kGl_ok s q2) (abs_ok s q3) hs1 (ha.a s q5) (of_decide_eq_true q4)
    | [e2], hs, q4, q5 =>
      have hs2 : isStar e2 = false := by
        unfold noSt at hs
        simp only [List.all_cons, Bool.and_eq_true, Bool.not_eq_true'] at hs
        exact hs.2.1
      exact nd_irng2 (kGl_ok s q2) (abs_ok s q3) hs1 hs2 (ha.a s q5) (of_decide_eq_true q4)
    | [e2, e3], hs, q4, q5 =>
      have hs23 : isStar e2 = false ∧ isStar e3 = false := by
        unfold noSt at hs
        simp only [List.all_cons, Bool.and_eq_true, Bool.not_eq_true'] at hs
        exact ⟨hs.2.1, hs.2.2.1⟩
      exact nd_irng3 (kGl_ok s q2) (abs_ok s q3) hs1 hs23.1 hs23.2 (ha.a s q5) (of_decide_eq_true q4)
    | _ :: _ :: _ :: _, _, q4, _ => cases q4
  | zip a b ha hb =>
    refine { (mkN_snd : Snd S T Φ dr mkN (C.zip a b)) with i := ?_ }
    intro R z X Ed s bb tg x q
    obtain ⟨y, e1, es, p, pos, rfl, hs, q⟩ := kCall_ok q
    split at q
    · rename_i e2 _
      simp only [Bool.and_eq_true, decide_eq_true_eq, Bool.or_eq_true] at q
      obtain ⟨⟨⟨⟨⟨q1, q2⟩, q3⟩, q4⟩, q5⟩, q6⟩ := q
      subst q1
      have hs1 := star_none hs
      have hs2 : isStar e2 = false := by
        unfold noSt at hs
        simp only [List.all_cons, Bool.and_eq_true, Bool.not_eq_true'] at hs
        exact hs.2.1
      cases bb with
      | true => exact nd_izip s.hK (kGl_ok s q2) (abs_ok s q3) hs1 hs2 (rl := rlB R) rlB_ok (.inr ⟨rfl, rfl⟩) (toB (ha.e s q5)) (toB (hb.e s q6))
      | false =>
        rcases q4 with q4 | q4
        · cases q4
        · exact nd_izip s.hK (kGl_ok s q2) (abs_ok s q3) hs1 hs2 (rl := rlD R) rlD_ok (.inl ⟨rfl, rfl⟩) (toD (ha.e s q5) q4.1) (toD (hb.e s q6) q4.2)
    · cases q
  | enum a ha =>
    refine { (mkN_snd : Snd S T Φ dr mkN (C.enum a)) with i := ?_ }
    intro R z X Ed s bb tg x q
    obtain ⟨y, e1, es, p, pos, rfl, hs, q⟩ := kCall_ok q
    split at q
    · simp only [Bool.and_eq_true, decide_eq_true_eq, Bool.or_eq_true] at q
      obtain ⟨⟨⟨⟨q1, q2⟩, q3⟩, q4⟩, q5⟩ := q
      subst q1
      have hs1 := star_none hs
      cases bb with
      | true => exact nd_ienum s.hK (kGl_ok s q2) (abs_ok s q3) hs1 (rl := rlB R) (.inr ⟨rfl, rfl⟩) (toB (ha.e s q5))
      | false =>
        rcases q4 with q4 | q4
        · cases q4
        · exact nd_ienum s.hK (kGl_ok s q2) (abs_ok s q3) hs1 (rl := rlD R) (.inl ⟨rfl, rfl⟩) (toD (ha.e s q5) q4)
    · cases q
  | rev a ha =>
    refine { (mkN_snd : Snd S T Φ dr mkN (C.rev a)) with i := ?_ }
    intro R z X Ed s bb tg x q
    obtain ⟨y, e1, es, p, pos, rfl, hs, q⟩ := kCall_ok q
    split at q
    · simp only [Bool.and_eq_true, decide_eq_true_eq, Bool.or_eq_true] at q
      obtain ⟨⟨⟨⟨q1, q2⟩, q3⟩, q4⟩, q5⟩ := q
      subst q1
      have hs1 := star_none hs
      cases bb with
      | true => exact nd_irev s.hK (kGl_ok s q2) (abs_ok s q3) hs1 (rl := rlB R) (.inr ⟨rfl, rfl⟩) (toB (ha.e s q5))
      | false =>
        rcases q4 with q4 | q4
        · cases q4
        · exact nd_irev s.hK (kGl_ok s q2) (abs_ok s q3) hs1 (rl := rlD R) (.inl ⟨rfl, rfl⟩) (toD (ha.e s q5) q4)
    · cases q
  | fns ks =>
    refine { (mkN_snd : Snd S T Φ dr mkN (C.fns ks)) with i := ?_ }
    intro R z X Ed s bb tg x q
    simp only [ck] at q
    split at q
    · rw [Bool.and_eq_true, decide_eq_true_eq] at q
      exact nd_ifns s.hK (kFns_ok s q.1) q.2
    · cases q
  | meth m o as ho ha =>
    cases m with
    | count => exact mkN_snd
    | index =>
      refine mkE_snd (.inr rfl) fun s x q => ?_
      split at q
      · simp only [Bool.and_eq_true, Bool.not_eq_true', decide_eq_true_eq] at q
        obtain ⟨⟨⟨⟨q1, q2⟩, q3⟩, q4⟩, q5⟩ := q
        exact nd_index q1 s.hK q2 q3 rfl (toB (ho.e s q4)) (ha.a s q5)
      · cases q
  | comp own el tg src ifs he hg hs hf =>
    refine mkE_snd (.inr rfl) fun s x q => ?_
    obtain ⟨elt, tge, iter, fs, scope, p, rfl, h1, h2, h3, h4, h5, h6, h7, h8⟩ := kComp_ok (A := ck T dr el) he hs hg hf s q
    exact PEw (pe_lc s.A.calm s.A.nd h1 h2 h3 h4 h5 h6) fun σ H Q h => comp_read h7 h8 h
  | comp2 own vs1 el tg src ifs tg1 src1 ifs1 he hg hs hf hg1 hs1 hf1 =>
    refine mkE_snd (.inr rfl) fun s x q => ?_
    obtain ⟨elt, tge, iter, fs, tge1, iter1, fs1, scope, p, rfl, h1, h2, h3, h4, h5, h6, h7, h8, h9, h10, h11, h12, h13, h14⟩ := kComp2_ok he hs hg hf hs1 hg1 hf1 s q
    exact PEw (pe_lc2 s.A.calm s.A.nd h1 h2 h3 h4 h5 h6 h7 h8 h9 h10 h11) fun σ H Q h => comp2_read h12 h13 h14 h
  | told a ha =>
    refine mkE_snd (.inr rfl) fun s x q => ?_
    split at q
    · simp only [Bool.and_eq_true, decide_eq_true_eq] at q
      obtain ⟨⟨⟨⟨⟨⟨q1, q2⟩, q3⟩, q4⟩, q5⟩, q6⟩, q7⟩ := q
      subst q3
      refine nd_told s (s.lw q1) q2 (kGl_ok s q4) (by rw [s.A.hs]; exact LamX.lamS_by q5) fun s' => toD (ha.e s' q7) q6
    · cases q
  | toldd i a ha =>
    refine mkE_snd (.inr rfl) fun s x q => ?_
    split at q
    · simp only [Bool.and_eq_true, decide_eq_true_eq] at q
      obtain ⟨⟨⟨⟨⟨⟨⟨q1, q2⟩, q3⟩, q4⟩, q5⟩, q8⟩, q6⟩, q7⟩ := q
      subst q3
      refine nd_toldd s (s.lw q1) q2 (kGl_ok s q4) (by rw [s.A.hs]; exact lamD_by q5) (by rw [s.A.hN]; exact kDi_ok q8) fun s' => toD (ha.e s' q7) q6
    · cases q
  | same a b ha hb =>
    refine mkE_snd (.inr rfl) fun s x q => ?_
    obtain ⟨y, e1, es, p, pos, rfl, hs, q⟩ := kCall_ok q
    split at q
    · simp only [Bool.and_eq_true, decide_eq_true_eq] at q
      obtain ⟨⟨⟨⟨⟨q1, q2⟩, q3⟩, q4⟩, q5⟩, q6⟩ := q
      subst q3
      have hs2 := hs
      unfold noSt at hs2
      simp only [List.all_cons, Bool.and_eq_true, Bool.not_eq_true'] at hs2
      exact nd_same s (s.lw q1) q2 (kGl_ok s q4) hs2.1 hs2.2.1 (toB (ha.e s q5)) (toB (hb.e s q6))
    · cases q
  | repr a ha =>
    refine mkE_snd (.inr rfl) fun s x q => ?_
    obtain ⟨y, e1, es, p, pos, rfl, hs, q⟩ := kCall_ok q
    split at q
    · simp only [Bool.and_eq_true, decide_eq_true_eq] at q
      obtain ⟨⟨⟨q1, q2⟩, q3⟩, q4⟩ := q
      subst q2
      exact nd_repr s (s.lw q1) (kGl_ok s q3) (star_none hs) (toB (ha.e s q4))
    · cases q
  | _ => exact mkN_snd
end
end Y

/-! part Y11 -/
set_option Elab.async false
set_option linter.all false
set_option maxRecDepth 100000
set_option maxHeartbeats 1000000
/-! Y11: statements, what they do to slots. -/
namespace Y
open PySem PySem.Spec
open PyProof.Rows hiding St
open L2
def drwS (dr : Nat → Nat) : S → Nat
  | .seq s r => drwS dr s + drwS dr r
  | .asg _ c => drw dr c
  | .asgL _ c => drw dr c
  | .unp _ c => drw dr c
  | .par _ _ a b => drw dr a + drw dr b
  | .par3 _ _ _ a b c => drw dr a + (drw dr b + drw dr c)
  | .aug _ _ c => drw dr c
  | .app _ c => drw dr c
  | .ext _ c => drw dr c
  | .seti _ ci c => drw dr c + drw dr ci
  | .expr c => drw dr c
  | .ite t a b => drw dr t + (drwS dr a + drwS dr b)
  | .for_ _ src body => drw dr src + manyD * drwS dr body
  | .while_ t body => drw dr t + drwS dr body
  | .ret c => drw dr c
  | .raise _ as => drw dr as
  | _ => 0
section
variable {R : RT} {F F' F1 F2 : Addr → Prop} {H H' H1 H2 : Hp} {σ σ' σ1 σ2 : St} {ρ ρ' ρ1 ρ2 : Ev} {n m : Nat}
/-- behind a statement -/
structure NxS (R : RT) (m : Nat) (F : Addr → Prop) (H : Hp) (σ' : St) (ρ' : Ev) (F' : Addr → Prop) (H' : Hp) : Prop where
  env : EnvOk R m F' σ' H' ρ'
  keep : Keep F H H'
  sub : ∀ a, F a → F' a
theorem Keep.refl : Keep F H H := fun _ _ e _ => e
theorem Keep.trans (a : Keep F H H1) (s : ∀ a, F a → F1 a) (b : Keep F1 H1 H2) : Keep F H H2 := fun c o e h => b c o (a c o e h) (h.imp (s c) id)
theorem NxS.refl (E : EnvOk R n F σ H ρ) : NxS R n F H σ ρ F H := ⟨E, .refl, fun _ h => h⟩
theorem NxS.mono (x : NxS R n F H σ' ρ' F' H') (l : n ≤ m) : NxS R m F H σ' ρ' F' H' := ⟨x.env.mono l, x.keep, x.sub⟩
theorem NxS.trans (x : NxS R n F H σ1 ρ1 F1 H1) (y : NxS R m F1 H1 σ2 ρ2 F2 H2) : NxS R m F H σ2 ρ2 F2 H2 := ⟨y.env, x.keep.trans x.sub y.keep, fun a h => y.sub a (x.sub a h)⟩
theorem Nxt.nxs (E : EnvOk R n F σ H ρ) (x : Nxt R m σ ρ F H F' H') : NxS R m F H σ ρ F' H' := ⟨x.env, E.keep x.ext, x.sub⟩
theorem set_get {α : Type} {l : List (Option α)} {i j : Nat} {v : Option α} {s : α} (h : (l.set i v)[j]? = some (some s)) : (j = i ∧ v = some s) ∨ (j ≠ i ∧ l[j]? = some (some s)) := by
  by_cases e : j = i
  · subst e
    by_cases hl : j < l.length
    · rw [List.getElem?_set_self hl] at h
      exact .inl ⟨rfl, Option.some.inj h⟩
    · rw [List.getElem?_eq_none (by rw [List.length_set]; omega)] at h
      cases h
  · rw [List.getElem?_set_ne (Ne.symm e)] at h
    exact .inr ⟨e, h⟩
/-- a list of its own in a slot -/
theorem EnvOk.setOw (E : EnvOk R n F σ H ρ) {a : Addr} {vs : List V} {ps : List PyData} (h1 : H a = some (.lst vs)) (h2 : RpAll R.K F H vs ps) (h3 : ¬ F a) (h4 : R.H0 a = none) (ho : ∀ (j : Nat) (qs : List PyData), ρ[j]? = some (some (Sl.ow qs)) → σ[j]? ≠ some (some (V.ref a))) (i : Nat) :
    EnvOk R n F (σ.set i (some (.ref a))) H (ρ.set i (some (.ow ps))) := by
  refine ⟨E.ext, E.st, E.s0, E.fs, E.fr, E.new, by rw [List.length_set, List.length_set]; exact E.len, fun j s h => ?_, fun j k b qs rs g1 g2 g3 g4 => ?_⟩
  · rcases set_get h with ⟨e1, e2⟩ | ⟨e1, e2⟩
    · subst e1
      cases e2
      refine ⟨a, vs, ?_, h1, h2, h3, h4⟩
      have hl : j < σ.length := by
        rw [← E.len]
        have := (List.getElem?_eq_some_iff.mp h).1
        rw [List.length_set] at this
        exact this
      rw [List.getElem?_set_self hl]
    · have q := E.slot j s e2
      cases s with
      | sh d =>
        obtain ⟨v, q1, q2⟩ := q
        exact ⟨v, by rw [List.getElem?_set_ne (Ne.symm e1)]; exact q1, q2⟩
      | ow qs =>
        obtain ⟨b, ws, q1, q2⟩ := q
        exact ⟨b, ws, by rw [List.getElem?_set_ne (Ne.symm e1)]; exact q1, q2⟩
  · rcases set_get g1 with ⟨e1, e2⟩ | ⟨e1, e2⟩
    · rcases set_get g2 with ⟨f1, f2⟩ | ⟨f1, f2⟩
      · rw [e1, f1]
      · subst e1
        have hj : (σ.set j (some (.ref a)))[j]? = some (some (.ref b)) := g3
        have hl : j < σ.length := by
          have := (List.getElem?_eq_some_iff.mp hj).1
          rw [List.length_set] at this
          exact this
        rw [List.getElem?_set_self hl] at g3
        cases g3
        rw [List.getElem?_set_ne (Ne.symm f1)] at g4
        exact absurd g4 (ho k rs f2)
    · rcases set_get g2 with ⟨f1, f2⟩ | ⟨f1, f2⟩
      · subst f1
        have hj : (σ.set k (some (.ref a)))[k]? = some (some (.ref b)) := g4
        have hl : k < σ.length := by
          have := (List.getElem?_eq_some_iff.mp hj).1
          rw [List.length_set] at this
          exact this
        rw [List.getElem?_set_self hl] at g4
        cases g4
        rw [List.getElem?_set_ne (Ne.symm e1)] at g3
        exact absurd g3 (ho j qs e2)
      · rw [List.getElem?_set_ne (Ne.symm e1)] at g3
        rw [List.getElem?_set_ne (Ne.symm f1)] at g4
        exact E.apart j k b qs rs e2 f2 g3 g4
/-- a slot's own list is written -/
theorem EnvOk.write (E : EnvOk R n F σ H ρ) {i : Nat} {a : Addr} {vs ws : List V} {ps qs : List PyData} (hi : ρ[i]? = some (some (.ow ps))) (hs : σ[i]? = some (some (.ref a))) (h1 : H a = some (.lst vs)) (h2 : RpAll R.K F H ws qs) :
    NxS R n F H σ (ρ.set i (some (.ow qs))) F (L2.upd H a (.lst ws)) := by
  obtain ⟨a', vs', q1, q2, q3, q4, q5⟩ := E.slot i _ hi
  rw [hs] at q1
  cases q1
  have np : ∀ b o, H b = some o → (F b ∨ solid o) → b ≠ a := fun b o q h z => by
    subst z
    rcases h with h | h
    · exact q4 h
    · rw [h1] at q
      cases q
      exact h
  have k : Keep F H (L2.upd H a (.lst ws)) := fun b o q h => by
    rw [upd_ne (np b o q h)]
    exact q
  have n0 : ∀ b, R.H0 b ≠ none → b ≠ a := fun b h z => h (z ▸ q5)
  refine ⟨⟨fun b o q hn => ?_, E.st.put (fun s b es => ⟨n0 s (E.s0.1 s b es).1, n0 b (E.s0.1 s b es).2⟩) (fun o' q => by rw [h1] at q; cases q; exact ⟨_, rfl⟩), E.s0, E.fs, fun b hb => ?_, E.new, by rw [List.length_set]; exact E.len, fun j s h => ?_, fun j l b rs ts g1 g2 g3 g4 => ?_⟩, k, fun _ h => h⟩
  · rw [upd_ne (n0 b (by rw [q]; exact fun z => nomatch z))]
    exact E.ext b o q hn
  · rw [upd_ne (fun z => q4 (by rw [← z]; exact hb))]
    exact E.fr b hb
  · rcases set_get h with ⟨e1, e2⟩ | ⟨e1, e2⟩
    · subst e1
      cases e2
      exact ⟨a, ws, hs, upd_same, h2.mono k fun _ h => h, q4, q5⟩
    · have q := E.slot j s e2
      cases s with
      | sh d =>
        obtain ⟨v, q1, q2⟩ := q
        exact ⟨v, q1, q2.mono k fun _ h => h⟩
      | ow rs =>
        obtain ⟨b, us, q1, q2, q3, q4, q5⟩ := q
        refine ⟨b, us, q1, ?_, q3.mono k fun _ h => h, q4, q5⟩
        have : b ≠ a := fun z => e1 (E.apart j i a rs ps e2 hi (by rw [← z]; exact q1) hs)
        rw [upd_ne this]
        exact q2
  · have o1 : ∃ rs', ρ[j]? = some (some (.ow rs')) := by
      rcases set_get g1 with ⟨e1, e2⟩ | ⟨e1, e2⟩
      · subst e1; exact ⟨_, hi⟩
      · exact ⟨_, e2⟩
    have o2 : ∃ rs', ρ[l]? = some (some (.ow rs')) := by
      rcases set_get g2 with ⟨e1, e2⟩ | ⟨e1, e2⟩
      · subst e1; exact ⟨_, hi⟩
      · exact ⟨_, e2⟩
    obtain ⟨r1, o1⟩ := o1
    obtain ⟨r2, o2⟩ := o2
    exact E.apart j l b r1 r2 o1 o2 g3 g4
/-- a slot's own list is frozen -/
theorem EnvOk.frz (E : EnvOk R n F σ H ρ) {i : Nat} {ps : List PyData} (hi : ρ[i]? = some (some (.ow ps))) : ∃ F', NxS R n F H σ (ρ.set i (some (.sh (.L ps)))) F' H := by
  obtain ⟨a, vs, q1, q2, q3, q4, q5⟩ := E.slot i _ hi
  have hn : NotS R.sa a := E.s0.notS q5
  refine ⟨fun b => F b ∨ b = a, ⟨E.ext, E.st, E.s0, fun b hb => ?_, fun b hb => ?_, fun b hb => ?_, by rw [List.length_set]; exact E.len, fun j s h => ?_, fun j l b rs ts g1 g2 g3 g4 => ?_⟩, .refl, fun _ h => .inl h⟩
  · rcases hb with z | z
    · exact E.fs b z
    · rw [z]; exact hn
  · rcases hb with z | z
    · exact E.fr b z
    · rw [z, q2]; exact fun z => nomatch z
  · rcases hb with z | z
    · exact E.new b z
    · rw [z]; exact .inr q5
  · rcases set_get h with ⟨e1, e2⟩ | ⟨e1, e2⟩
    · subst e1
      cases e2
      exact ⟨_, q1, .lst q2 (.inr rfl) (q3.mono .refl fun _ h => .inl h)⟩
    · have q := E.slot j s e2
      cases s with
      | sh d =>
        obtain ⟨v, q1, q2⟩ := q
        exact ⟨v, q1, q2.mono .refl fun _ h => .inl h⟩
      | ow rs =>
        obtain ⟨b, us, r1, r2, r3, r4, r5⟩ := q
        refine ⟨b, us, r1, r2, r3.mono .refl fun _ h => .inl h, ?_, r5⟩
        rintro (z | z)
        · exact r4 z
        · exact e1 (E.apart j i a rs ps e2 hi (by rw [← z]; exact r1) q1)
  · rcases set_get g1 with ⟨e1, e2⟩ | ⟨e1, e2⟩
    · cases e2
    · rcases set_get g2 with ⟨f1, f2⟩ | ⟨f1, f2⟩
      · cases f2
      · exact E.apart j l b rs ts e2 f2 g3 g4
end
section
variable (Φ : Nat → List D → (D → Prop) → (Nat → Prop) → Prop) (dr : Nat → Nat)
/-- a statement's reading -/
def TSx (R : RT) (Ed : Nat → Prop) (s : S) : TS := fun D σ H => ∃ (n : Nat) (F : Addr → Prop) (ρ : Ev) (En : En), EnvOk R n F σ H ρ ∧ n + drwS dr s ≤ R.nb ∧ wpS Φ exName s ρ En ∧ En.ex = Ed ∧
  (∀ ρ' σ' F' H', En.nx ρ' → NxS R (n + drwS dr s) F H σ' ρ' F' H' → D.nx σ' H') ∧
  (∀ ρ' σ' F' H', En.bk ρ' → NxS R (n + drwS dr s) F H σ' ρ' F' H' → D.bk σ' H') ∧
  (∀ ρ' σ' F' H', En.ct ρ' → NxS R (n + drwS dr s) F H σ' ρ' F' H' → D.ct σ' H') ∧
  (∀ d v ρ' σ' F' H', En.rt d → NxS R (n + drwS dr s) F H σ' ρ' F' H' → RD R F' H' v d → D.rt v H')
end
section
variable {Φ : Nat → List D → (D → Prop) → (Nat → Prop) → Prop} {dr : Nat → Nat}
variable {X : Cx} {R : RT} {z : Pz} {Ed : Nat → Prop} {e l r : Expr} {es : List Expr} {a b c : C} {s t : S} {pos p : Pos} {st : Stmt} {sts : List Stmt}
theorem ns_nil : PSs X [] (TSx Φ dr R Ed .nil) := PSsw pss_nil fun D σ H ⟨n, F, ρ, En, E, hn, hw, he, k1, k2, k3, k4⟩ => k1 ρ σ F H hw (NxS.refl (by simpa [drwS] using E))
theorem ns_seq (h1 : PS X st (TSx Φ dr R Ed s)) (h2 : PSs X sts (TSx Φ dr R Ed t)) : PSs X (st :: sts) (TSx Φ dr R Ed (.seq s t)) :=
  PSsw (pss_cons h1 h2) fun D σ H ⟨n, F, ρ, En, E, hn, hw, he, k1, k2, k3, k4⟩ => by
    simp only [wpS] at hw
    simp only [drwS] at hn k1 k2 k3 k4
    refine ⟨n, F, ρ, _, E, by omega, hw, he, fun ρ1 σ1 F1 H1 q1 x1 => ?_, fun ρ1 σ1 F1 H1 q1 x1 => k2 _ _ _ _ q1 (x1.mono (by omega)), fun ρ1 σ1 F1 H1 q1 x1 => k3 _ _ _ _ q1 (x1.mono (by omega)), fun d v ρ1 σ1 F1 H1 q1 x1 r1 => k4 _ _ _ _ _ _ q1 (x1.mono (by omega)) r1⟩
    refine ⟨_, F1, ρ1, _, x1.env, by omega, q1, he, fun ρ2 σ2 F2 H2 q2 x2 => k1 _ _ _ _ q2 ((x1.trans x2).mono (by omega)), fun ρ2 σ2 F2 H2 q2 x2 => k2 _ _ _ _ q2 ((x1.trans x2).mono (by omega)), fun ρ2 σ2 F2 H2 q2 x2 => k3 _ _ _ _ q2 ((x1.trans x2).mono (by omega)), fun d v ρ2 σ2 F2 H2 q2 x2 r2 => k4 _ _ _ _ _ _ q2 ((x1.trans x2).mono (by omega)) r2⟩
theorem ns_frz {i : Nat} (h2 : PSs X sts (TSx Φ dr R Ed t)) : PSs X sts (TSx Φ dr R Ed (.seq (.frz i) t)) :=
  PSsw h2 fun D σ H ⟨n, F, ρ, En, E, hn, hw, he, k1, k2, k3, k4⟩ => by
    simp only [wpS] at hw
    simp only [drwS, Nat.zero_add] at hn k1 k2 k3 k4
    split at hw
    · rename_i ps hi
      obtain ⟨F1, x1⟩ := E.frz hi
      exact ⟨n, F1, _, En, x1.env, hn, hw, he, fun ρ2 σ2 F2 H2 q2 x2 => k1 _ _ _ _ q2 (x1.trans x2), fun ρ2 σ2 F2 H2 q2 x2 => k2 _ _ _ _ q2 (x1.trans x2), fun ρ2 σ2 F2 H2 q2 x2 => k3 _ _ _ _ q2 (x1.trans x2), fun d v ρ2 σ2 F2 H2 q2 x2 r2 => k4 _ _ _ _ _ _ q2 (x1.trans x2) r2⟩
    · exact ⟨n, F, ρ, En, E, hn, hw, he, k1, k2, k3, k4⟩
theorem ns_pass (h : PS X st tNext) : PS X st (TSx Φ dr R Ed .pass) := PSw h fun D σ H ⟨n, F, ρ, En, E, hn, hw, he, k1, k2, k3, k4⟩ => k1 ρ σ F H hw (NxS.refl (by simpa [drwS] using E))
theorem ns_brk : PS X (.Break pos) (TSx Φ dr R Ed .brk) := PSw ps_break fun D σ H ⟨n, F, ρ, En, E, hn, hw, he, k1, k2, k3, k4⟩ => k2 ρ σ F H hw (NxS.refl (by simpa [drwS] using E))
theorem ns_cont : PS X (.Continue pos) (TSx Φ dr R Ed .cont) := PSw ps_continue fun D σ H ⟨n, F, ρ, En, E, hn, hw, he, k1, k2, k3, k4⟩ => k3 ρ σ F H hw (NxS.refl (by simpa [drwS] using E))
theorem ns_ret (ha : PE X e (TEx Φ exName dr R (rlD R) Ed c)) : PS X (.Return (some e) pos) (TSx Φ dr R Ed (.ret c)) :=
  PSw (ps_ret ha) fun D σ H ⟨n, F, ρ, En, E, hn, hw, he, k1, k2, k3, k4⟩ => by
    subst he
    exact ⟨n, F, ρ, _, E, hn, hw, fun d v F' H' q x r => k4 d v ρ σ F' H' q (x.nxs E) r⟩
theorem ns_retN : PS X (.Return none pos) (TSx Φ dr R Ed (.ret (.lit .none))) :=
  PSw ps_retN fun D σ H ⟨n, F, ρ, En, E, hn, hw, he, k1, k2, k3, k4⟩ => k4 .N .non ρ σ F H hw (NxS.refl (by simpa [drwS, drw] using E)) .non
theorem ns_expr {rl : Rl} (ha : PE X e (TEx Φ exName dr R rl Ed c)) (hs : swapsWith e none pos.line X.env = pure false) : PS X (.Expr e pos) (TSx Φ dr R Ed (.expr c)) :=
  PSw (ps_expr ha hs) fun D σ H ⟨n, F, ρ, En, E, hn, hw, he, k1, k2, k3, k4⟩ => by
    subst he
    exact ⟨n, F, ρ, _, E, hn, hw, fun d v F' H' q x r => k1 ρ σ F' H' q (x.nxs E)⟩
theorem ns_if {et : Expr} {as bs : List Stmt} (ht : PT X et (TTx Φ exName dr R Ed c)) (ha : PSs X as (TSx Φ dr R Ed s)) (hb : PSs X bs (TSx Φ dr R Ed t)) : PS X (.If et as bs pos) (TSx Φ dr R Ed (.ite c s t)) :=
  PSw (ps_if ht ha hb) fun D σ H ⟨n, F, ρ, En, E, hn, hw, he, k1, k2, k3, k4⟩ => by
    subst he
    simp only [wpS] at hw
    simp only [drwS] at hn k1 k2 k3 k4
    refine ⟨n, F, ρ, _, E, by omega, hw, fun d F1 H1 q1 x1 => ?_⟩
    split at q1
    · rename_i kb
      refine ⟨kb, rfl, ?_⟩
      have y1 := x1.nxs E
      cases kb with
      | true =>
        simp only [if_true] at q1 ⊢
        exact ⟨_, F1, ρ, _, x1.env, by omega, q1, rfl, fun ρ2 σ2 F2 H2 q2 x2 => k1 _ _ _ _ q2 ((y1.trans x2).mono (by omega)), fun ρ2 σ2 F2 H2 q2 x2 => k2 _ _ _ _ q2 ((y1.trans x2).mono (by omega)), fun ρ2 σ2 F2 H2 q2 x2 => k3 _ _ _ _ q2 ((y1.trans x2).mono (by omega)), fun d v ρ2 σ2 F2 H2 q2 x2 r2 => k4 _ _ _ _ _ _ q2 ((y1.trans x2).mono (by omega)) r2⟩
      | false =>
        simp only [Bool.false_eq_true, if_false] at q1 ⊢
        exact ⟨_, F1, ρ, _, x1.env, by omega, q1, rfl, fun ρ2 σ2 F2 H2 q2 x2 => k1 _ _ _ _ q2 ((y1.trans x2).mono (by omega)), fun ρ2 σ2 F2 H2 q2 x2 => k2 _ _ _ _ q2 ((y1.trans x2).mono (by omega)), fun ρ2 σ2 F2 H2 q2 x2 => k3 _ _ _ _ q2 ((y1.trans x2).mono (by omega)), fun d v ρ2 σ2 F2 H2 q2 x2 r2 => k4 _ _ _ _ _ _ q2 ((y1.trans x2).mono (by omega)) r2⟩
    · exact q1.elim
/-! ### stores -/
theorem asg_ok {i : Nat} {D : Ends} {σ : St} {H : Hp} (h : TSx Φ dr R Ed (.asg i c) D σ H) : tAsg (TEx Φ exName dr R (rlD R) Ed c) (gName i) D σ H := by
  obtain ⟨n, F, ρ, En, E, hn, hw, he, k1, k2, k3, k4⟩ := h
  subst he
  refine ⟨n, F, ρ, _, E, hn, hw, fun d v F' H' q x r => ?_⟩
  have y := x.nxs E
  exact k1 _ _ F' H' q ⟨x.env.set r i, y.keep, y.sub⟩
theorem asgL_ok {i : Nat} {D : Ends} {σ : St} {H : Hp} (h : TSx Φ dr R Ed (.asgL i c) D σ H) : tAsg (TEx Φ exName dr R (rlN R) Ed c) (gName i) D σ H := by
  obtain ⟨n, F, ρ, En, E, hn, hw, he, k1, k2, k3, k4⟩ := h
  subst he
  refine ⟨n, F, ρ, _, E, hn, hw, fun d v F' H' q x r => ?_⟩
  have y := x.nxs E
  split at q
  · rename_i ps
    rcases r with ⟨_, r⟩ | ⟨a, vs, qs, e1, e2, h3, h4, h5, h6⟩
    · exact absurd rfl (r ps)
    · cases e1
      subst e2
      refine k1 _ _ F' H' q ⟨x.env.setOw h4 h6 h5 (E.h0 h3) ?_ i, y.keep, y.sub⟩
      exact E.ownH h3
  · exact q.elim
theorem ns_unp {tg : Expr} {tgC : C} (he : PE X e (TEx Φ exName dr R (rlD R) Ed c)) (hg : PG X tg (TGx R tgC)) (hs : swapsWithSole [tg] e pos.line X.env = pure false) (hw : swappedStores [tg] e X.env = pure none) (h1 : (assignEach [tg] X.env).map (·.2) = [assign tg X.env]) :
    PS X (.Assign [tg] e pos) (TSx Φ dr R Ed (.unp tgC c)) :=
  PSw (ps_asg he hg hs hw h1) fun D σ H ⟨n, F, ρ, En, E, hn, hw, he, k1, k2, k3, k4⟩ => by
    subst he
    refine ⟨n, F, ρ, _, E, hn, hw, fun d v F' H' q x r => ?_⟩
    have y := x.nxs E
    exact ⟨_, F', ρ, d, _, x.env, r, q, fun σ' ρ' q' E' u ul => k1 ρ' σ' F' H' q' ⟨E', y.keep, y.sub⟩⟩
theorem par_ok {i j : Nat} {D : Ends} {σ : St} {H : Hp} (h : TSx Φ dr R Ed (.par i j a b) D σ H) : tPar i j (TAx Φ exName dr R (rlD R) Ed (.cons a (.cons b .nil))) D σ H := by
  obtain ⟨n, F, ρ, En, E, hn, hw, he, k1, k2, k3, k4⟩ := h
  subst he
  simp only [wpS] at hw
  simp only [drwS] at hn k1
  refine ⟨n, F, ρ, fun d => match d with | .args [x, y] => En.nx ((ρ.set i (some (.sh x))).set j (some (.sh y))) | _ => False, E, by simp only [drw]; omega, hw, fun ds vs F' H' q x r hl => ?_⟩
  match ds, q with
  | [d1, d2], q =>
    obtain ⟨v, w, rfl, r1, r2⟩ := ra2 r
    exact ⟨v, w, rfl, k1 _ _ F' H' q ⟨(((x.env.set r1 i).set r2 j)).mono (by simp only [drw]; omega), (x.nxs E).keep, x.sub⟩⟩
theorem par3_ok {i j l : Nat} {a b c : C} {D : Ends} {σ : St} {H : Hp} (h : TSx Φ dr R Ed (.par3 i j l a b c) D σ H) : L2.tPar3 i j l (TAx Φ exName dr R (rlD R) Ed (.cons a (.cons b (.cons c .nil)))) D σ H := by
  obtain ⟨n, F, ρ, En, E, hn, hw, he, k1, k2, k3, k4⟩ := h
  subst he
  simp only [wpS] at hw
  simp only [drwS] at hn k1
  refine ⟨n, F, ρ, fun d => match d with | .args [x, y, z] => En.nx (((ρ.set i (some (.sh x))).set j (some (.sh y))).set l (some (.sh z))) | _ => False, E, by simp only [drw]; omega, hw, fun ds vs F' H' q x r hl => ?_⟩
  match ds, q with
  | [d1, d2, d3], q =>
    obtain ⟨u, v, w, rfl, r1, r2, r3⟩ := ra3 r
    exact ⟨u, v, w, rfl, k1 _ _ F' H' q ⟨((((x.env.set r1 i).set r2 j)).set r3 l).mono (by simp only [drw]; omega), (x.nxs E).keep, x.sub⟩⟩
end
end Y

/-! part Y12 -/
set_option Elab.async false
set_option linter.all false
set_option maxRecDepth 100000
set_option maxHeartbeats 1000000
/-! Y12: in-place operations, lists written, loops, raise. -/
namespace Y
open PySem PySem.Spec
open PyProof.Rows hiding St
open L2
def rAug : BO → TIp
  | .add => fun x y H Q => ∃ i j, x = .int i ∧ y = .int j ∧ Q (.int (i + j)) H
  | .sub => fun x y H Q => ∃ i j, x = .int i ∧ y = .int j ∧ Q (.int (i - j)) H
  | .mul => fun x y H Q => ∃ i j, x = .int i ∧ y = .int j ∧ CMulX i j ∧ Q (.int (i * j)) H
  | .fdiv => fun x y H Q => ∃ i j, x = .int i ∧ y = .int j ∧ CDivG i j ∧ Q (.int (i.fdiv j)) H
  | _ => fun _ _ _ _ => False
theorem ip_aug {X : Cx} (op : BO) : PIp X (opM op) (rAug op) := by
  cases op with
  | add => exact ip_add
  | sub => exact ip_sub
  | mul =>
    intro pins s σ H x y v u Q I r1 r2 h
    obtain ⟨i, j, rfl, rfl, hc, q⟩ := h
    obtain ⟨t, rfl⟩ := r1
    obtain ⟨t', rfl⟩ := r2
    exact AutoIntOps.imul_0 (s := s) ⟨.int (i * j), H, I.tok _, ⟨_, rfl⟩, q⟩ hc.ok
  | fdiv =>
    intro pins s σ H x y v u Q I r1 r2 h
    obtain ⟨i, j, rfl, rfl, hc, q⟩ := h
    obtain ⟨t, rfl⟩ := r1
    obtain ⟨t', rfl⟩ := r2
    refine AutoIntOps.ifloordiv_1 (s := s) (fun z => hc.1 (eq_of_beq z)) ?_ ⟨.int (i.fdiv j), H, I.tok _, ⟨_, rfl⟩, q⟩
    intro z
    have := PyProof.noPylong_of_log2 (x := i) hc.2
    rw [this] at z
    cases z
  | mod => intro pins s σ H x y v u Q I r1 r2 h; exact h.elim
  | pow => intro pins s σ H x y v u Q I r1 r2 h; exact h.elim
section
variable {Φ : Nat → List D → (D → Prop) → (Nat → Prop) → Prop} {dr : Nat → Nat}
variable {X : Cx} {R : RT} {z : Pz} {Ed : Nat → Prop} {e l r : Expr} {es : List Expr} {a b c : C} {s t : S} {pos p : Pos} {st : Stmt} {sts : List Stmt}
theorem ns_aug {i : Nat} {x : Str} {op : BO} (hN : X.N.Nodup) (hi : X.N[i]? = some x) (hx : L2.Loc X.env.scope x) (hf : X.fn x = true ∨ X.env.scope.names.lookup x = some .local) (ha : PE X e (TEx Φ exName dr R (rlD R) Ed c)) : PS X (.AugAssign (.Name x p) (opM op) e pos) (TSx Φ dr R Ed (.aug i op c)) :=
  PSw (ps_aug hN hi hx ha (ip_aug op) hf) fun D σ H ⟨n, F, ρ, En, E, hn, hw, he, k1, k2, k3, k4⟩ => by
    subst he
    simp only [wpS, getV] at hw
    simp only [drwS] at hn k1
    split at hw
    · rename_i d hd
      obtain ⟨v, h1, h2⟩ := E.slot i _ hd
      refine ⟨v, h1, n, F, ρ, _, E, hn, hw, fun d2 y F1 H1 q x r => ?_⟩
      have y1 := x.nxs E
      have r0 : RD R F1 H1 v d := h2.mono (E.keep x.ext) x.sub
      have fin : ∀ k : Int, En.nx (ρ.set i (some (.sh (.I k)))) → D.nx (σ.set i (some (.int k))) H1 := fun k q => k1 _ _ F1 H1 q ⟨x.env.set (d := .I k) (Rp.int k) i, y1.keep, y1.sub⟩
      unfold augD at q
      split at q
      · cases (RB.int (.inl r0)); cases (RB.int (.inl r)); exact ⟨_, _, rfl, rfl, fin _ q⟩
      · cases (RB.int (.inl r0)); cases (RB.int (.inl r)); exact ⟨_, _, rfl, rfl, fin _ q⟩
      · cases (RB.int (.inl r0)); cases (RB.int (.inl r)); exact ⟨_, _, rfl, rfl, q.1, fin _ q.2⟩
      · cases (RB.int (.inl r0)); cases (RB.int (.inl r)); exact ⟨_, _, rfl, rfl, q.1, fin _ q.2⟩
      · exact q.elim
    · exact hw.elim
/-! ### lists written -/
/-- the bare slot -/
theorem own_var {i : Nat} {x : Str} (hN : X.N[i]? = some x) (hv : Vis X.env.scope x) (hd : (x == ("__debug__" : Str)) = false) (hcd : (x == ("__classdict__" : Str)) = false) : PE X (.Name x p) (tVar i) := pe_var hN hv hd hcd
/-- a method's call that no star, no super is in -/
theorem kw_nil {cpos : Pos} {es : List Expr} {env : Env} (h : es.all (fun e => !isStar e) = true) (hl : es.length < 29) :
    ((backTo cpos (starEach es env)).all (fun x => !x.1) && (backToKw cpos (keywordEach [] env)).all (fun x => x.1.isSome) && decide (es.length + ([] : List Keyword).length + (if ([] : List Keyword).isEmpty then 0 else 1) < 30)) = true := by
  have h1 : (backTo cpos (starEach es env)).all (fun x => !x.1) = true := by
    induction es with
    | nil => rfl
    | cons e es ih =>
      rw [List.all_cons, Bool.and_eq_true, Bool.not_eq_true'] at h
      rw [each_plain h.1]
      show (!false && (backTo cpos (starEach es env)).all (fun x => !x.1)) = true
      rw [ih h.2 (by rw [List.length_cons] at hl; omega)]
      rfl
  rw [h1]
  have : es.length + ([] : List Keyword).length + (if ([] : List Keyword).isEmpty then 0 else 1) < 30 := by
    show es.length + 0 + 0 < 30
    omega
  rw [decide_eq_true this]
  rfl
theorem ns_app {i : Nat} {x m : Str} {ap cp : Pos} (hm : m = "append") (hN : X.N[i]? = some x) (hv : Vis X.env.scope x) (hd : (x == ("__debug__" : Str)) = false) (hcd : (x == ("__classdict__" : Str)) = false) (hs : isStar e = false) (hline : (ap.endLine == cp.line) = true)
    (ha : PE X e (TEx Φ exName dr R (rlD R) Ed c)) : PS X (.Expr (.Call (.Attribute (.Name x p) m ap) [e] [] cp) pos) (TSx Φ dr R Ed (.app i c)) := by
  subst hm
  have hall : [e].all (fun e => !isStar e) = true := by rw [List.all_cons, hs]; rfl
  refine PSw (ps_expr (pe_bm PySem.F.plainAttrs_list PySem.F.slot_list_append PySem.F.type_list_append mt_append (own_var hN hv hd hcd) (pa_cons ha pa_nil (each_plain hs)) rfl (kw_nil hall (by show 1 < 29; decide)) hline (each_plain hs) rfl) rfl) fun D σ H ⟨n, F, ρ, En, E, hn, hw, he, k1, k2, k3, k4⟩ => ?_
  subst he
  simp only [wpS] at hw
  simp only [drwS] at hn k1
  split at hw
  · rename_i ps hi
    obtain ⟨a0, vs, q1, q2, q3, q4, q5⟩ := E.slot i _ hi
    refine ⟨_, q1, .inl ⟨rfl, vs, SqL.of q2⟩, n, F, ρ, _, E, hn, hw, fun d v F1 H1 q x r => ?_⟩
    have y := x.nxs E
    split at q
    · rename_i pp
      obtain ⟨a1, vs1, g1, g2, g3, g4, g5⟩ := x.env.slot i _ hi
      rw [q1] at g1
      cases g1
      refine ⟨a0, vs1, v, rfl, rfl, g2, by rw [g3.length]; exact q.1, ?_⟩
      exact k1 _ _ F1 _ q.2 (y.trans (x.env.write hi q1 g2 (g3.append (.cons r .nil))))
    · exact q.elim
  · exact hw.elim
theorem ns_ext {i : Nat} {x m : Str} {ap cp : Pos} (hm : m = "extend") (hN : X.N[i]? = some x) (hv : Vis X.env.scope x) (hd : (x == ("__debug__" : Str)) = false) (hcd : (x == ("__classdict__" : Str)) = false) (hs : isStar e = false) (hline : (ap.endLine == cp.line) = true)
    (ha : PE X e (TEx Φ exName dr R (rlB R) Ed c)) : PS X (.Expr (.Call (.Attribute (.Name x p) m ap) [e] [] cp) pos) (TSx Φ dr R Ed (.ext i c)) := by
  subst hm
  have hall : [e].all (fun e => !isStar e) = true := by rw [List.all_cons, hs]; rfl
  refine PSw (ps_expr (pe_bm PySem.F.plainAttrs_list PySem.F.slot_list_extend PySem.F.type_list_extend mt_extend (own_var hN hv hd hcd) (pa_cons ha pa_nil (each_plain hs)) rfl (kw_nil hall (by show 1 < 29; decide)) hline (each_plain hs) rfl) rfl) fun D σ H ⟨n, F, ρ, En, E, hn, hw, he, k1, k2, k3, k4⟩ => ?_
  subst he
  simp only [wpS] at hw
  simp only [drwS] at hn k1
  split at hw
  · rename_i ps hi
    obtain ⟨a0, vs, q1, q2, q3, q4, q5⟩ := E.slot i _ hi
    refine ⟨_, q1, .inl ⟨rfl, vs, SqL.of q2⟩, n, F, ρ, _, E, hn, hw, fun d v F1 H1 q x r => ?_⟩
    have y := x.nxs E
    split at q
    · rename_i qs
      obtain ⟨a1, vs1, g1, g2, g3, g4, g5⟩ := x.env.slot i _ hi
      rw [q1] at g1
      cases g1
      obtain ⟨b, ws, rfl, f1, f2, f3⟩ := RB.list x.env r
      refine ⟨a0, b, vs1, ws, rfl, rfl, g2, f1, by rw [g3.length, f3.length]; exact q.1, ?_⟩
      exact k1 _ _ F1 _ q.2 (y.trans (x.env.write hi q1 g2 (g3.append f3)))
    · exact q.elim
  · exact hw.elim
theorem ns_seti {i : Nat} {x : Str} {ei : Expr} {tp : Pos} (hN : X.N[i]? = some x) (hv : Vis X.env.scope x) (hd : (x == ("__debug__" : Str)) = false) (hcd : (x == ("__classdict__" : Str)) = false) (hpi : ∀ v, assign (.Subscript (.Name x p) ei tp) X.env v = (do
      let ov ← holding [v] (eval (.Name x p) X.env)
      let iv ← holding [v, ov] (eval ei X.env)
      standAt tp
      holding [v, ov, iv] (setItem ov iv v)
      release [v, ov, iv] []))
    (hsw : swapsWithSole [.Subscript (.Name x p) ei tp] e pos.line X.env = pure false)
    (ha : PE X e (TEx Φ exName dr R (rlD R) Ed c)) (hi : PE X ei (TEx Φ exName dr R (rlD R) Ed a)) : PS X (.Assign [.Subscript (.Name x p) ei tp] e pos) (TSx Φ dr R Ed (.seti i a c)) := by
  refine PSw (ps_asg ha (pg_sub (own_var hN hv hd hcd) hi set_list hpi) hsw rfl rfl) fun D σ H ⟨n, F, ρ, En, E, hn, hw, he, k1, k2, k3, k4⟩ => ?_
  subst he
  simp only [wpS] at hw
  simp only [drwS] at hn k1
  split at hw
  · rename_i ps hi
    obtain ⟨a0, vs, q1, q2, q3, q4, q5⟩ := E.slot i _ hi
    refine ⟨n, F, ρ, _, E, by omega, hw, fun d v F1 H1 q x r => ?_⟩
    refine ⟨_, q1, _, F1, ρ, _, x.env, by omega, q, fun d2 v2 F2 H2 q x2 r2 => ?_⟩
    have y := x.nxs E
    have y2 := x2.nxs x.env
    split at q
    · rename_i k pp q
      cases (RB.int (.inl r2))
      obtain ⟨a1, vs1, g1, g2, g3, g4, g5⟩ := x2.env.slot i _ hi
      rw [q1] at g1
      cases g1
      obtain ⟨j, hj, q⟩ := q
      refine ⟨a0, vs1, k, j, rfl, rfl, g2, by rw [g3.length]; exact hj, ?_⟩
      have r' : RD R F2 H2 v (.py pp) := RD.mono (x.env.keep x2.ext) x2.sub r
      exact k1 _ _ F2 _ q (((y.trans y2).trans (x2.env.write hi q1 g2 (g3.set j r'))).mono (by omega))
    · exact q.elim
  · exact hw.elim
/-! ### loops -/
theorem ns_for {tg iter : Expr} {tgC src : C} {body : List Stmt} (hp : PassesOwn (model X.prog X.w) X.A X.env X.xe) (hc : X.calm = true) (hi : PI X tg iter (TIx Φ exName dr R false Ed src)) (hg : PG X tg (TGx R tgC)) (hb : PSs X body (TSx Φ dr R Ed s)) (hs : ∀ x, foldedSetIterable iter X.env x = pure x)
    (hcn : drwS dr s = 0 ∨ cntC src = true) : PS X (.For tg iter body [] pos) (TSx Φ dr R Ed (.for_ tgC src s)) :=
  PSw (ps_for hp hc hi hg hb hs) fun D σ H ⟨n, F, ρ, En, E, hn, hw, he, k1, k2, k3, k4⟩ => by
    subst he
    simp only [wpS] at hw
    simp only [drwS] at hn k1 k2 k3 k4
    refine ⟨n, F, ρ, _, E, by omega, hw, fun d q => ?_, fun d ds J F1 H1 q1 hi x1 yl cnt => ?_⟩
    · cases e : itemsD d with
      | none => rw [e] at q; exact q.elim
      | some ds => exact ⟨ds, rfl⟩
    rw [hi] at q1
    have q1 : forW (fun d ρ1 K => bindG tgC d ρ1 fun ρ2 => wpS Φ exName s ρ2 { En with nx := K, ct := K, bk := En.nx }) En.nx ds ρ := q1
    generalize hstep : (fun d ρ1 K => bindG tgC d ρ1 fun ρ2 => wpS Φ exName s ρ2 { En with nx := K, ct := K, bk := En.nx }) = step at q1
    have hcn' : drwS dr s = 0 ∨ ds.length ≤ manyD := hcn.imp id cnt
    generalize hn1 : n + drw dr src = n1 at x1
    generalize hdb : drwS dr s = db at hcn' hn k1 k2 k3 k4
    have y1 := x1.nxs E
    have hn2 : n1 + manyD * db ≤ R.nb := by omega
    refine ⟨fun i m σ2 H2 => ∃ F' ρ2 n', i ≤ ds.length ∧ m = ds.length - i ∧ n' ≤ n1 + i * db ∧ NxS R n' F1 H1 σ2 ρ2 F' H2 ∧ forW step En.nx (ds.drop i) ρ2,
      ⟨ds.length, F1, ρ, n1, Nat.zero_le _, rfl, by simp, NxS.refl x1.env, q1⟩, ?_⟩
    rintro i m σ2 H2 ⟨F', ρ2, n', hil, rfl, hn', nx, hq⟩
    have hst : Stay R false F1 H1 H2 := ⟨nx.keep, fun z => by cases z⟩
    by_cases hlt : i < ds.length
    · obtain ⟨hgo, hyl⟩ := (yl i F' H2 hst nx.sub).1 ds[i] (List.getElem?_eq_getElem hlt)
      have hms := mul_step hn2 (Nat.succ_le_of_lt hlt) hcn'
      have hdiv : (i + 1) * db = i * db + db := by rw [Nat.add_mul, Nat.one_mul]
      have hle2 : (i + 1) * db ≤ manyD * db := by
        rcases hcn' with h | h
        · rw [h]; simp
        · exact Nat.mul_le_mul_right _ (by omega)
      refine .inr ⟨hgo, fun σ' H' => ∃ F2 ρ3 n'', n'' ≤ n1 + (i + 1) * db ∧ NxS R n'' F1 H1 σ' ρ3 F2 H' ∧ forW step En.nx (ds.drop (i + 1)) ρ3, fun σ' H' ⟨F2, ρ3, n'', h1, h2, h3⟩ => ⟨ds.length - (i + 1), by omega, F2, ρ3, n'', hlt, rfl, h1, h2, h3⟩, fun x H3 hy => ?_⟩
      obtain ⟨hcase, rd⟩ := hyl x H3 hy
      have x3 : Nxt R n' σ2 ρ2 F' H2 F' H3 := by
        rcases hcase with e | ⟨p, vs, hp, e⟩
        · subst e; exact .refl nx.env
        · subst e; exact Nxt.upd nx.env hp
      have y3 := x3.nxs nx.env
      rw [List.drop_eq_getElem_cons hlt] at hq
      have hq : step ds[i] ρ2 (forW step En.nx (ds.drop (i + 1))) := hq
      have hq : bindG tgC ds[i] ρ2 fun ρ3 => wpS Φ exName s ρ3 { En with nx := forW step En.nx (ds.drop (i + 1)), ct := forW step En.nx (ds.drop (i + 1)), bk := En.nx } := by rw [← hstep] at hq ⊢; exact hq
      refine ⟨n', F', ρ2, ds[i], _, x3.env, rd, hq, fun σ' ρ' q' E' u ul => ?_⟩
      have up : ∀ {m : Nat} {σ6 : St} {ρ6 : Ev} {F6 : Addr → Prop} {H6 : Hp}, NxS R m F' H3 σ6 ρ6 F6 H6 → NxS R m F1 H1 σ6 ρ6 F6 H6 := fun x6 => (nx.trans y3).trans x6
      refine ⟨n', F', ρ', _, E', by rw [hdb]; omega, q', rfl, fun ρ3 σ3 F3 H4 q3 x4 => ?_, fun ρ3 σ3 F3 H4 q3 x4 => ?_, fun ρ3 σ3 F3 H4 q3 x4 => ?_, fun d v ρ3 σ3 F3 H4 q3 x4 r3 => ?_⟩
      · exact ⟨F3, ρ3, n' + drwS dr s, by rw [hdb]; omega, up x4, q3⟩
      · exact k1 _ _ _ _ q3 ((y1.trans (up x4)).mono (by rw [hdb]; omega))
      · exact ⟨F3, ρ3, n' + drwS dr s, by rw [hdb]; omega, up x4, q3⟩
      · exact k4 _ _ _ _ _ _ q3 ((y1.trans (up x4)).mono (by rw [hdb]; omega)) r3
    · have e : i = ds.length := by omega
      subst e
      refine .inl ⟨(yl _ F' H2 hst nx.sub).2 (Nat.le_refl _), ?_⟩
      rw [List.drop_length] at hq
      have hle : ds.length * db ≤ manyD * db := by
        rcases hcn' with h | h
        · rw [h]; simp
        · exact Nat.mul_le_mul_right _ h
      have hq : En.nx ρ2 := hq
      exact k1 _ _ _ _ hq ((y1.trans nx).mono (by omega))
theorem ns_while {et : Expr} {body : List Stmt} (hp : PassesOwn (model X.prog X.w) X.A X.env X.xe) (ht : PT X et (TTx Φ exName dr R Ed c)) (hb : PSs X body (TSx Φ dr R Ed s)) (h0 : drw dr c + drwS dr s = 0) : PS X (.While et body [] pos) (TSx Φ dr R Ed (.while_ c s)) :=
  PSw (ps_while hp ht hb) fun D σ H ⟨n, F, ρ, En, E, hn, hw, he, k1, k2, k3, k4⟩ => by
    subst he
    simp only [wpS] at hw
    simp only [drwS, h0, Nat.add_zero] at hn k1 k2 k3 k4
    obtain ⟨N, hw⟩ := hw
    generalize hstep : (fun (ρ1 : Ev) (K : Ev → Prop) => wp Φ exName c ρ1 (fun x => match x with
      | .py (.bool k) => if k = true then wpS Φ exName s ρ1 { En with nx := K, ct := K, bk := En.nx } else En.nx ρ1
      | _ => False) En.ex) = step at hw
    refine ⟨fun m σ2 H2 => ∃ F' ρ2, NxS R n F H σ2 ρ2 F' H2 ∧ whileW step m ρ2, ⟨N, F, ρ, NxS.refl E, hw⟩, ?_⟩
    rintro m σ2 H2 ⟨F', ρ2, nx, hq⟩
    cases m with
    | zero => exact hq.elim
    | succ m =>
      have hq : step ρ2 (whileW step m) := hq
      have hq : wp Φ exName c ρ2 (fun x => match x with
        | .py (.bool k) => if k = true then wpS Φ exName s ρ2 { En with nx := whileW step m, ct := whileW step m, bk := En.nx } else En.nx ρ2
        | _ => False) En.ex := by rw [← hstep] at hq ⊢; exact hq
      refine ⟨n, F', ρ2, _, nx.env, by omega, hq, fun d F3 H3 q3 x3 => ?_⟩
      have y3 := x3.nxs nx.env
      have hc0 : drw dr c = 0 := by omega
      have hs0 : drwS dr s = 0 := by omega
      rw [hc0, Nat.add_zero] at y3
      split at q3
      · rename_i kb
        refine ⟨kb, rfl, ?_⟩
        cases kb with
        | false =>
          simp only [Bool.false_eq_true, if_false] at q3 ⊢
          exact k1 _ _ _ _ q3 (nx.trans y3)
        | true =>
          simp only [if_true] at q3 ⊢
          refine ⟨fun σ' H' => ∃ F' ρ2, NxS R n F H σ' ρ2 F' H' ∧ whileW step m ρ2, fun σ' H' ⟨F4, ρ4, g1, g2⟩ => ⟨m, Nat.lt_succ_self m, F4, ρ4, g1, g2⟩, ?_⟩
          refine ⟨n, F3, ρ2, _, y3.env, by omega, q3, rfl, fun ρ5 σ5 F5 H5 q5 x5 => ?_, fun ρ5 σ5 F5 H5 q5 x5 => ?_, fun ρ5 σ5 F5 H5 q5 x5 => ?_, fun d v ρ5 σ5 F5 H5 q5 x5 r5 => ?_⟩
          · rw [hs0, Nat.add_zero] at x5; exact ⟨F5, ρ5, (nx.trans y3).trans x5, q5⟩
          · rw [hs0, Nat.add_zero] at x5; exact k1 _ _ _ _ q5 ((nx.trans y3).trans x5)
          · rw [hs0, Nat.add_zero] at x5; exact ⟨F5, ρ5, (nx.trans y3).trans x5, q5⟩
          · rw [hs0, Nat.add_zero] at x5; exact k4 _ _ _ _ _ _ q5 ((nx.trans y3).trans x5) r5
      · exact q3.elim
theorem ns_raise {k : Nat} (hc : X.calm = true) (w : Wsh R Ed X) (he : L2N.PMk X e (fun _ H Q => Q (.ref (R.ex k)) none H)) : PS X (.Raise (some e) none pos) (TSx Φ dr R Ed (.raise k .nil)) := by
  obtain ⟨W, tk, hw⟩ := w.ex
  refine PSw (L2N.ps_raise hc tk he) fun D σ H ⟨n, F, ρ, En, E, hn, hw2, he2, k1, k2, k3, k4⟩ => ?_
  subst he2
  simp only [wpS, wp] at hw2
  exact hw k σ H hw2 E.ext (E.st.mono (by simp only [drwS, drw, Nat.add_zero] at hn; exact hn))
end
end Y

/-! part Y13 -/
set_option Elab.async false
set_option linter.all false
set_option maxRecDepth 100000
set_option maxHeartbeats 1000000
/-! Y13: the checker of statements. -/
namespace Y
open PySem PySem.Spec
open PyProof.Rows hiding St
open L2
def isLC : Expr → Bool
  | .ListComp _ _ _ _ => true
  | .SetComp _ _ _ _ => true
  | .DictComp _ _ _ _ _ => true
  | _ => false
theorem sw_plain {e : Expr} {t : Option Expr} {l : Nat} {env : Env} (h : isLC e = false) : swapsWith e t l env = pure false := by
  cases e <;> first | rfl | cases h
theorem sw_soleS {e : Expr} {o i : Expr} {tp : Pos} {l : Nat} {env : Env} : swapsWithSole [.Subscript o i tp] e l env = pure false := by
  cases e <;> rfl
theorem sw_soleT {e : Expr} {es : List Expr} {k : Nat} {tp : Pos} {l : Nat} {env : Env} : swapsWithSole [.Tuple es k tp] e l env = pure false := by
  cases e <;> rfl
/-- is a comprehension stored as it is made -/
def swB (z : Pz) (x : Str) (p : Pos) : Expr → Bool
  | .ListComp _ _ scope pos => (z.sc.names.lookup x == some .local) && p.line == pos.line && !(scope.names.any fun (n, k) => n == x && (k == .local || k == .cell))
  | _ => false
theorem sw_no {elt : Expr} {gs : List Comprehension} {scope : Scope} {pos p : Pos} {x : Str} {l : Nat} {env : Env} {z : Pz} (hs : env.scope = z.sc) (hk : z.sc.kind = .function) (h : swB z x p (.ListComp elt gs scope pos) = false) :
    swapsWith (.ListComp elt gs scope pos) (some (.Name x p)) l env = pure false := by
  have hb : env.blockKind = .function := by unfold Env.blockKind; rw [hs, hk]; rfl
  have ky : env.kindOf x = z.sc.names.lookup x := by rw [← hs]; rfl
  unfold swB at h
  unfold swapsWith
  simp only [hb, ky, Expr.pos]
  have e0 : ((.function : ScopeKind) == .function) = true := rfl
  simp only [e0, Bool.true_and]
  simp only at h
  rw [h]
theorem ss_plain {es : List Expr} {k : Nat} {p : Pos} {e : Expr} {env : Env} (h : ∀ vs j q, e ≠ .Tuple vs j q) : swappedStores [.Tuple es k p] e env = pure none := by
  cases e <;> first | rfl | exact absurd rfl (h _ _ _)
theorem ss_long {es vs : List Expr} {k j : Nat} {p q : Pos} {env : Env} (h : (es.length == 2 || es.length == 3) = false) : swappedStores [.Tuple es k p] (.Tuple vs j q) env = pure none := by
  unfold swappedStores
  simp only [h]
  rfl
theorem ss_fold {es vs : List Expr} {k j : Nat} {p q : Pos} {env : Env} (h : vs.all (foldedForSure 8) = true) : swappedStores [.Tuple es k p] (.Tuple vs j q) env = pure none := by
  unfold swappedStores
  simp only [h, if_true]
  repeat' split
  all_goals rfl
theorem ss_two {x y : Str} {px py pt p2 : Pos} {kt k2 : Nat} {a b : Expr} {env : Env} {z : Pz} (hs : env.scope = z.sc) (hk : z.sc.kind = .function) (hx : z.sc.names.lookup x = some .local) (hy : z.sc.names.lookup y = some .local) (hl : (py.line == px.line) = true) (hxy : (x == y) = false)
    (h1 : isStar a = false) (h2 : isStar b = false) (h3 : [a, b].all (foldedForSure 8) = false) (h4 : [a, b].all (constantsAlone 8) = false) :
    swappedStores [.Tuple [.Name x px, .Name y py] kt pt] (.Tuple [a, b] k2 p2) env = pure (some [x, y]) := by
  have hb : env.blockKind = .function := by unfold Env.blockKind; rw [hs, hk]; rfl
  have kx : env.kindOf x = some .local := by rw [← hx, ← hs]; rfl
  have ky : env.kindOf y = some .local := by rw [← hy, ← hs]; rfl
  have hst : ([a, b].any fun | .Starred .. => true | _ => false) = false := by
    have : ∀ e, isStar e = false → (match e with | .Starred .. => true | _ => false) = false := fun e h => by cases e <;> first | rfl | cases h
    simp only [List.any_cons, List.any_nil, Bool.or_false]
    rw [this a h1, this b h2]
    rfl
  have hpx : (px.line == (Option.map (fun x => x.pos.line) [Expr.Name x px, Expr.Name y py].head?).getD 0) = true := by
    show (px.line == px.line) = true
    simp
  have hpy : (py.line == (Option.map (fun x => x.pos.line) [Expr.Name x px, Expr.Name y py].head?).getD 0) = true := hl
  have el : (some NameKind.local == some NameKind.local) = true := rfl
  have hed : [x, y].eraseDups = [x, y] := by
    rw [List.eraseDups_cons, List.filter_cons]
    have : (!(y == x)) = true := by
      rw [Bool.not_eq_true']
      cases q : y == x with
      | false => rfl
      | true => rw [eq_of_beq q] at hxy; simp at hxy
    rw [this]
    rfl
  unfold swappedStores
  simp only [hb, hst, h3, h4, List.filterMap_cons, List.filterMap_nil, kx, ky, hpx, hpy, el, Bool.and_true, if_true, hed]
  refine (if_neg (by show ¬ (false = true); decide)).trans ?_
  refine (if_neg (fun z => absurd (hst.symm.trans z) (by decide))).trans ?_
  rfl

theorem ss_three {x y w : Str} {px py pw pt p2 : Pos} {kt k2 : Nat} {a b c : Expr} {env : Env} {z : Pz} (hs : env.scope = z.sc) (hk : z.sc.kind = .function) (hx : z.sc.names.lookup x = some .local) (hy : z.sc.names.lookup y = some .local) (hz : z.sc.names.lookup w = some .local) (hl : (py.line == px.line) = true) (hl2 : (pw.line == px.line) = true) (hxy : (x == y) = false) (hxz : (x == w) = false) (hyz : (y == w) = false)
    (h1 : isStar a = false) (h2 : isStar b = false) (h2' : isStar c = false) (h3 : [a, b, c].all (foldedForSure 8) = false) (h4 : [a, b, c].all (constantsAlone 8) = false) :
    swappedStores [.Tuple [.Name x px, .Name y py, .Name w pw] kt pt] (.Tuple [a, b, c] k2 p2) env = pure (some [x, y, w]) := by
  have hb : env.blockKind = .function := by unfold Env.blockKind; rw [hs, hk]; rfl
  have kx : env.kindOf x = some .local := by rw [← hx, ← hs]; rfl
  have ky : env.kindOf y = some .local := by rw [← hy, ← hs]; rfl
  have kw : env.kindOf w = some .local := by rw [← hz, ← hs]; rfl
  have hst : ([a, b, c].any fun | .Starred .. => true | _ => false) = false := by
    have : ∀ e, isStar e = false → (match e with | .Starred .. => true | _ => false) = false := fun e h => by cases e <;> first | rfl | cases h
    simp only [List.any_cons, List.any_nil, Bool.or_false]
    rw [this a h1, this b h2, this c h2']
    rfl
  have hpx : (px.line == (Option.map (fun x => x.pos.line) [Expr.Name x px, Expr.Name y py, Expr.Name w pw].head?).getD 0) = true := by
    show (px.line == px.line) = true
    simp
  have hpy : (py.line == (Option.map (fun x => x.pos.line) [Expr.Name x px, Expr.Name y py, Expr.Name w pw].head?).getD 0) = true := hl
  have hpw : (pw.line == (Option.map (fun x => x.pos.line) [Expr.Name x px, Expr.Name y py, Expr.Name w pw].head?).getD 0) = true := hl2
  have el : (some NameKind.local == some NameKind.local) = true := rfl
  have sym : ∀ {p q : Str}, (p == q) = false → (!(q == p)) = true := fun {p q} h => by
    rw [Bool.not_eq_true']
    cases r : q == p with
    | false => rfl
    | true => rw [eq_of_beq r] at h; simp at h
  have hed : [x, y, w].eraseDups = [x, y, w] := by
    rw [List.eraseDups_cons, List.filter_cons, sym hxy, if_pos rfl, List.filter_cons, sym hxz, if_pos rfl, List.filter_nil, List.eraseDups_cons, List.filter_cons, sym hyz, if_pos rfl]
    rfl
  unfold swappedStores
  simp only [hb, hst, h3, h4, List.filterMap_cons, List.filterMap_nil, kx, ky, kw, hpx, hpy, hpw, el, Bool.and_true, if_true, hed]
  refine (if_neg (by show ¬ (false = true); decide)).trans ?_
  refine (if_neg (fun z => absurd (hst.symm.trans z) (by decide))).trans ?_
  rfl

structure CkS where
  one : Pz → Stmt → Bool
  many : Pz → List Stmt → Bool
def isFrz : S → Bool
  | .frz _ => true
  | _ => false
def isComp : C → Bool
  | .comp _ _ _ _ _ => true
  | .comp2 _ _ _ _ _ _ _ _ _ => true
  | _ => false
/-- name = e -/
def kAsg (cm : Bool) (K : Ck) (i : Nat) (z : Pz) : Stmt → Bool
  | .Assign [.Name x p] e _ => kLoc z i x && K.e z e && (!isLC e || (cm && decide (z.sc.kind = .function)))
  | _ => false
def isTup : Expr → Option (List Expr)
  | .Tuple es _ _ => some es
  | _ => none
/-- targets = e -/
def kUnp (G A : Ck) (z : Pz) : Stmt → Bool
  | .Assign [.Tuple es k p] e _ => G.g z (.Tuple es k p) && notB A.r && A.e z e && (match e with | .Tuple vs _ _ => !(es.length == 2 || es.length == 3) || vs.all (foldedForSure 8) | _ => true)
  | _ => false
def kPar (A B : Ck) (i j : Nat) (z : Pz) : Stmt → Bool
  | .Assign [.Tuple [.Name x px, .Name y py] _ _] (.Tuple [a, b] _ _) _ => decide (z.N[i]? = some x) && decide (z.N[j]? = some y) && decide (i ≠ j) && decide (z.sc.kind = .function) && decide (z.sc.names.lookup x = some .local) && decide (z.sc.names.lookup y = some .local) &&
      (py.line == px.line) && !(x == y) && !isStar a && !isStar b && !([a, b].all (foldedForSure 8)) && !([a, b].all (constantsAlone 8)) && notB A.r && notB B.r && A.e z a && B.e z b
  | _ => false
def kPar3 (A B G : Ck) (i j l : Nat) (z : Pz) : Stmt → Bool
  | .Assign [.Tuple [.Name x px, .Name y py, .Name w pw] _ _] (.Tuple [a, b, c] _ _) _ => decide (z.N[i]? = some x) && decide (z.N[j]? = some y) && decide (z.N[l]? = some w) && decide (i ≠ j) && decide (i ≠ l) && decide (j ≠ l) && decide (z.sc.kind = .function) && decide (z.sc.names.lookup x = some .local) && decide (z.sc.names.lookup y = some .local) && decide (z.sc.names.lookup w = some .local) &&
      (py.line == px.line) && (pw.line == px.line) && !(x == y) && !(x == w) && !(y == w) && !isStar a && !isStar b && !isStar c && !([a, b, c].all (foldedForSure 8)) && !([a, b, c].all (constantsAlone 8)) && notB A.r && notB B.r && notB G.r && A.e z a && B.e z b && G.e z c
  | _ => false
def kAug (A : Ck) (i : Nat) (op : BO) (z : Pz) : Stmt → Bool
  | .AugAssign (.Name x _) o e _ => decide (o = opM op) && kLoc z i x && notB A.r && A.e z e
  | _ => false
def kMet (m : Str) (b : Bool) (A : Ck) (i : Nat) (z : Pz) : Stmt → Bool
  | .Expr (.Call (.Attribute (.Name x _) n ap) [e] [] cp) _ => decide (n = m) && kVis z i x && !isStar e && (ap.endLine == cp.line) && (b || notB A.r) && A.e z e
  | _ => false
def kSeti (I A : Ck) (i : Nat) (z : Pz) : Stmt → Bool
  | .Assign [.Subscript (.Name x _) ei _] e _ => kVis z i x && plainI ei && notB I.r && notB A.r && I.e z ei && A.e z e
  | _ => false
def kExpr (A : Ck) (z : Pz) : Stmt → Bool
  | .Expr e _ => A.e z e && !isLC e
  | _ => false
def kRaise (T : Tb) (k : Nat) (z : Pz) : Stmt → Bool
  | .Raise (some (.Call (.Name x _) [.Constant (.str _) _ _] [] _)) none _ => kGl z x && isTab T x (.ex k)
  | _ => false
def isNilC : C → Bool
  | .nil => true
  | _ => false
def isNone0 : C → Bool
  | .lit .none => true
  | _ => false
def ckS (T : Tb) (dr : Nat → Nat) : S → CkS
  | .nil => ⟨fun _ _ => false, fun _ sts => sts.isEmpty⟩
  | .seq s r =>
    let A := ckS T dr s
    let B := ckS T dr r
    ⟨fun _ _ => false, fun z sts => if isFrz s then B.many z sts else match sts with | st :: rest => A.one z st && B.many z rest | [] => false⟩
  | .asg i c => ⟨fun z st => notB (ck T dr c).r && kAsg (isComp c) (ck T dr c) i z st, fun _ _ => false⟩
  | .asgL i c => ⟨fun z st => (match (ck T dr c).r with | .n => true | _ => false) && kAsg (isComp c) (ck T dr c) i z st, fun _ _ => false⟩
  | .unp tg c => ⟨kUnp (ck T dr tg) (ck T dr c), fun _ _ => false⟩
  | .par i j a b => ⟨kPar (ck T dr a) (ck T dr b) i j, fun _ _ => false⟩
  | .par3 i j l a b c => ⟨kPar3 (ck T dr a) (ck T dr b) (ck T dr c) i j l, fun _ _ => false⟩
  | .aug i op c => ⟨kAug (ck T dr c) i op, fun _ _ => false⟩
  | .app i c => ⟨kMet "append" false (ck T dr c) i, fun _ _ => false⟩
  | .ext i c => ⟨kMet "extend" true (ck T dr c) i, fun _ _ => false⟩
  | .seti i ci c => ⟨kSeti (ck T dr ci) (ck T dr c) i, fun _ _ => false⟩
  | .expr c => ⟨kExpr (ck T dr c), fun _ _ => false⟩
  | .ite t a b =>
    let A := ckS T dr a
    let B := ckS T dr b
    ⟨fun z st => match st with | .If e p q _ => (ck T dr t).t z e && A.many z p && B.many z q | _ => false, fun _ _ => false⟩
  | .for_ tg src body =>
    let B := ckS T dr body
    ⟨fun z st => match st with | .For g it p [] _ => (ck T dr tg).g z g && (ck T dr src).i false z g it && B.many z p && plainF it && (decide (drwS dr body = 0) || cntC src) | _ => false, fun _ _ => false⟩
  | .while_ t body =>
    let B := ckS T dr body
    ⟨fun z st => match st with | .While e p [] _ => (ck T dr t).t z e && B.many z p && decide (drw dr t + drwS dr body = 0) | _ => false, fun _ _ => false⟩
  | .ret c => ⟨fun z st => match st with | .Return (some e) _ => notB (ck T dr c).r && (ck T dr c).e z e | .Return none _ => isNone0 c | _ => false, fun _ _ => false⟩
  | .raise k as => ⟨fun z st => isNilC as && kRaise T k z st, fun _ _ => false⟩
  | .brk => ⟨fun _ st => match st with | .Break _ => true | _ => false, fun _ _ => false⟩
  | .cont => ⟨fun _ st => match st with | .Continue _ => true | _ => false, fun _ _ => false⟩
  | .pass => ⟨fun _ st => match st with | .Pass _ => true | .Expr (.Constant (.str _) _ _) _ => true | _ => false, fun _ _ => false⟩
  | .frz _ => ⟨fun _ _ => false, fun _ _ => false⟩
section
variable (S : RS) (T : Tb) (Φ : Nat → List D → (D → Prop) → (Nat → Prop) → Prop) (dr : Nat → Nat)
structure SndS (k : CkS) (s : Y.S) : Prop where
  one : ∀ {R z X Ed}, Sit S T Φ dr R z X Ed → PassesOwn (model X.prog X.w) X.A X.env X.xe → ∀ {st}, k.one z st = true → PS X st (TSx Φ dr R Ed s)
  many : ∀ {R z X Ed}, Sit S T Φ dr R z X Ed → PassesOwn (model X.prog X.w) X.A X.env X.xe → ∀ {sts}, k.many z sts = true → PSs X sts (TSx Φ dr R Ed s)
end
section
variable {S : RS} {T : Tb} {Φ : Nat → List D → (D → Prop) → (Nat → Prop) → Prop} {dr : Nat → Nat}
variable {R : RT} {z : Pz} {X : Cx} {Ed : Nat → Prop} {x l r : Expr} {xs : List Expr} {a b c : C} {pos : Pos} {st : Stmt}
theorem n2d_read {σ : St} {H : Hp} {Q : VK} (h : TEx Φ exName dr R (rlD R) Ed c σ H Q) : TEx Φ exName dr R (rlN R) Ed c σ H Q := by
  obtain ⟨n, F, ρ, Qd, E, hn, hw, k⟩ := h
  exact ⟨n, F, ρ, Qd, E, hn, hw, fun d v F' H' q x r => let ⟨F2, x2, r2⟩ := RN.freeze E x r; k d v F2 H' q x2 r2⟩
theorem onlyOne {f : Pz → Stmt → Bool} {s : Y.S} (h : ∀ {R z X Ed}, Sit S T Φ dr R z X Ed → PassesOwn (model X.prog X.w) X.A X.env X.xe → ∀ {st}, f z st = true → PS X st (TSx Φ dr R Ed s)) : SndS S T Φ dr ⟨f, fun _ _ => false⟩ s :=
  ⟨h, fun _ _ _ q => (by cases q)⟩
/-- name = e, in whatever way it is stored -/
theorem asg_all {i : Nat} (s : Sit S T Φ dr R z X Ed) (hk : kAsg (isComp c) (ck T dr c) i z st = true) :
    (notB (ck T dr c).r = true → PS X st (tAsg (TEx Φ exName dr R (rlD R) Ed c) (gName i))) ∧ ((ck T dr c).r = .n → PS X st (tAsg (TEx Φ exName dr R (rlN R) Ed c) (gName i))) := by
  unfold kAsg at hk
  split at hk
  · rename_i y p e pos
    simp only [Bool.and_eq_true, Bool.or_eq_true, Bool.not_eq_true', decide_eq_true_eq] at hk
    obtain ⟨⟨h1, h2⟩, h3⟩ := hk
    obtain ⟨g1, g2, g3⟩ := kLoc_ok s h1
    have pe := (snd (S := S) (Φ := Φ) c).e s h2
    have plain : swapsWith e (some (.Name y p)) pos.line X.env = pure false → _ := fun hs => (⟨fun n => ps_set s.A.nd g1 g2 (toD pe n) hs g3, fun n => ps_set s.A.nd g1 g2 (by rw [n] at pe; exact pe) hs g3⟩ :
      (notB (ck T dr c).r = true → PS X (.Assign [.Name y p] e pos) (tAsg (TEx Φ exName dr R (rlD R) Ed c) (gName i))) ∧ ((ck T dr c).r = .n → PS X (.Assign [.Name y p] e pos) (tAsg (TEx Φ exName dr R (rlN R) Ed c) (gName i))))
    rcases h3 with h3 | ⟨h3, hkd⟩
    · exact plain (sw_plain h3)
    · cases c with
      | comp own el tg src ifs =>
        obtain ⟨elt, tge, iter, fs, scope, lp, rfl, f1, f2, f3, f4, f5, f6, f7, f8⟩ := kComp_ok (A := ck T dr el) (snd (S := S) (Φ := Φ) el) (snd src) (snd tg) (snd ifs) s h2
        cases hb : swB z y p (.ListComp elt [⟨tge, iter, fs, 0⟩] scope lp) with
        | false => exact plain (sw_no s.A.hs hkd hb)
        | true =>
          unfold swB at hb
          simp only [Bool.and_eq_true, Bool.not_eq_true'] at hb
          obtain ⟨⟨b1, b2⟩, b3⟩ := hb
          have hl : X.env.scope.names.lookup y = some .local := by rw [s.A.hs]; exact eq_of_beq b1
          have go := ps_setLc (spos := pos) s.A.calm s.A.nd g1 hl (sw_true (by rw [s.A.hs]; exact hkd) hl b2 b3) f1 f2 f3 f4 f5 f6
          exact ⟨fun _ => PSw go fun D σ H h => comp_read f7 f8 (n2d_read h), fun _ => PSw go fun D σ H h => comp_read f7 f8 h⟩
      | comp2 own vs1 el tg src ifs tg1 src1 ifs1 =>
        obtain ⟨elt, tge, iter, fs, tge1, iter1, fs1, scope, lp, rfl, f1, f2, f3, f4, f5, f6, f7, f8, f9, f10, f11, f12, f13, f14⟩ := kComp2_ok (snd (S := S) (Φ := Φ) el) (snd src) (snd tg) (snd ifs) (snd src1) (snd tg1) (snd ifs1) s h2
        cases hb : swB z y p (.ListComp elt [⟨tge, iter, fs, 0⟩, ⟨tge1, iter1, fs1, 0⟩] scope lp) with
        | false => exact plain (sw_no s.A.hs hkd hb)
        | true =>
          unfold swB at hb
          simp only [Bool.and_eq_true, Bool.not_eq_true'] at hb
          obtain ⟨⟨b1, b2⟩, b3⟩ := hb
          have hl : X.env.scope.names.lookup y = some .local := by rw [s.A.hs]; exact eq_of_beq b1
          have go := ps_setLc2 (spos := pos) s.A.calm s.A.nd g1 hl (sw_true (by rw [s.A.hs]; exact hkd) hl b2 b3) f1 f2 f3 f4 f5 f6 f7 f8 f9 f10 f11
          exact ⟨fun _ => PSw go fun D σ H h => comp2_read f12 f13 f14 (n2d_read h), fun _ => PSw go fun D σ H h => comp2_read f12 f13 f14 h⟩
      | _ => cases h3
  · cases hk
theorem sndS (s : Y.S) : SndS S T Φ dr (ckS T dr s) s := by
  induction s with
  | nil =>
    refine ⟨?_, ?_⟩
    · intro R z X Ed si po st q
      cases q
    · intro R z X Ed si po sts q
      cases sts with
      | nil => exact ns_nil
      | cons _ _ => cases q
  | seq s r hs hr =>
    refine ⟨?_, ?_⟩
    · intro R z X Ed si po st q
      cases q
    intro R z X Ed si po sts q
    simp only [ckS] at q
    split at q
    · cases s with
      | frz i => exact ns_frz (hr.many si po q)
      | _ => rename_i h; cases h
    · split at q
      · rw [Bool.and_eq_true] at q
        exact ns_seq (hs.one si po q.1) (hr.many si po q.2)
      · cases q
  | frz i => exact onlyOne fun _ _ _ q => (by cases q)
  | asg i c =>
    refine onlyOne fun si po st q => ?_
    rw [Bool.and_eq_true] at q
    exact PSw ((asg_all si q.2).1 q.1) fun D σ H h => asg_ok h
  | asgL i c =>
    refine onlyOne fun si po st q => ?_
    rw [Bool.and_eq_true] at q
    have hn : (ck T dr c).r = .n := by
      have := q.1
      split at this
      · assumption
      · cases this
    exact PSw ((asg_all si q.2).2 hn) fun D σ H h => asgL_ok h
  | unp tg c =>
    refine onlyOne fun si po st q => ?_
    unfold kUnp at q
    split at q
    · rename_i es k p e pos
      simp only [Bool.and_eq_true] at q
      obtain ⟨⟨⟨q1, q2⟩, q3⟩, q4⟩ := q
      refine ns_unp (toD ((snd c).e si q3) q2) ((snd (S := S) (Φ := Φ) tg).g si q1) sw_soleT ?_ rfl
      split at q4
      · rw [Bool.or_eq_true] at q4
        rcases q4 with q4 | q4
        · exact ss_long (by rw [Bool.not_eq_true'] at q4; exact q4)
        · exact ss_fold q4
      · rename_i hne
        exact ss_plain fun vs j q e => hne _ _ _ e
    · cases q
  | par i j a b =>
    refine onlyOne fun si po st q => ?_
    unfold kPar at q
    split at q
    · simp only [Bool.and_eq_true, Bool.not_eq_true', decide_eq_true_eq] at q
      obtain ⟨⟨⟨⟨⟨⟨⟨⟨⟨⟨⟨⟨⟨⟨⟨q1, q2⟩, q3⟩, q4⟩, q5⟩, q6⟩, q7⟩, q8⟩, q9⟩, q10⟩, q11⟩, q12⟩, q13⟩, q14⟩, q15⟩, q16⟩ := q
      refine PSw (ps_par si.A.calm si.A.nd (by rw [si.A.hN]; exact q1) (by rw [si.A.hN]; exact q2) q3 (by rw [si.A.hs]; exact q5) (by rw [si.A.hs]; exact q6)
        (nd_acons (rl := rlD _) rlD_ok q9 (toD ((snd a).e si q15) q13) (nd_acons (rl := rlD _) rlD_ok q10 (toD ((snd b).e si q16) q14) nd_anil)) (ss_two si.A.hs q4 q5 q6 q7 q8 q9 q10 q11 q12) sw_soleT) fun D σ H h => par_ok h
    · cases q
  | par3 i j l a b c =>
    refine onlyOne fun si po st q => ?_
    unfold kPar3 at q
    split at q
    · simp only [Bool.and_eq_true, Bool.not_eq_true', decide_eq_true_eq] at q
      obtain ⟨⟨⟨⟨⟨⟨⟨⟨⟨⟨⟨⟨⟨⟨⟨⟨⟨⟨⟨⟨⟨⟨⟨⟨⟨q1, q2⟩, q3⟩, q4⟩, q5⟩, q6⟩, q7⟩, q8⟩, q9⟩, q10⟩, q11⟩, q12⟩, q13⟩, q14⟩, q15⟩, q16⟩, q17⟩, q18⟩, q19⟩, q20⟩, q21⟩, q22⟩, q23⟩, q24⟩, q25⟩, q26⟩ := q
      refine PSw (L2.ps_par3 si.A.calm si.A.nd (by rw [si.A.hN]; exact q1) (by rw [si.A.hN]; exact q2) (by rw [si.A.hN]; exact q3) q4 q5 q6 (by rw [si.A.hs]; exact q8) (by rw [si.A.hs]; exact q9) (by rw [si.A.hs]; exact q10)
        (nd_acons (rl := rlD _) rlD_ok q16 (toD ((snd a).e si q24) q21) (nd_acons (rl := rlD _) rlD_ok q17 (toD ((snd b).e si q25) q22) (nd_acons (rl := rlD _) rlD_ok q18 (toD ((snd c).e si q26) q23) nd_anil))) (ss_three si.A.hs q7 q8 q9 q10 q11 q12 q13 q14 q15 q16 q17 q18 q19 q20) sw_soleT) fun D σ H h => par3_ok h
    · cases q
  | aug i op c =>
    refine onlyOne fun si po st q => ?_
    unfold kAug at q
    split at q
    · simp only [Bool.and_eq_true, decide_eq_true_eq] at q
      obtain ⟨⟨⟨q1, q2⟩, q3⟩, q4⟩ := q
      obtain ⟨g1, g2, g3⟩ := kLoc_ok si q2
      rw [q1]
      exact ns_aug si.A.nd g1 g2 g3 (toD ((snd c).e si q4) q3)
    · cases q
  | app i c =>
    refine onlyOne fun si po st q => ?_
    unfold kMet at q
    split at q
    · simp only [Bool.and_eq_true, Bool.not_eq_true', decide_eq_true_eq, Bool.false_or] at q
      obtain ⟨⟨⟨⟨⟨q1, q2⟩, q3⟩, q4⟩, q5⟩, q6⟩ := q
      obtain ⟨g1, g2, g3, g4⟩ := kVis_ok si q2
      exact ns_app q1 g1 g2 g3 g4 q3 q4 (toD ((snd c).e si q6) q5)
    · cases q
  | ext i c =>
    refine onlyOne fun si po st q => ?_
    unfold kMet at q
    split at q
    · simp only [Bool.and_eq_true, Bool.not_eq_true', decide_eq_true_eq] at q
      obtain ⟨⟨⟨⟨⟨q1, q2⟩, q3⟩, q4⟩, q5⟩, q6⟩ := q
      obtain ⟨g1, g2, g3, g4⟩ := kVis_ok si q2
      exact ns_ext q1 g1 g2 g3 g4 q3 q4 (toB ((snd c).e si q6))
    · cases q
  | seti i ci c =>
    refine onlyOne fun si po st q => ?_
    unfold kSeti at q
    split at q
    · rename_i y p ei tp e pos
      simp only [Bool.and_eq_true] at q
      obtain ⟨⟨⟨⟨⟨q1, q2⟩, q3⟩, q4⟩, q5⟩, q6⟩ := q
      obtain ⟨g1, g2, g3, g4⟩ := kVis_ok si q1
      refine ns_seti g1 g2 g3 g4 (fun v => ?_) sw_soleS (toD ((snd c).e si q6) q4) (toD ((snd ci).e si q5) q3)
      cases ei <;> first | rfl | (simp only [plainI] at q2; cases q2)
    · cases q
  | expr c =>
    refine onlyOne fun si po st q => ?_
    unfold kExpr at q
    split at q
    · simp only [Bool.and_eq_true, Bool.not_eq_true'] at q
      exact ns_expr ((snd c).e si q.1) (sw_plain q.2)
    · cases q
  | ite t a b ha hb =>
    refine onlyOne fun si po st q => ?_
    split at q
    · simp only [Bool.and_eq_true] at q
      exact ns_if ((snd t).t si q.1.1) (ha.many si po q.1.2) (hb.many si po q.2)
    · cases q
  | for_ tg src body hb =>
    refine onlyOne fun si po st q => ?_
    split at q
    · simp only [Bool.and_eq_true, Bool.or_eq_true, decide_eq_true_eq] at q
      obtain ⟨⟨⟨⟨q1, q2⟩, q3⟩, q4⟩, q5⟩ := q
      exact ns_for po si.A.calm ((snd src).i si q2) ((snd (S := S) (Φ := Φ) tg).g si q1) (hb.many si po q3) (plainF_ok q4) q5
    · cases q
  | while_ t body hb =>
    refine onlyOne fun si po st q => ?_
    split at q
    · simp only [Bool.and_eq_true, decide_eq_true_eq] at q
      exact ns_while po ((snd t).t si q.1.1) (hb.many si po q.1.2) q.2
    · cases q
  | ret c =>
    refine onlyOne fun si po st q => ?_
    split at q
    · simp only [Bool.and_eq_true] at q
      exact ns_ret (toD ((snd c).e si q.2) q.1)
    · unfold isNone0 at q
      split at q
      · exact ns_retN
      · cases q
    · cases q
  | raise k as =>
    refine onlyOne fun si po st q => ?_
    rw [Bool.and_eq_true] at q
    obtain ⟨q1, q2⟩ := q
    cases as with
    | nil =>
      unfold kRaise at q2
      split at q2
      · rw [Bool.and_eq_true] at q2
        have h := kTab_ok si q2.2
        have := h _ si.A.hP si.A.hw si.A.hK si.A.hm si.A.hb (kGl_ok si q2.1)
        refine ns_raise si.A.calm si.w ?_
        have e : ∀ R : RT, R.S = S → R.ex k = S.ex k := fun R h => by rw [← h]
        rw [e _ si.hS]
        exact this _ _ _ _ _
      · cases q2
    | _ => cases q1
  | brk =>
    refine onlyOne fun si po st q => ?_
    split at q
    · exact ns_brk
    · cases q
  | cont =>
    refine onlyOne fun si po st q => ?_
    split at q
    · exact ns_cont
    · cases q
  | pass =>
    refine onlyOne fun si po st q => ?_
    split at q
    · exact ns_pass ps_pass
    · exact ns_pass ps_doc
    · cases q
end
end Y

/-! part Y14 -/
set_option Elab.async false
set_option linter.all false
set_option maxRecDepth 100000
set_option maxHeartbeats 1000000
/-! Y14: a def keeps its promise. -/
namespace Y
open PySem PySem.Spec
open PyProof.Rows hiding St
open L2
open C8 (scC fnScope_by)
/-- a def's slots at its entry -/
def initE (N : List Str) (ds : List D) : Ev := ds.map (fun d => some (.sh d)) ++ List.replicate (N.length - ds.length) none
/-- the ends of a def's body -/
def endF (Q : D → Prop) (E : Nat → Prop) : En := ⟨fun _ => Q .N, Q, fun _ => False, fun _ => False, E⟩
theorem initE_get {N : List Str} {ds : List D} {i : Nat} {s : Sl} (h : (initE N ds)[i]? = some (some s)) : ∃ d, ds[i]? = some d ∧ s = .sh d := by
  unfold initE at h
  rw [List.getElem?_append] at h
  split at h
  · rw [List.getElem?_map] at h
    cases q : ds[i]? with
    | none => rw [q] at h; cases h
    | some d =>
      rw [q] at h
      exact ⟨d, rfl, by cases h; rfl⟩
  · rw [List.getElem?_replicate] at h
    split at h <;> cases h
theorem RA.get {R : RT} {F : Addr → Prop} {H : Hp} : ∀ {vs : List V} {ds : List D} {i : Nat} {d : D}, RA R F H vs ds → ds[i]? = some d → ∃ v, vs[i]? = some v ∧ RD R F H v d
  | [], [], _, _, _, e => by simp at e
  | v :: vs, d :: ds, 0, _, ⟨a, b⟩, e => by simp at e; subst e; exact ⟨v, rfl, a⟩
  | v :: vs, d :: ds, i + 1, _, ⟨a, b⟩, e => by
    obtain ⟨w, h1, h2⟩ := RA.get b (by simpa using e)
    exact ⟨w, by simpa using h1, h2⟩
  | [], _ :: _, _, _, h, _ => h.elim
  | _ :: _, [], _, _, h, _ => h.elim
theorem start_get {N : List Str} {vs : List V} {i : Nat} {v : V} (h : vs[i]? = some v) : (L2.start N vs)[i]? = some (some v) := by
  have hl := (List.getElem?_eq_some_iff.mp h).1
  unfold L2.start
  rw [List.getElem?_append_left (by simpa using hl), List.getElem?_map, h]
  rfl
theorem init_ok {S : RS} {sa : SA} {n m : Nat} {F : Addr → Prop} {H : Hp} {vs : List V} {ds : List D} {N : List Str} (B : Bef ⟨S, sa, m, H, F⟩ n F H) (r : RA ⟨S, sa, m, H, F⟩ F H vs ds) (hl : vs.length ≤ N.length) :
    EnvOk ⟨S, sa, m, H, F⟩ n F (L2.start N vs) H (initE N ds) := by
  refine ⟨.refl, B.st, B.s0, B.fs, B.fr, fun a h => .inl h, ?_, fun i s h => ?_, fun i j a ps qs h1 h2 h3 h4 => ?_⟩
  · unfold initE L2.start
    simp only [List.length_append, List.length_map, List.length_replicate, r.length]
  · obtain ⟨d, h1, rfl⟩ := initE_get h
    obtain ⟨v, g1, g2⟩ := r.get h1
    exact ⟨v, start_get g1, g2⟩
  · obtain ⟨d, _, e⟩ := initE_get h1
    cases e
/-- what the checker asks of a def -/
structure FnC (T : Tb) (dr : Nat → Nat) (k : Nat) (N ps : List Str) (sc : Scope) (body : List Stmt) (b : S) (L : Nat) : Prop where
  hsc : scC N ps sc = true
  ok : (ckS T dr b).many ⟨N, sc, none, L, false⟩ body = true
  dw : drwS dr b ≤ dr k
  lv : T.lv k = L + 1
def fnCk (T : Tb) (dr : Nat → Nat) (k : Nat) (N ps : List Str) (sc : Scope) (body : List Stmt) (b : S) (L : Nat) : Bool :=
  scC N ps sc && (ckS T dr b).many ⟨N, sc, none, L, false⟩ body && decide (drwS dr b ≤ dr k) && decide (T.lv k = L + 1)
theorem fnCk_ok {T : Tb} {dr : Nat → Nat} {k : Nat} {N ps : List Str} {sc : Scope} {body : List Stmt} {b : S} {L : Nat} (h : fnCk T dr k N ps sc body b L = true) : FnC T dr k N ps sc body b L := by
  unfold fnCk at h
  simp only [Bool.and_eq_true, decide_eq_true_eq] at h
  exact ⟨h.1.1.1, h.1.1.2, h.1.2, h.2⟩
section
variable {S : RS} {T : Tb} {Φ : Nat → List D → (D → Prop) → (Nat → Prop) → Prop} {dr : Nat → Nat}
/-- THE RULE: a def of the text, by its core -/
theorem fheld {k : Nat} {x : Str} {N ps : List Str} {params : Arguments} {body : List Stmt} {sc : Scope} {fd : FuncData} {b : Y.S} {L : Nat} (bs : Bas S T) (C : FnC T dr k N ps sc body b L) (F : FunD S.K x x params body sc [] [] (S.fa k) fd) (bi : Binds S.K fd ps [])
    (fh : ∀ j, T.lv j ≤ L → FHeld S Φ dr T.lv j) (hΦ : ∀ ds Q E, Φ k ds Q E → ds.length = ps.length ∧ wpS Φ exName b (initE N ds) (endF Q E)) : FHeld S Φ dr T.lv k := by
  have FS := fnScope_by C.hsc
  refine ⟨⟨_, ps, ?_, bi⟩, F.kp⟩
  rw [C.lv]
  refine F.ok FS (fun vs H Q E ⟨sa, n, F, ds, Qd, Ed, B, hn, ra, hp, _⟩ => ra.length.trans (hΦ _ _ _ hp).1) fun cdv A outer s H vs Q E hr ⟨sa, n, F, ds, Qd, Ed, B, hn, ra, hp, kq, ke⟩ => ?_
  obtain ⟨hlen, hw⟩ := hΦ _ _ _ hp
  have hNp : ps.length ≤ N.length := by
    have := congrArg List.length FS.pre
    rw [List.length_take] at this
    omega
  let R : RT := ⟨S, sa, n + dr k, H, F⟩
  let X := cxOf (L2N.CX S.P S.w) S.P S.w S.K S.mg S.base N x sc (S.fa k) cdv A outer s H E
  have E0 : EnvOk R n F (L2.start N vs) H (initE N ds) := init_ok B ra (by rw [ra.length, hlen]; exact hNp)
  have si : Sit S T Φ dr R ⟨N, sc, none, L, false⟩ X Ed := {
    A := { hP := rfl, hw := rfl, hK := rfl, hm := rfl, hb := rfl, hN := rfl, nd := FS.nd, hs := rfl, hf := fun _ _ => rfl, calm := rfl, hr := hr, hg := fun z => (by cases z) }
    hS := rfl
    w := ⟨⟨_, L2N.takes_of rfl rfl rfl rfl, fun j σ H' q x st => ke j H' q x st⟩, hn⟩
    bs := bs
    fh := fh
    lw := fun z => (by cases z) }
  refine ⟨_, (sndS b).many si (passes_of rfl) C.ok, n, F, initE N ds, _, E0, Nat.le_trans (Nat.add_le_add_left C.dw n) (Nat.le_refl _), hw, rfl, fun ρ' σ' F' H' q x => ?_, fun _ _ _ _ q _ => q.elim, fun _ _ _ _ q _ => q.elim, fun d v ρ' σ' F' H' q x r => ?_⟩
  · have x2 : NxS R (n + dr k) F H σ' ρ' F' H' := x.mono (Nat.add_le_add_left C.dw n)
    exact kq .N .non F' H' q ⟨x2.env.ext, x2.env.st, x2.sub, x2.env.fr, x2.env.new, x2.env.fs⟩ .non
  · have x2 : NxS R (n + dr k) F H σ' ρ' F' H' := x.mono (Nat.add_le_add_left C.dw n)
    exact kq d v F' H' q ⟨x2.env.ext, x2.env.st, x2.sub, x2.env.fr, x2.env.new, x2.env.fs⟩ r
/-- a promise of nothing -/
theorem fheld0 {lv : Nat → Nat} {k : Nat} {x : Str} {ps : List Str} {params : Arguments} {body : List Stmt} {sc : Scope} {fd : FuncData} (F : FunD S.K x x params body sc [] [] (S.fa k) fd) (bi : Binds S.K fd ps [])
    (h0 : ∀ ds Q E, ¬ Φ k ds Q E) : FHeld S Φ dr lv k :=
  ⟨⟨_, ps, ⟨fun vs H Q E ⟨sa, n, F, ds, Qd, Ed, B, hn, ra, hp, _⟩ => absurd hp (h0 _ _ _), fun A outer s H args us vs Q E hr he hb hv ⟨sa, n, F, ds, Qd, Ed, B, hn, ra, hp, _⟩ => absurd hp (h0 _ _ _)⟩, bi⟩, F.kp⟩
/-- a def's name for another of its promises -/
theorem bas_cons {gt : List (Str × Gk)} {lv : Nat → Nat} {x : Str} {k : Nat} (b : Bas S ⟨gt, lv⟩) (h : GkOk S x (.fn k)) : Bas S ⟨(x, .fn k) :: gt, lv⟩ := by
  refine ⟨fun y g e => ?_⟩
  have e : (match y == x with | true => some (Gk.fn k) | false => gt.lookup y) = some g := e
  split at e
  · rename_i q
    cases e
    rw [eq_of_beq q]
    exact h
  · exact b.g y g e
end
end Y

/-! part Y22 -/
set_option Elab.async false
set_option linter.all false
set_option maxRecDepth 100000
set_option maxHeartbeats 2000000
/-! Y22: the law is called from the place where it is called, one table of code objects. -/
namespace Y
open PySem PySem.Spec
open PyProof.Rows hiding St
open L2 LamX
/-- what is tracked at the law's call: the table at t, the script at a (if K does not know it) -/
def lawH (K : PySem.W.Frag) (t a : Addr) (o : Obj) (xs : List V) : Hp := fun b => if b = t then some (.tbl #[]) else if b = a ∧ K.lookup a = none then some (.frz o (.lst xs)) else none
section
variable {P : Program} {w : World} {K : PySem.W.Frag} {mg mb : Str → Option Value} {cx : CXT} {fa a c t : Addr} {s₁ : Shared} {vs : List Value} {ns : List Int}
theorem lawH_t {o : Obj} {xs : List V} : lawH K t a o xs t = some (.tbl #[]) := if_pos rfl
theorem lawH_some {o : Obj} {xs : List V} {b : Addr} {u : HO} (h : lawH K t a o xs b = some u) : (b = t ∧ u = .tbl #[]) ∨ (b ≠ t ∧ b = a ∧ K.lookup a = none ∧ u = .frz o (.lst xs)) := by
  unfold lawH at h
  split at h
  · exact .inl ⟨by assumption, (Option.some.inj h).symm⟩
  · split at h
    · rename_i z
      exact .inr ⟨by assumption, z.1, z.2, (Option.some.inj h).symm⟩
    · cases h
theorem law_callG (KX : K.In s₁.heap) (hns : s₁.heap.Ns mainGlobals mg) (hb : s₁.heap.Ns builtinsNs mb) (hbb : ∀ x : Str, x ≠ "__name__" → mb x = bootBuiltins x) (hlim : s₁.heap.NoLimit) (hg : s₁.gens = #[])
    (hT : s₁.heap.get? t = some { cls := .none, data := .fields #[] }) (nT : K.lookup t = none) (C : PySem.W.CodeHd s₁.heap c t)
    (hbm : ∃ (bm : Addr) (ob : Obj), mg "__builtins__" = some (.ref bm) ∧ bm ≠ builtinsNs ∧ s₁.heap.get? bm = some ob ∧ ob.cls = .type "module" ∧ ob.dict = some builtinsNs ∧ ob.data = .plain)
    (ha : s₁.heap.get? a = some { cls := .type "list", data := .seq vs.toArray }) (hi : IntsAre vs ns) (hl : ns.length ≤ sizeLine)
    (F : ∀ (base : Heap) (H : Hp), K.In base → base.Ns mainGlobals mg → TabB base mg c t → Env0 P w K mg base callerA [] s₁ H → H t = some (.tbl #[]) → FzL K H a (ns.map V.int) →
      codeAny (model P w) callerA (.call (.ref fa) ⟨[.ref a], []⟩) (CR cx [] P w H s₁ (fun v _ => v = .bl true) fun _ _ _ => False) s₁)
    (hCX : ∀ H e s', cx [] H s₁ (fun _ _ _ => False) e s' → False) :
    codeAny (model P w) callerA (.call (.ref fa) ⟨[.ref a], []⟩) (fun r s' => r = .ok (.ret (.bool true)) ∧ OldK s₁.heap s'.heap ∧ s'.os = s₁.os ∧ AllBare s'.gens) s₁ := by
  have rv := vals_ints hi
  have hat : a ≠ t := fun z => by
    rw [z, hT] at ha
    cases Option.some.inj ha
  obtain ⟨oa, hoa⟩ : ∃ oa : Obj, oa = { cls := .type "list", data := .seq vs.toArray } := ⟨_, rfl⟩
  obtain ⟨H, hH⟩ : ∃ H : Hp, H = lawH K t a oa (ns.map V.int) := ⟨_, rfl⟩
  have hHt : H t = some (.tbl #[]) := by rw [hH]; exact lawH_t
  have some_of : ∀ {b : Addr} {u : HO}, H b = some u → (b = t ∧ u = .tbl #[]) ∨ (b ≠ t ∧ b = a ∧ K.lookup a = none ∧ u = .frz oa (.lst (ns.map V.int))) := fun {b u} h => lawH_some (by rw [← hH]; exact h)
  -- an object that is neither is not tracked
  have free : ∀ {b : Addr} {o : Obj}, s₁.heap.get? b = some o → (∀ x n, o.data ≠ .seq x n) → o.data ≠ .fields #[] → H b = none := fun {b o} e d1 d2 => by
    cases q : H b with
    | none => rfl
    | some u =>
      rcases some_of q with ⟨z, _⟩ | ⟨_, z, _⟩
      · rw [z, hT] at e; cases e; exact absurd rfl d2
      · rw [z, ha] at e; cases e; exact absurd rfl (d1 _ _)
  have inB : ∀ {b : Addr} {o : Obj}, s₁.heap.get? b = some o → H b = none → (hidT s₁.heap H).get? b = some o := fun e n => hidT_get e n
  have nsB : ∀ {b : Addr} {m : Str → Option Value}, s₁.heap.Ns b m → (hidT s₁.heap H).Ns b m := fun {b m} ⟨o, es, ep, e, d, r⟩ =>
    ⟨o, es, ep, inB e (free e (fun x n z => by rw [d] at z; cases z) fun z => by rw [d] at z; cases z), d, r⟩
  have hKb : K.In (hidT s₁.heap H) := fun b o e => inB (KX b o e) (by
    cases q : H b with
    | none => rfl
    | some u =>
      rcases some_of q with ⟨z, _⟩ | ⟨_, z, n, _⟩
      · rw [z, nT] at e; cases e
      · rw [z, n] at e; cases e)
  have hM : L2.Mod K mg (hidT s₁.heap H) := ⟨hKb, nsB hns, ⟨mb, nsB hb, hbb⟩, let ⟨mc, h1, h2⟩ := hlim; ⟨mc, nsB h1, h2⟩⟩
  have TB : TabB (hidT s₁.heap H) mg c t := by
    refine ⟨?_, ?_, fun z => ?_⟩
    · obtain ⟨o, us, file, tf, flags, tg, inF, text, tt, e1, r1, r2, r3, r4, r5, r6, r7, r8, hne⟩ := C
      refine ⟨o, us, file, tf, flags, tg, inF, text, tt, inB e1 (free e1 (fun x n z => ?_) fun z => ?_), r1, r2, r3, r4, r5, r6, r7, r8, hne⟩
      · rw [r2] at z; cases z
      · rw [r2] at z; cases z; simp at r3
    · obtain ⟨bm, ob, b1, b2, b3, b4, b5, b6⟩ := hbm
      refine ⟨bm, ob, b1, b2, fun q => ?_, fun q => ?_, inB b3 (free b3 (fun x n z => ?_) fun z => ?_), b4, b5, b6⟩
      · obtain ⟨o, es, ep, e, hd, _⟩ := hns
        rw [q, e] at b3
        cases b3
        rw [hd] at b6
        cases b6
      · rw [q, hT] at b3
        cases b3
        cases b6
      · rw [b6] at z; cases z
      · rw [b6] at z; cases z
    · obtain ⟨o, es, ep, e, hd, _⟩ := hns
      rw [z, hT] at e
      cases e
      cases hd
  have hok : HOk P w H s₁.heap := fun b u q => by
    rcases some_of q with ⟨z, e⟩ | ⟨_, z, _, e⟩
    · subst z e; exact hT
    · subst z e
      exact ⟨by rw [hoa]; exact ha, by rw [List.length_map]; exact hl, vs, _, rv, ha⟩
  have hS : FzL K H a (ns.map V.int) := by
    cases q : K.lookup a with
    | some o =>
      have e := KX a o q
      rw [ha] at e
      cases e
      have go : ∀ H : Hp, SqL K H a (ns.map V.int) := fun H => .inr ⟨_, vs.toArray, _, q, rfl, rfl, rfl, by rw [List.size_toArray, hi.length]; exact hl, by simpa using rv⟩
      exact ⟨go H, fun H' _ => go H'⟩
    | none =>
      have e : H a = some (.frz oa (.lst (ns.map V.int))) := by
        rw [hH]
        unfold lawH
        rw [if_neg hat, if_pos ⟨rfl, q⟩]
      exact ⟨.inl (.inr ⟨oa, e⟩), fun H' k => .inl (.inr ⟨oa, k _ _ e trivial⟩)⟩
  have e0 : Env0 P w K mg (hidT s₁.heap H) callerA [] s₁ H := ⟨rfl, hM, fun b o e => of_hidT e, Nat.le_of_eq (hidT_size _ _), trivial, fun b hb => absurd (show b ∈ ([] : List Addr) from hb) (by simp), hok, .of_eq hg⟩
  refine codeAny_mono (F _ H hKb (nsB hns) TB e0 hHt hS) fun r s' h => ?_
  cases r with
  | error e => exact (hCX H e s' h).elim
  | ok fl =>
    cases fl with
    | next => exact False.elim h
    | brk => exact False.elim h
    | cont => exact False.elim h
    | ret u =>
      obtain ⟨v, H', os, bare, un, hok', r', q⟩ := h
      have q' : v = .bl true := q
      subst q'
      obtain rfl : u = Value.bool true := r'
      obtain ⟨more, ht⟩ := un.tbls t #[] hHt
      have gr := hok' t _ ht
      have key : ∀ b o, b ≠ t → s₁.heap.get? b = some o → s'.heap.get? b = some o := fun b o nb e => by
        cases q : H b with
        | none => exact un.keep b o e q (by intro z; exact absurd (show b ∈ ([] : List Addr) from z) (by simp)) (by simp)
        | some u =>
          rcases some_of q with ⟨z, _⟩ | ⟨_, z, _, eu⟩
          · exact absurd z nb
          · rw [eu] at q
            obtain ⟨e2, _⟩ := hok' b _ (un.frzs b _ _ q)
            obtain ⟨e1, _⟩ := hok b _ q
            rw [e] at e1
            cases e1
            exact e2
      refine ⟨rfl, ⟨fun b o e => ?_, fun b o e => ?_⟩, os, bare⟩
      · by_cases hb : b = t
        · rw [hb] at e ⊢
          rw [hT] at e
          cases e
          exact .inr (.inl ⟨(C.tab hT).isCodeTable, rfl, #[], more, rfl, gr⟩)
        · exact .inl (key b o hb e)
      · by_cases hb : b = t
        · rw [hb]; exact ⟨_, gr⟩
        · exact ⟨o, key b o hb e⟩
end
end Y

/-! part Y23 -/
set_option Elab.async false
set_option linter.all false
set_option maxRecDepth 100000
set_option maxHeartbeats 2000000
/-! Y23: the law's own numbers: the next one. -/
namespace Y
open PySem PySem.Spec
open PyProof.Rows hiding St
open L2
def isV (x : Str) : Expr → Bool
  | .Name y _ => decide (y = x)
  | _ => false
def isI (i : Int) : Expr → Bool
  | .Constant (.int j) _ _ => decide (j = i)
  | _ => false
/-- state[i] -/
def isS (i : Int) : Expr → Bool
  | .Subscript a b _ => isV "state" a && isI i b
  | _ => false
/-- len(state[0]) -/
def isLS : Expr → Bool
  | .Call (.Name l _) [e] [] _ => decide (l = "len") && isS 0 e
  | _ => false
def isBin (f g : Expr → Bool) (o : Operator) : Expr → Bool
  | .BinOp a o' b _ => decide (o' = o) && f a && g b
  | _ => false
def isNx : List Stmt → Bool
  | [.Assign [.Subscript s1 i1 _] e1 _, .Assign [.Name t _] e2 _, .Return (some (.BinOp (.Call (.Name f _) [e3] [] _) .Mod m _)) _] =>
    isV "state" s1 && isI 1 i1 && isBin (isS 1) (isI 1) .Add e1 && decide (t = "turn") && isBin (isS 1) isLS .FloorDiv e2 && decide (f = "int") && isV "many" m &&
      isBin (isBin (fun e => match e with | .Subscript a b _ => isS 0 a && isBin (isS 1) isLS .Mod b | _ => false) (isBin (isV "turn") (isI 389) .Mult) .Add) (isBin (isBin (isS 1) (isV "turn") .Mult) (isI 17) .Mult) .Add e3
  | _ => false
def nextN : List Str := ["state", "many", "turn"]
def nextSc (sc : Scope) : Bool := C8.scC nextN ["state", "many"] sc && kE sc "state" .local && kE sc "many" .local && kE sc "turn" .local && kE sc "len" .globalImplicit && kE sc "int" .globalImplicit
section
variable {X : Cx}
theorem isBin_ok {f g : Expr → Bool} {o : BO} {e : Expr} {ta tb : TE} (h : isBin f g (opM o) e = true) (hf : ∀ {e}, f e = true → PE X e ta) (hg : ∀ {e}, g e = true → PE X e tb) : PE X e (tOp (rB X.K o) ta tb) := by
  unfold isBin at h
  split at h
  · simp only [Bool.and_eq_true, decide_eq_true_eq] at h
    rw [h.1.1]
    exact pe_op (op_bin o) (hf h.1.2) (hg h.2)
  · cases h
theorem isI_ok {i : Int} {e : Expr} (h : isI i e = true) : PE X e (tC (.int i)) := by
  unfold isI at h
  split at h
  · rw [← of_decide_eq_true h]; exact pe_int
  · cases h
theorem isV_ok {x : Str} {i : Nat} {e : Expr} (hN : X.N[i]? = some x) (hv : Vis X.env.scope x) (hd : (x == ("__debug__" : Str)) = false) (hc : (x == ("__classdict__" : Str)) = false) (h : isV x e = true) : PE X e (tVar i) := by
  unfold isV at h
  split at h
  · rw [of_decide_eq_true h]; exact pe_var hN hv hd hc
  · cases h
theorem isI_plain {i : Int} {e : Expr} (h : isI i e = true) : PlainIx e := by
  unfold isI at h
  split at h
  · exact fun _ _ => rfl
  · cases h
theorem isI_star {i : Int} {e : Expr} (h : isI i e = true) : isStar e = false := by
  unfold isI at h
  split at h
  · rfl
  · cases h
structure NxF (X : Cx) : Prop where
  hN : X.N = nextN
  sc : nextSc X.env.scope = true
  mL : X.mg "len" = none
  mI : X.mg "int" = none
theorem NxF.sc_ (F : NxF X) : C8.scC nextN ["state", "many"] X.env.scope = true ∧ X.env.scope.names.lookup ("state" : Str) = some .local ∧ X.env.scope.names.lookup ("many" : Str) = some .local ∧ X.env.scope.names.lookup ("turn" : Str) = some .local ∧ Gl X "len" ∧ Gl X "int" := by
  have h := F.sc
  unfold nextSc at h
  simp only [Bool.and_eq_true] at h
  exact ⟨h.1.1.1.1.1, kE_ok h.1.1.1.1.2, kE_ok h.1.1.1.2, kE_ok h.1.1.2, kE_ok h.1.2, kE_ok h.2⟩
theorem v0 (F : NxF X) {e : Expr} (h : isV "state" e = true) : PE X e (tVar 0) := isV_ok (by rw [F.hN]; rfl) (.inl F.sc_.2.1) (by decide +kernel) (by decide +kernel) h
theorem v1 (F : NxF X) {e : Expr} (h : isV "many" e = true) : PE X e (tVar 1) := isV_ok (by rw [F.hN]; rfl) (.inl F.sc_.2.2.1) (by decide +kernel) (by decide +kernel) h
theorem v2 (F : NxF X) {e : Expr} (h : isV "turn" e = true) : PE X e (tVar 2) := isV_ok (by rw [F.hN]; rfl) (.inl F.sc_.2.2.2.1) (by decide +kernel) (by decide +kernel) h
theorem isS_ok (F : NxF X) {i : Int} {e : Expr} (h : isS i e = true) : PE X e (tOp (rIx X.K) (tVar 0) (tC (.int i))) := by
  unfold isS at h
  split at h
  · rw [Bool.and_eq_true] at h
    exact pe_ix ix_seq (v0 F h.1) (isI_ok h.2) (isI_plain h.2)
  · cases h
theorem isS_star {i : Int} {e : Expr} (h : isS i e = true) : isStar e = false := by
  unfold isS at h
  split at h
  · rfl
  · cases h
theorem isLS_ok (F : NxF X) {e : Expr} (h : isLS e = true) : PE X e (tCB (fun xs H Q => ∃ p ys, xs = [.ref p] ∧ (SqL X.K H p ys ∨ SqT X.K H p ys) ∧ Q (.int ys.length) H) (tCons (tOp (rIx X.K) (tVar 0) (tC (.int 0))) tNil)) := by
  unfold isLS at h
  split at h
  · rw [Bool.and_eq_true, decide_eq_true_eq] at h
    obtain ⟨rfl, h⟩ := h
    exact pe_callB call_len_seq F.sc_.2.2.2.2.1 F.mL (by decide +kernel) (pa_cons (isS_ok F h) pa_nil (each_plain (isS_star h))) (by decide +kernel) (by decide +kernel) (each_plain (isS_star h)) rfl
  · cases h
/-- what the next number's def comes to -/
def tNx (s b : Addr) (c m : Int) (ns : List Int) (Q : VK) (H : Hp) : Prop := H s = some (.lst [V.ref b, V.int c]) ∧ H b = some (.lst (ns.map V.int)) ∧ s ≠ b ∧ 0 < ns.length ∧ ns.length ≤ 4000 ∧ 0 ≤ c ∧ c + 1 ≤ 2 ^ 4001 ∧ 0 < m ∧ ∀ x, 0 ≤ x → x < m → Q (.int x) (upd H s (.lst [V.ref b, V.int (c + 1)]))
theorem small_mul {i j : Int} {p : Nat} (hi : i.natAbs < 2 ^ p) (hj : j.natAbs < 2 ^ p) (hp : p ≤ 20000) : CMulX i j := mulx_ok hi hj (by omega)
theorem pss_next {bg : List Stmt} (F : NxF X) (h : isNx bg = true) : PSs X bg (fun D σ H => ∃ s b c m ns, σ = [some (.ref s), some (.int m), none] ∧ tNx s b c m ns D.rt H) := by
  unfold isNx at h
  split at h
  · rename_i s1 i1 p1 e1 p2 t p3 e2 p4 f p5 e3 p6 m p7 p8
    simp only [Bool.and_eq_true, decide_eq_true_eq] at h
    obtain ⟨⟨⟨⟨⟨⟨⟨h1, h2⟩, h3⟩, rfl⟩, h5⟩, rfl⟩, h7⟩, h8⟩ := h
    have hN : X.N.Nodup := (C8.fnScope_by F.sc_.1).nd |> fun z => by rw [F.hN]; exact z
    have he3 : starEach [e3] X.env = (false, eval e3 X.env) :: starEach [] X.env := by
      unfold isBin at h8
      split at h8
      · rfl
      · cases h8
    have hi1 : ∀ v, assign (.Subscript s1 i1 p1) X.env v = (do
      let ov ← holding [v] (eval s1 X.env)
      let iv ← holding [v, ov] (eval i1 X.env)
      standAt p1
      holding [v, ov, iv] (setItem ov iv v)
      release [v, ov, iv] []) := by
      unfold isI at h2
      split at h2
      · intro v; rfl
      · cases h2
    have he2 : swapsWith e2 (some (.Name "turn" p3)) p4.line X.env = pure false := by
      unfold isBin at h5
      split at h5
      · rfl
      · cases h5
    refine PSsw (pss_cons (ps_asg (isBin_ok (o := .add) h3 (isS_ok F) isI_ok) (pg_sub (v0 F h1) (isI_ok h2) set_list hi1) sw_soleS rfl rfl)
      (pss_cons (ps_set (i := 2) hN (by rw [F.hN]; rfl) (.inl F.sc_.2.2.2.1) (isBin_ok (o := .fdiv) h5 (isS_ok F) (isLS_ok F)) he2 (.inr F.sc_.2.2.2.1))
      (pss_one (ps_ret (pe_op (op_bin .mod) (pe_callTy call_int1 F.sc_.2.2.2.2.2 F.mI (by decide +kernel) (pa_cons (isBin_ok (o := .add) h8
        (fun h => isBin_ok (o := .add) h (ta := tOp (rIx X.K) (tOp (rIx X.K) (tVar 0) (tC (.int 0))) (tOp (rB X.K .mod) (tOp (rIx X.K) (tVar 0) (tC (.int 1))) (tCB (fun xs H Q => ∃ p ys, xs = [.ref p] ∧ (SqL X.K H p ys ∨ SqT X.K H p ys) ∧ Q (.int ys.length) H) (tCons (tOp (rIx X.K) (tVar 0) (tC (.int 0))) tNil)))) (fun h => by
            split at h
            · rw [Bool.and_eq_true] at h
              refine pe_ix ix_seq (isS_ok F h.1) (isBin_ok (o := .mod) h.2 (isS_ok F) (isLS_ok F)) ?_
              have h2 := h.2
              unfold isBin at h2
              split at h2
              · exact fun _ _ => rfl
              · cases h2
            · cases h) (fun h => isBin_ok (o := .mul) h (v2 F) isI_ok))
        (fun h => isBin_ok (o := .mul) h (fun h => isBin_ok (o := .mul) h (isS_ok F) (v2 F)) isI_ok)) pa_nil he3) (by decide +kernel) (by decide +kernel) he3 rfl) (v1 F h7)))))) fun D σ H ⟨s, b, c, m0, ns, e, q1, q2, q3, q4, q5, q6, q7, q8, q9⟩ => ?_
    subst e
    have q2' : ∀ v, upd H s v b = some (.lst (ns.map V.int)) := fun v => by rw [upd_ne (Ne.symm q3)]; exact q2
    -- state[1] = state[1] + 1
    refine ⟨_, rfl, .inl ⟨s, _, 1, _, rfl, rfl, SqL.of q1, rfl, .inl ⟨c, 1, rfl, rfl, ?_⟩⟩⟩
    refine ⟨_, rfl, s, _, 1, 1, rfl, rfl, q1, rfl, ?_⟩
    show tSeq _ _ _ _ (upd H s (.lst [V.ref b, V.int (c + 1)]))
    generalize hH1 : upd H s (.lst [V.ref b, V.int (c + 1)]) = H1 at q9 ⊢
    have r1 : H1 s = some (.lst [V.ref b, V.int (c + 1)]) := by rw [← hH1, upd_same]
    have r2 : H1 b = some (.lst (ns.map V.int)) := by rw [← hH1]; exact q2' _
    have hlen : ((ns.map V.int).length : Int) = ns.length := by rw [List.length_map]
    have hl2 : (ns.length : Int).natAbs.log2 < 9000 := by
      have : ns.length.log2 < 9000 := by
        rcases Nat.lt_or_ge ns.length.log2 9000 with z | z
        · exact z
        · have := Nat.log2_self_le (n := ns.length) (by omega)
          have h2 : 2 ^ 9000 ≤ 2 ^ ns.length.log2 := Nat.pow_le_pow_right (by decide) z
          have h3 : (4000 : Nat) < 2 ^ 9000 := by decide +kernel
          omega
      simpa using this
    -- turn = state[1] // len(state[0])
    refine ⟨_, rfl, .inl ⟨s, _, 1, _, rfl, rfl, SqL.of r1, rfl, _, rfl, .inl ⟨s, _, 0, _, rfl, rfl, SqL.of r1, rfl, b, _, rfl, .inl (SqL.of r2), ?_⟩⟩⟩
    refine ⟨_, _, rfl, rfl, ⟨by rw [hlen]; omega, by rw [hlen]; exact hl2⟩, ?_⟩
    generalize hturn : (c + 1).fdiv ((ns.map V.int).length : Int) = turn
    have ht0 : 0 ≤ turn := by rw [← hturn, hlen]; exact Int.fdiv_nonneg (by omega) (by omega)
    have ht1 : turn ≤ c + 1 := by
      rw [← hturn, hlen, Int.fdiv_eq_ediv_of_nonneg _ (by omega)]
      exact Int.ediv_le_self _ (by omega)
    have hc1 : (c + 1).natAbs < 2 ^ 4002 := by
      have : (2 : Int) ^ 4001 < 2 ^ 4002 := by decide +kernel
      have e : ((2 ^ 4002 : Nat) : Int) = 2 ^ 4002 := by norm_cast
      omega
    have ht2 : turn.natAbs < 2 ^ 4002 := by omega
    -- the return
    have hmod : ∃ y, atI (ns.map V.int) ((c + 1).fmod ((ns.map V.int).length : Int)) = some (V.int y) := by
      have h0 : 0 ≤ (c + 1).fmod ((ns.map V.int).length : Int) := by rw [hlen]; exact Int.fmod_nonneg_of_pos _ (by omega)
      have h1 : (c + 1).fmod ((ns.map V.int).length : Int) < ns.length := by rw [hlen]; exact Int.fmod_lt_of_pos _ (by omega)
      generalize (c + 1).fmod ((ns.map V.int).length : Int) = j at h0 h1
      unfold atI ixN
      rw [if_pos h0, if_pos (by rw [hlen]; exact h1)]
      show ∃ y, (ns.map V.int)[j.toNat]? = _
      rw [List.getElem?_map, List.getElem?_eq_getElem (by omega)]
      exact ⟨_, rfl⟩
    obtain ⟨y, hy⟩ := hmod
    have b389 : (389 : Int).natAbs < 2 ^ 4002 := by decide +kernel
    have b17 : (17 : Int).natAbs < 2 ^ 8004 := by decide +kernel
    have hmul1 : CMulX turn 389 := small_mul (p := 4002) ht2 b389 (by decide)
    have hmul2 : CMulX (c + 1) turn := small_mul (p := 4002) hc1 ht2 (by decide)
    have hmul3 : CMulX ((c + 1) * turn) 17 := by
      refine small_mul (p := 8004) ?_ b17 (by decide)
      rw [Int.natAbs_mul, show (8004 : Nat) = 4002 + 4002 from rfl, Nat.pow_add]
      exact Nat.mul_lt_mul'' hc1 ht2
    have hne : ((ns.map V.int).length : Int) ≠ 0 := by rw [hlen]; omega
    simp only [gName, List.set_cons_succ, List.set_cons_zero, hturn]
    refine ⟨_, rfl, .inl ⟨s, _, 0, _, rfl, rfl, SqL.of r1, rfl, _, rfl, .inl ⟨s, _, 1, _, rfl, rfl, SqL.of r1, rfl, _, rfl, .inl ⟨s, _, 0, _, rfl, rfl, SqL.of r1, rfl, b, _, rfl, .inl (SqL.of r2), ?_⟩⟩⟩⟩
    refine ⟨_, _, rfl, rfl, hne, .inl ⟨b, _, _, _, rfl, rfl, SqL.of r2, hy, ?_⟩⟩
    refine ⟨_, rfl, .inl ⟨turn, 389, rfl, rfl, hmul1, .inl ⟨_, _, rfl, rfl, ?_⟩⟩⟩
    refine ⟨_, rfl, .inl ⟨s, _, 1, _, rfl, rfl, SqL.of r1, rfl, _, rfl, .inl ⟨c + 1, turn, rfl, rfl, hmul2, .inl ⟨_, 17, rfl, rfl, hmul3, .inl ⟨_, _, rfl, rfl, .inl ⟨_, rfl, _, rfl, ?_⟩⟩⟩⟩⟩⟩
    exact ⟨_, _, rfl, rfl, by omega, q9 _ (Int.fmod_nonneg_of_pos _ q8) (Int.fmod_lt_of_pos _ q8)⟩
  · cases h
end
end Y

/-! part Y24 -/
set_option Elab.async false
set_option linter.all false
set_option maxRecDepth 100000
set_option maxHeartbeats 2000000
/-! Y24: the next number's promise; the law's rule. -/
namespace Y
open PySem PySem.Spec
open PyProof.Rows hiding St
open L2
open C8 (scC fnScope_by)
section
variable {S : RS} {T : Tb} {Φ : Nat → List D → (D → Prop) → (Nat → Prop) → Prop} {dr : Nat → Nat}
theorem next_held {k : Nat} {params : Arguments} {body : List Stmt} {sc : Scope} {fd : FuncData} (F : FunD S.K "_law_next" "_law_next" params body sc [] [] (S.fa k) fd) (bi : Binds S.K fd ["state", "many"] []) (hsc : nextSc sc = true) (hb : isNx body = true)
    (mL : S.mg "len" = none) (mI : S.mg "int" = none) (lv : T.lv k = 1) (hdr : dr k = 1) (hΦ : ∀ ds Q E, Φ k ds Q E → ∃ m : Int, ds = [.st, .I m] ∧ 0 < m ∧ ∀ x : Int, 0 ≤ x → x < m → Q (.I x)) : FHeld S Φ dr T.lv k := by
  have hs1 : scC nextN ["state", "many"] sc = true := by
    unfold nextSc at hsc
    simp only [Bool.and_eq_true] at hsc
    exact hsc.1.1.1.1.1
  have FS := fnScope_by hs1
  refine ⟨⟨_, ["state", "many"], ?_, bi⟩, F.kp⟩
  rw [lv]
  refine F.ok FS (fun vs H Q E ⟨sa, n, F, ds, Qd, Ed, B, hn, ra, hp, _⟩ => ?_) fun cdv A outer s H vs Q E hr ⟨sa, n, F, ds, Qd, Ed, B, hn, ra, hp, kq, ke⟩ => ?_
  · obtain ⟨m, rfl, _⟩ := hΦ _ _ _ hp
    exact ra.length
  · obtain ⟨m, rfl, hm, hq⟩ := hΦ _ _ _ hp
    rw [hdr] at hn
    refine ⟨_, pss_next ⟨rfl, hsc, mL, mI⟩ hb, ?_⟩
    match vs, ra with
    | [v, w], ⟨r1, r2, _⟩ =>
      obtain ⟨st, b, es, rfl⟩ := r1
      cases (RB.int (.inl r2))
      obtain ⟨c, ns, q1, q2, q3, q4, q5, q6, q7⟩ := B.st.1 st b es
      have nsb : st ≠ b := fun z => by
        rw [← z, q1] at q4
        have h1 := Option.some.inj q4
        injection h1 with h2
        cases ns with
        | nil => cases h2
        | cons x xs => simp at h2
      have hbig : (BIG : Int) ≤ 2 ^ 4000 := by unfold BIG; exact_mod_cast Nat.le_refl _
      have hlt : (2 : Int) ^ 4000 + 1 ≤ 2 ^ 4001 := by decide +kernel
      refine ⟨st, b, c, m, ns, rfl, q1, q4, nsb, q5, q6, q2, by omega, hm, fun x h0 h1 => ?_⟩
      refine kq (.I x) (.int x) F _ (hq x h0 h1) ?_ (.int x)
      have ne : ∀ b', NotS sa b' → b' ≠ st := fun b' h => h.1 st b es
      refine ⟨fun b' o q h => by rw [upd_ne (ne b' h)]; exact q, ⟨fun s2 b2 e2 => ?_, fun p hp => ?_⟩, fun _ h => h, fun a ha => ?_, fun _ h => .inl h, B.fs⟩
      · have e2 : sa.s = some (s2, b2) := e2
        rw [es] at e2
        cases e2
        exact ⟨c + 1, ns, upd_same, by omega, by show c + 1 ≤ ((n + dr k : Nat) : Int); rw [hdr]; omega, by rw [upd_ne (Ne.symm nsb)]; exact q4, q5, q6, q7⟩
      · obtain ⟨ps, t1, t2, t3⟩ := B.st.2 p hp
        refine ⟨ps, ?_, t2, fun pos cv hc => ?_⟩
        · rw [upd_ne (fun z => by rw [z, q1] at t1; cases t1)]
          exact t1
        · obtain ⟨c0, e1, e2⟩ := t3 pos cv hc
          exact ⟨c0, e1, by rw [upd_ne (fun z => by rw [z, q1] at e2; cases e2)]; exact e2⟩
      · rw [upd_ne (ne a (B.fs a ha))]
        exact B.fr a ha
/-! ### the law -/
/-- what the law rests on -/
structure LawD (S : RS) (c t : Addr) : Prop where
  tab : LamX.TabB S.base S.mg c t
  told : ∃ g pg bg sg fd, S.mg "_law_told" = some (.ref g) ∧ FunD S.K "_law_told" "_law_told" pg bg sg [] [] g fd ∧ Binds S.K fd ["call"] [] ∧ toldB sg bg = true
  cls : ClsF S
  same : ∃ g pg bg sg fd, S.mg "_law_same" = some (.ref g) ∧ FunD S.K "_law_same" "_law_same" pg bg sg [] [] g fd ∧ Binds S.K fd ["told", "due"] [] ∧ sameB sg bg = true
  rep : S.mg "repr" = none
/-- [_law_stream(script), 0] -/
def stC (kS : Nat) : C := .lst (.cons (.call kS (.cons (.var 0) .nil)) (.cons (.lit (.int 0)) .nil))
theorem st_drw {kS : Nat} (h : dr kS = 0) : drw dr (stC kS) = 0 := by
  show 0 + dr kS + (0 + 0) = 0
  omega
theorem st_wp {kS : Nat} {N : List Str} (h : ∀ Q, (∀ ms : List Int, 0 < ms.length → ms.length ≤ 4000 → (∀ z ∈ ms, 0 ≤ z ∧ z < 1009) → Q (.L (ms.map PyData.int))) → Φ kS [.scr] Q noE) :
    wp Φ exName (stC kS) (initE N [.scr]) (fun d => ∃ ms : List Int, 0 < ms.length ∧ ms.length ≤ 4000 ∧ (∀ z ∈ ms, 0 ≤ z ∧ z < 1009) ∧ d = .L [.list (ms.map PyData.int), .int 0]) noE := by
  show Φ kS [.scr] _ noE
  exact h _ fun ms h1 h2 h3 => ⟨[.list (ms.map PyData.int), .int 0], rfl, by show 2 ≤ sizeLine; decide, ms, h1, h2, h3, rfl⟩
theorem intsP_map : ∀ ns : List Int, intsP (ns.map PyData.int) = some ns
  | [] => rfl
  | n :: ns => by
    simp only [List.map_cons, intsP]
    rw [intsP_map ns]
    rfl
theorem ints_vs {K : PySem.W.Frag} {F : Addr → Prop} {H : Hp} {vs : List V} {ns : List Int} (h : RpAll K F H vs (ns.map PyData.int)) : vs = ns.map V.int := h.ints (intsP_map ns)
/-- state = [_law_stream(script), 0]; .. -/
def law0B (T : Tb) (dr : Nat → Nat) (kS i : Nat) (N : List Str) (sc : Scope) (L : Nat) (b : Y.S) : List Stmt → Bool
  | .Assign [.Name x _] e _ :: rest => kLoc ⟨N, sc, none, L, false⟩ i x && (ck T dr (stC kS)).e ⟨N, sc, none, L, false⟩ e && !isLC e && decide (x = "state") && (ckS T dr b).many ⟨N, sc, none, L, true⟩ rest
  | _ => false
theorem law_rule {P : Program} {w : World} {K : PySem.W.Frag} {mg : Str → Option Value} {base : Heap} {c t a : Addr} {fl : Addr} {params : Arguments} {body : List Stmt} {sc : Scope} {fd : FuncData} {N : List Str} {b : Y.S} {L kS i : Nat} {s₁ : Shared} {H : Hp} {ns : List Int} {fa' ex' : Nat → Addr}
    (hS : S = ⟨P, w, K, mg, base, fa', ex'⟩) (bs : Bas S T) (F : FunD K "law" "law" params body sc [] [] fl fd) (hcode : PySem.W.codeIn K fd.code "law" = true → fd.code = .ref c) (hbind : ∀ (s : Shared) (u : Value), BindsTo s fd ⟨[u], []⟩ [("script", u)]) (fh : ∀ j, T.lv j ≤ L → FHeld S Φ dr T.lv j) (D : LawD S c t)
    (hsc : scC N ["script"] sc = true) (h0 : law0B T dr kS i N sc L b body = true) (hr : Room (L + 1) callerA) (hkS : T.lv kS ≤ L) (hdS : dr kS = 0) (hdw : drwS dr b ≤ BIG)
    (e0 : Env0 P w K mg base callerA [] s₁ H) (hHt : H t = some (.tbl #[])) (hSc : FzL K H a (ns.map V.int)) (hl : ns.length ≤ 63) (hbits : ∀ z ∈ ns, Builtin.Int.intBits z ≤ 1048576)
    (hi0 : i ≠ 0) (hΦ : ∀ Q, (∀ ms : List Int, 0 < ms.length → ms.length ≤ 4000 → (∀ z ∈ ms, 0 ≤ z ∧ z < 1009) → Q (.L (ms.map PyData.int))) → Φ kS [.scr] Q noE)
    (hw : wpS Φ exName b ((List.replicate N.length none).set i (some (.sh .st))) (endF (fun d => d = .B true) noE)) :
    codeAny (model P w) callerA (.call (.ref fl) ⟨[.ref a], []⟩) (CR (L2N.CX P w) [] P w H s₁ (fun v _ => v = .bl true) fun _ _ _ => False) s₁ := by
  subst hS
  obtain ⟨oc, od, dV, kV, doc, pm, an, cdv, ct, osl, rfl, lk, hcd, _⟩ := F.ex
  have FS := fnScope_by hsc
  refine LamX.run_ofS (N := N) (ps := ["script"]) (us := [.ref a]) (vs := [.ref a]) lk hcd FS hr e0 (hbind s₁ (.ref a)) (.cons rfl .nil) rfl fun hr' => ?_
  let S : RS := ⟨P, w, K, mg, base, fa', ex'⟩
  let X := cxOf (L2N.CX P w) P w K mg base N "law" sc fl cdv callerA [] s₁ H fun _ _ _ => False
  have hNp : 1 ≤ N.length := by
    have := congrArg List.length FS.pre
    rw [List.length_take] at this
    simp at this
    omega
  have hcode' : X.env.code = .ref c := hcode hcd
  have at0 : ∀ g, (g = true → X.A.guards = some []) → At S ⟨N, sc, none, L, g⟩ X := fun g hg =>
    { hP := rfl, hw := rfl, hK := rfl, hm := rfl, hb := rfl, hN := rfl, nd := FS.nd, hs := rfl, hf := fun _ _ => rfl, calm := rfl, hr := hr', hg := hg }
  have tabs : LamX.Tabs [(t, X.env.qual ++ "<lambda>")] H := fun p hp => by
    rw [List.mem_singleton.mp hp]
    exact LamX.TabS.nil hHt
  let sa1 : SA := ⟨none, [(t, X.env.qual ++ "<lambda>")]⟩
  let R1 : RT := ⟨S, sa1, 0, H, fun _ => False⟩
  have st1 : StOk sa1 0 H := ⟨fun _ _ e => (nomatch e), tabs⟩
  have B1 : Bef R1 0 (fun _ => False) H := ⟨st1, st1.s0, fun _ h => h.elim, fun _ h => h.elim⟩
  have E1 : EnvOk R1 0 (fun _ => False) (L2.start N [.ref a]) H (initE N [.scr]) := init_ok B1 ⟨⟨a, ns, rfl, hSc, hl, hbits⟩, trivial⟩ hNp
  have si1 : Sit S T Φ dr R1 ⟨N, sc, none, L, false⟩ X noE :=
    { A := at0 false (fun z => (nomatch z)), hS := rfl, w := ⟨⟨_, L2N.takes_of rfl rfl rfl rfl, fun k _ _ h => h.elim⟩, Nat.zero_le _⟩, bs := bs, fh := fh, lw := fun z => (nomatch z) }
  cases body with
  | nil => cases h0
  | cons s0 rest =>
    unfold law0B at h0
    split at h0
    · rename_i x p1 e p2 rest' heq
      cases heq
      simp only [Bool.and_eq_true, Bool.not_eq_true', decide_eq_true_eq] at h0
      obtain ⟨⟨⟨⟨g1, g2⟩, g3⟩, g4⟩, g5⟩ := h0
      obtain ⟨f1, f2, f3⟩ := kLoc_ok si1 g1
      have pe := (snd (S := S) (T := T) (Φ := Φ) (dr := dr) (stC kS)).e si1 g2
      have pe : PE X e (TEx Φ exName dr R1 (rlN R1) noE (stC kS)) := pe
      -- the rest, from any state
      refine ⟨fun D' σ H' => tAsg (TEx Φ exName dr R1 (rlN R1) noE (stC kS)) (gName i) { D' with nx := fun σ2 H2 => ∃ st b2, σ2 = (L2.start N [.ref a]).set i (some (.ref st)) ∧ TSx Φ dr ⟨S, ⟨some (st, b2), [(t, X.env.qual ++ "<lambda>")]⟩, drwS dr b, H2, fun _ => False⟩ noE b D' σ2 H2 } σ H', ⟨fun pins s σ H' D' I hq => ?_⟩, ?_⟩
      · refine wpAny_execs_cons (thn ((ps_set FS.nd f1 f2 pe (sw_plain g3) f3).run pins s σ H' _ I hq) fun f s1 q => ?_)
        cases f with
        | next =>
          obtain ⟨σ2, H2, I2, st, b2, hσ, q⟩ := q
          have si2 : Sit S T Φ dr ⟨S, ⟨some (st, b2), [(t, X.env.qual ++ "<lambda>")]⟩, drwS dr b, H2, fun _ => False⟩ ⟨N, sc, none, L, true⟩ X noE :=
            { A := at0 true (fun _ => rfl), hS := rfl, w := ⟨⟨_, L2N.takes_of rfl rfl rfl rfl, fun k _ _ h => h.elim⟩, hdw⟩, bs := bs, fh := fh
              lw := fun _ => ⟨⟨c, t, D.tab, hcode', rfl⟩, D.told, D.cls, D.same, D.rep, rfl⟩ }
          exact ((sndS b).many si2 (passes_of rfl) g5).run pins s1 σ2 H2 D' I2 q
        | ret v => exact q
        | brk => exact q
        | cont => exact q
      · refine ⟨0, fun _ => False, initE N [.scr], fun d => ∃ ms : List Int, 0 < ms.length ∧ ms.length ≤ 4000 ∧ (∀ z ∈ ms, 0 ≤ z ∧ z < 1009) ∧ d = .L [.list (ms.map PyData.int), .int 0], E1, by rw [st_drw hdS]; exact Nat.le_refl _, st_wp hΦ, fun d v F' H' q x r => ?_⟩
        obtain ⟨ms, m1, m2, m3, rfl⟩ := q
        rcases r with ⟨_, r⟩ | ⟨st, vs, ps, e1, e2, n1, n2, n3, n4⟩
        · exact absurd rfl (r _)
        · cases e1
          subst e2
          match vs, n4 with
          | [v1, v2], .cons r1 (.cons r2 .nil) =>
            cases r2
            cases r1 with
            | @lst b2 ws _ k1 k2 k3 =>
              have hws := ints_vs k3
              subst hws
              have hiN : i < N.length := by
                exact (List.getElem?_eq_some_iff.mp f1).1
              have hlN : (L2.start N [V.ref a]).length = N.length := by
                unfold L2.start
                simp only [List.length_append, List.length_map, List.length_replicate, List.length_cons, List.length_nil]
                omega
              have st2 : StOk ⟨some (st, b2), [(t, X.env.qual ++ "<lambda>")]⟩ 0 H' := ⟨fun s b e => by
                cases e
                exact ⟨0, ms, n2, Int.le_refl _, Int.le_refl _, k1, m1, m2, m3⟩, x.env.st.2⟩
              refine ⟨st, b2, rfl, 0, fun _ => False, (List.replicate N.length none).set i (some (.sh .st)), endF (fun d => d = .B true) noE, ⟨.refl, st2, st2.s0, fun _ h => h.elim, fun _ h => h.elim, fun _ h => h.elim, ?_, fun j sl hj => ?_, fun j k aa ps qs hj _ _ _ => ?_⟩, by show 0 + drwS dr b ≤ drwS dr b; omega, hw, rfl, fun _ _ _ _ q _ => (by cases (show Y.D.N = Y.D.B true from q)), fun _ _ _ _ q _ => (False.elim q), fun _ _ _ _ q _ => (False.elim q), fun d v _ _ _ _ q _ r => ?_⟩
              · rw [List.length_set, List.length_set, List.length_replicate, hlN]
              · rcases set_get hj with ⟨z1, z2⟩ | ⟨_, z2⟩
                · subst z1
                  cases z2
                  exact ⟨.ref st, by rw [List.getElem?_set_self (by rw [hlN]; exact hiN)], st, b2, rfl, rfl⟩
                · rw [List.getElem?_replicate] at z2
                  split at z2 <;> cases z2
              · rcases set_get hj with ⟨z1, z2⟩ | ⟨_, z2⟩
                · cases z2
                · rw [List.getElem?_replicate] at z2
                  split at z2 <;> cases z2
              · have q : d = .B true := q
                subst q
                exact RB.bool (.inl r)
    · cases h0
end
end Y

/-! part Y25 -/
set_option Elab.async false
set_option linter.all false
set_option maxRecDepth 100000
set_option maxHeartbeats 2000000
/-! Y25: the head's facts, for the layer. -/
namespace Y
open PySem PySem.Spec
open PyProof.Rows hiding St
open L2
def gkFa : Str × Gk → List He.Fa
  | (x, .fn _) => [.glo x]
  | (x, .int i) => [.int x i]
  | (x, .abs) => [.free x]
  | (x, .ex _) => [.glo x, .exc x]
  | (x, .tup _) => [.glo x]
/-- the i-th function's name -/
def nmOf (gts : List (Str × Gk)) (k : Nat) : Str := match gts.find? fun p => match p.2 with | .fn j => j == k | _ => false with
  | some p => p.1
  | none => ""
def gtsOk (gts : List (Str × Gk)) : Bool := gts.all fun p => match p.2 with
  | .fn k => decide (nmOf gts k = p.1)
  | .ex k => decide (clsN.getD k "" = p.1) && !(p.1 == ("__debug__" : Str))
  | _ => true
def excB (K : PySem.W.Frag) (x : Str) : Bool :=
  He.eqO (PySem.W.findIn K (.ref (He.ga K x)) "__getattribute__") (some (some (.builtin "BaseException.__getattribute__"))) && (He.eqO (PySem.W.findIn K (.ref (He.ga K x)) "__getattr__") (some none) && (decide (PySem.W.subIn K (.ref (He.ga K x)) (.type "BaseException") = some true) && (PySem.W.hasDictIn K (He.ga K x) &&
  (He.eqO (PySem.W.findIn K (.ref (He.ga K x)) "__class__") (some (some (.builtin "object.__class__"))) && (He.eqO (PySem.W.specialIn K (.builtin "object.__class__") "__get__") (some (some (.builtin "getset_descriptor.__get__"))) && (decide (PySem.W.takesIn K (.builtin "object.__class__") = some true) && decide (PySem.W.mroIn K (He.ga K x) (.type "object") = some true)))))))
def kitB (K : PySem.W.Frag) : Bool := (List.range 3).all fun k => (List.range 6).all fun j => decide (PySem.W.kitOne K (.ref (He.ga K (clsN.getD k ""))) (.ref (He.ga K (clsN.getD j ""))) = some (decide (k = j)))
def exmB (K : PySem.W.Frag) : Bool := (List.range 3).all fun k => decide (PySem.W.exmOne K (.ref (He.ga K (clsN.getD k ""))) (.ref (He.ga K "SpreadError")) = some true)
def exB (K : PySem.W.Frag) : Bool := ((List.range 3).all fun k => excB K (clsN.getD k "")) && (kitB K && exmB K)
/-- the ints of a tuple -/
def intsV : List Value → List Int → Bool
  | [], [] => true
  | .int i _ :: r, j :: s => decide (i = j) && intsV r s
  | _, _ => false
theorem intsV_ok : ∀ {us : List Value} {is : List Int}, intsV us is = true → Vals (is.map V.int) us
  | [], [], _ => .nil
  | .int i t :: r, j :: s, h => by
    have h : (decide (i = j) && intsV r s) = true := h
    obtain ⟨h1, h2⟩ := He.ba h
    have h1 : i = j := of_decide_eq_true h1
    subst h1
    exact .cons ⟨t, rfl⟩ (intsV_ok h2)
def tupB (K : PySem.W.Frag) (x : Str) (is : List Int) : Bool := match K.lookup (He.ga K x) with
  | some ⟨.type "tuple", _, .seq its _, _⟩ => decide (its.size ≤ sizeLine) && intsV its.toList is
  | _ => false
theorem tupB_ok {K : PySem.W.Frag} {x : Str} {is : List Int} (h : tupB K x is = true) (H : Hp) : SqT K H (He.ga K x) (is.map V.int) := by
  unfold tupB at h
  split at h
  · rename_i e
    obtain ⟨h1, h2⟩ := He.ba h
    exact .inr ⟨_, _, _, e, rfl, rfl, of_decide_eq_true h1, intsV_ok h2⟩
  · cases h
def tupsB (gts : List (Str × Gk)) (K : PySem.W.Frag) : Bool := gts.all fun p => match p.2 with | .tup is => tupB K p.1 is | _ => true
def exG (gts : List (Str × Gk)) (K : PySem.W.Frag) : Bool := exB K && tupsB gts K
theorem excB_ok {K : PySem.W.Frag} {x : Str} (h : excB K x = true) : ExcC K (He.ga K x) := by
  obtain ⟨h1, h⟩ := He.ba h
  obtain ⟨h2, h⟩ := He.ba h
  obtain ⟨h3, h⟩ := He.ba h
  obtain ⟨h4, h⟩ := He.ba h
  obtain ⟨h5, h⟩ := He.ba h
  obtain ⟨h6, h⟩ := He.ba h
  obtain ⟨h7, h8⟩ := He.ba h
  exact ⟨He.eqO_ok h1, He.eqO_ok h2, of_decide_eq_true h3, h4, He.eqO_ok h5, He.eqO_ok h6, of_decide_eq_true h7, of_decide_eq_true h8⟩
/-- the facts that are looked at -/
def faOf (gts : List (Str × Gk)) : List He.Fa := gts.flatMap gkFa ++ ((["isinstance", "range", "int", "len", "repr"] : List Str).map He.Fa.free ++ ((["SpreadError", "_law_told", "_law_same", "law"] : List Str).map He.Fa.glo ++ clsN.map He.Fa.glo))
section
variable {gts : List (Str × Gk)} {fn : List He.DefD} {K : PySem.W.Frag} {P : Program} {w : World} {mg : Str → Option Value} {base h : Heap}
def SOf (gts : List (Str × Gk)) (P : Program) (w : World) (K : PySem.W.Frag) (mg : Str → Option Value) (base : Heap) : RS := ⟨P, w, K, mg, base, fun k => He.ga K (nmOf gts k), fun k => He.ga K (clsN.getD k "")⟩
theorem fa_gt {p : Str × Gk} {f : He.Fa} (hp : p ∈ gts) (hf : f ∈ gkFa p) : f ∈ faOf gts := List.mem_append_left _ (List.mem_flatMap.mpr ⟨p, hp, hf⟩)
theorem bas_of {lv : Nat → Nat} (X : K.In h) (G : h.Ns mainGlobals mg) (c : He.SaysD (faOf gts) fn K) (ok : gtsOk gts = true) (tk : tupsB gts K = true) : Bas (SOf gts P w K mg base) ⟨gts, lv⟩ := by
  refine ⟨fun x g hx => ?_⟩
  have hm : (x, g) ∈ gts := PySem.mem_of_lookup hx
  have ho := List.all_eq_true.mp ok _ hm
  cases g with
  | fn k =>
    have e : nmOf gts k = x := of_decide_eq_true ho
    show mg x = some (.ref (He.ga K (nmOf gts k)))
    rw [e]
    exact He.glo_ok X G (c.facts (fa_gt hm List.mem_cons_self))
  | int i =>
    obtain ⟨t, e⟩ := He.int_ok X G (c.facts (fa_gt hm List.mem_cons_self))
    exact ⟨_, e, t, rfl⟩
  | abs => exact He.free_ok X G (c.facts (fa_gt hm List.mem_cons_self))
  | tup is =>
    have e := He.glo_ok X G (c.facts (fa_gt hm List.mem_cons_self))
    have tk := List.all_eq_true.mp tk _ hm
    exact ⟨_, e, tupB_ok tk⟩
  | ex k =>
    have ho : (decide (clsN.getD k "" = x) && !(x == ("__debug__" : Str))) = true := ho
    obtain ⟨e, hd⟩ := He.ba ho
    have e : clsN.getD k "" = x := of_decide_eq_true e
    have g := He.glo_ok X G (c.facts (fa_gt hm List.mem_cons_self))
    obtain ⟨x1, x2, x3, x4⟩ := He.exc_ok (c.facts (fa_gt (f := .exc x) hm (List.mem_cons_of_mem _ List.mem_cons_self)))
    intro Y hP hw hK hmg hb hg m j p p2 pos
    have e2 : (SOf gts P w K mg base).ex k = He.ga K x := by
      show He.ga K (clsN.getD k "") = _
      rw [e]
    rw [e2]
    have hK : Y.K = K := hK
    have hmg : Y.mg = mg := hmg
    exact L2N.pmk_own PySem.F.excBase_ValueError (by rw [hK]; exact x1) (by rw [hmg]; exact g) (by rw [hK]; exact x2) (raises_own (by rw [hK]; exact x3) (by rw [hK]; exact x4)) hg (by simpa using hd)
theorem fa_free {x : Str} (hx : x ∈ (["isinstance", "range", "int", "len", "repr"] : List Str)) : He.Fa.free x ∈ faOf gts := List.mem_append_right _ (List.mem_append_left _ (List.mem_map_of_mem hx))
theorem fa_glo {x : Str} (hx : x ∈ (["SpreadError", "_law_told", "_law_same", "law"] : List Str)) : He.Fa.glo x ∈ faOf gts := List.mem_append_right _ (List.mem_append_right _ (List.mem_append_left _ (List.mem_map_of_mem hx)))
theorem fa_cls {x : Str} (hx : x ∈ clsN) : He.Fa.glo x ∈ faOf gts := List.mem_append_right _ (List.mem_append_right _ (List.mem_append_right _ (List.mem_map_of_mem hx)))
theorem cls_of (X : K.In h) (G : h.Ns mainGlobals mg) (c : He.SaysD (faOf gts) fn K) (ex : exB K = true) : ClsF (SOf gts P w K mg base) := by
  obtain ⟨e1, e2⟩ := He.ba ex
  obtain ⟨e2, e3⟩ := He.ba e2
  have fr := fun x hx => He.free_ok X G (c.facts (fa_free (x := x) hx))
  refine ⟨fr _ (by simp), fr _ (by simp), fr _ (by simp), fr _ (by simp), ⟨_, He.glo_ok X G (c.facts (fa_glo (by simp))), fun k hk => ?_⟩, fun j hj => ?_, fun k hk => ?_, fun k j hk hj => ?_⟩
  · exact of_decide_eq_true (List.all_eq_true.mp e3 k (List.mem_range.mpr hk))
  · refine He.glo_ok X G (c.facts (fa_cls ?_))
    have hl : j < clsN.length := hj
    rw [List.getD_eq_getElem?_getD, List.getElem?_eq_getElem hl]
    exact List.getElem_mem hl
  · exact excB_ok (List.all_eq_true.mp e1 k (List.mem_range.mpr hk))
  · exact of_decide_eq_true (List.all_eq_true.mp (List.all_eq_true.mp e2 k (List.mem_range.mpr hk)) j (List.mem_range.mpr hj))
end
end Y

/-! part Y26 -/
set_option Elab.async false
set_option linter.all false
set_option maxRecDepth 100000
set_option maxHeartbeats 2000000
/-! Y26: the law's end. -/
namespace Y
open PySem PySem.Spec
open PyProof.Rows hiding St
open L2
/-- a def of the top, without defaults -/
def dDef (x : Str) (st : Stmt) : He.DefD := ⟨(x, none), x, x, L2.defArgs st, L2.defBody st, L2.defScope st, [], []⟩
section
variable {gts : List (Str × Gk)} {fn : List He.DefD} {K : PySem.W.Frag} {P : Program} {w : World} {mg : Str → Option Value} {base h : Heap}
theorem def_of (c : He.SaysD (faOf gts) fn K) {x : Str} {st : Stmt} (hx : dDef x st ∈ fn) : ∃ fd, FunD K x x (L2.defArgs st) (L2.defBody st) (L2.defScope st) [] [] (He.ga K x) fd := c.defs hx
/-- what the law needs of the program, whatever its place -/
structure Pk (gts : List (Str × Gk)) (lv dr : Nat → Nat) (fn : List He.DefD) (Φ : Nat → List D → (D → Prop) → (Nat → Prop) → Prop) (L : Nat) (sT sS sL : Stmt) (N : List Str) (b : S) (kS i : Nat) : Prop where
  ok : gtsOk gts = true
  mT : dDef "_law_told" sT ∈ fn
  mS : dDef "_law_same" sS ∈ fn
  mL : dDef "law" sL ∈ fn
  told : toldB (L2.defScope sT) (L2.defBody sT) = true
  same : sameB (L2.defScope sS) (L2.defBody sS) = true
  bT : ∀ {K : PySem.W.Frag} {f : Addr} {fd : FuncData}, FunD K "_law_told" "_law_told" (L2.defArgs sT) (L2.defBody sT) (L2.defScope sT) [] [] f fd → Binds K fd ["call"] []
  bS : ∀ {K : PySem.W.Frag} {f : Addr} {fd : FuncData}, FunD K "_law_same" "_law_same" (L2.defArgs sS) (L2.defBody sS) (L2.defScope sS) [] [] f fd → Binds K fd ["told", "due"] []
  bL : ∀ {K : PySem.W.Frag} {f : Addr} {fd : FuncData}, FunD K "law" "law" (L2.defArgs sL) (L2.defBody sL) (L2.defScope sL) [] [] f fd → ∀ (s : Shared) (u : Value), BindsTo s fd ⟨[u], []⟩ [("script", u)]
  sc : C8.scC N ["script"] (L2.defScope sL) = true
  l0 : law0B ⟨gts, lv⟩ dr kS i N (L2.defScope sL) L b (L2.defBody sL) = true
  rm : Room (L + 1) callerA
  lS : lv kS ≤ L
  dS : dr kS = 0
  dw : drwS dr b ≤ BIG
  i0 : i ≠ 0
  fh : ∀ (P : Program) (w : World) (K : PySem.W.Frag) (mg : Str → Option Value) (base h : Heap), K.In h → h.Ns mainGlobals mg → He.SaysD (faOf gts) fn K → Bas (SOf gts P w K mg base) ⟨gts, lv⟩ → ∀ j, lv j ≤ L → FHeld (SOf gts P w K mg base) Φ dr lv j
  str : ∀ Q, (∀ ms : List Int, 0 < ms.length → ms.length ≤ 4000 → (∀ z ∈ ms, 0 ≤ z ∧ z < 1009) → Q (.L (ms.map PyData.int))) → Φ kS [.scr] Q noE
  law : wpS Φ exName b ((List.replicate N.length none).set i (some (.sh .st))) (endF (fun d => d = .B true) noE)
theorem law_walk {l : PySem.W.OpenLaw} {q : Program} {loose : List Str} {XP : (Str → Option Value) → Heap → Prop} {d : DefRec} {lv dr : Nat → Nat} {Φ : Nat → List D → (D → Prop) → (Nat → Prop) → Prop} {L : Nat} {sT sS sL : Stmt} {N : List Str} {b : S} {kS i : Nat}
    (hn : l.most = some 63) (hdf : d.params.defaults = []) (hd : d.name = ("law" : Str)) (pk : Pk gts lv dr fn Φ L sT sS sL N b kS i) :
    PySem.W.WalkO q loose XP (He.hookX 4 (faOf gts) fn [] [("law", none)] (exG gts)).says l.row.toRowW d [] (fun f vs => PySem.call f vs) := by
  refine Att.attach_callB hn hdf fun w s₀ s₁ mg mb fa o pm cd doc a vs ns G Y ho hdd hcd hmg hobj hints hlen hbits hg => ?_
  obtain ⟨K, KX, c⟩ := Y
  have cd' := c.t.d
  have eL := He.glo_ok KX G.T.g (cd'.facts (fa_glo (gts := gts) (x := "law") (by simp)))
  rw [hd, eL] at hmg
  have efa : He.ga K "law" = fa := by
    have := Option.some.inj hmg
    injection this
  subst efa
  obtain ⟨fd, FL⟩ := def_of cd' pk.mL
  have hp : (("law", none) : He.Defn) ∈ [(("law", none) : He.Defn)] := List.mem_singleton_self _
  obtain ⟨cc, ct⟩ : ∃ p : Addr × Addr, p = He.cT K ("law", none) := ⟨_, rfl⟩
  have hhd := c.hd _ hp
  have hout := c.out _ hp
  have hem := c.empty _ hp
  generalize hcT : He.cT K ("law", none) = p at hhd hout hem
  refine law_callG (c := p.1) (t := p.2) (cx := L2N.CX l.prog w) KX G.T.g G.T.b G.T.builtins G.T.nolimit hg hem hout (PySem.W.codeHd_of_K KX hhd) G.T.bmain hobj hints (Nat.le_trans hlen (by decide)) (fun base H hK hN TB e0 hHt hS => ?_) (fun H e s' z => ?_)
  · have bs := bas_of (P := l.prog) (w := w) (base := base) (lv := lv) KX G.T.g cd' pk.ok (He.ba c.more).2
    obtain ⟨fdT, FT⟩ := def_of cd' pk.mT
    obtain ⟨fdS, FS⟩ := def_of cd' pk.mS
    have gT := He.glo_ok KX G.T.g (cd'.facts (fa_glo (gts := gts) (x := "_law_told") (by simp)))
    have gS := He.glo_ok KX G.T.g (cd'.facts (fa_glo (gts := gts) (x := "_law_same") (by simp)))
    have cl : ClsF (SOf gts l.prog w K mg base) := cls_of KX G.T.g cd' (He.ba c.more).1
    exact law_rule (S := SOf gts l.prog w K mg base) (T := ⟨gts, lv⟩) (Φ := Φ) (dr := dr) (c := p.1) (t := p.2) (b := b) (L := L) (kS := kS) (i := i) rfl bs FL (fun hc => by
        obtain ⟨c1, e1⟩ := He.codeIn_ref hc
        obtain ⟨oc, od, dV, kV, doc', pm', an, cdv, ct', osl, rfl, lk, hcd', _⟩ := FL.ex
        have : He.codeOf K ("law", none) = c1 := He.codeOf_eq (p := ("law", none)) lk e1
        rw [e1, ← this, ← hcT]
        rfl) (pk.bL FL) (pk.fh _ _ _ _ _ _ KX G.T.g cd' bs)
      ⟨TB, ⟨_, _, _, _, _, gT, FT, pk.bT FT, pk.told⟩, cl, ⟨_, _, _, _, _, gS, FS, pk.bS FS, pk.same⟩, He.free_ok KX G.T.g (cd'.facts (fa_free (by simp)))⟩
      pk.sc pk.l0 pk.rm pk.lS pk.dS pk.dw e0 hHt hS hlen hbits pk.i0 pk.str pk.law
  · obtain ⟨_, _, _, _, _, _, _, _, _, _, _, _, z⟩ := z
    exact z
end
end Y

/-! part Y27 -/
set_option Elab.async false
set_option linter.all false
set_option maxRecDepth 100000
set_option maxHeartbeats 2000000
set_option exponentiation.threshold 5000
/-! Y27: plain tools: shown data, loops, comprehensions, products. -/
namespace Y
open PySem PySem.Spec
open PyProof.Rows hiding St
open L2
/-! ### data that is shown and compared -/
/-- at most n items, d deep -/
structure Sh (n d : Nat) (p : PyData) : Prop where
  sh : p.showable = true
  hd : p.hasDict = false
  dp : p.depth ≤ d
  lv : p.leavesShort 600 = true
  bk : p.bulk ≤ n
  ly : p.canLay0 = true
structure ShA (n d : Nat) (p : List PyData) : Prop where
  sh : PyData.showableAll p = true
  hd : PyData.hasDictAll p = false
  dp : PyData.depthAll p ≤ d
  lv : PyData.leavesShortAll 600 p = true
  bk : PyData.bulkAll p ≤ n
  ly : PyData.canLayAll0 p = true
def bigI : Nat := 2 ^ 1900
theorem big_lt : bigI < 10 ^ 599 := by decide +kernel
theorem log2_big {i : Int} (h : i.natAbs ≤ bigI) : i.natAbs.log2 < 1920 := by
  rcases Nat.lt_or_ge i.natAbs.log2 1920 with z | z
  · exact z
  · have hne : i.natAbs ≠ 0 := by
      intro e
      rw [e] at z
      have : Nat.log2 0 = 0 := by decide
      omega
    have h1 := Nat.log2_self_le (n := i.natAbs) hne
    have h2 : 2 ^ 1920 ≤ 2 ^ i.natAbs.log2 := Nat.pow_le_pow_right (by decide) z
    have h3 : bigI < 2 ^ 1920 := by decide +kernel
    omega
theorem shown_int {i : Int} (h : i.natAbs ≤ bigI) : (PyData.shown (.int i)).length ≤ 600 := by
  show (PySem.Str.ofString (toString i)).length ≤ 600
  cases i with
  | ofNat n =>
    have : (PySem.Str.ofString (toString (Int.ofNat n))).length ≤ 599 := PyProof.Rows.toString_length_le (Int.natCast_nonneg n) (by decide) (by
      have h1 := big_lt
      have h2 : n ≤ bigI := h
      exact_mod_cast Nat.lt_of_le_of_lt h2 h1)
    omega
  | negSucc n =>
    have e : toString (Int.negSucc n) = "-" ++ toString ((n + 1 : Nat) : Int) := rfl
    rw [e, PyProof.Rows.ofString_length, String.toList_append, List.length_append, ← PyProof.Rows.ofString_length (toString ((n + 1 : Nat) : Int))]
    have : (PySem.Str.ofString (toString ((n + 1 : Nat) : Int))).length ≤ 599 := PyProof.Rows.toString_length_le (Int.natCast_nonneg _) (by decide) (by
      have h1 := big_lt
      have h2 : n + 1 ≤ bigI := h
      exact_mod_cast Nat.lt_of_le_of_lt h2 h1)
    have e1 : "-".toList.length = 1 := rfl
    omega
theorem Sh.int {i : Int} (h : i.natAbs ≤ bigI) : Sh 0 0 (.int i) := ⟨decide_eq_true (log2_big h), rfl, Nat.le_refl _, decide_eq_true (shown_int h), Nat.le_refl _, rfl⟩
theorem Sh.bool {b : Bool} : Sh 0 0 (.bool b) := ⟨rfl, rfl, Nat.le_refl _, rfl, Nat.le_refl _, rfl⟩
theorem Sh.none : Sh 0 0 .none := ⟨rfl, rfl, Nat.le_refl _, rfl, Nat.le_refl _, rfl⟩
def strB (x : Str) : Bool := PyData.leavesShort 600 (.str x) && PyData.canLay0 (.str x)
theorem Sh.str {x : Str} (h : strB x = true) : Sh x.cps.size 0 (.str x) := by
  unfold strB at h
  rw [Bool.and_eq_true] at h
  exact ⟨rfl, rfl, Nat.le_refl _, h.1, Nat.le_refl _, h.2⟩
theorem ShA.nil : ShA 0 0 [] := ⟨rfl, rfl, Nat.le_refl _, rfl, Nat.le_refl _, rfl⟩
theorem ShA.cons {n m d e : Nat} {p : PyData} {ps : List PyData} (a : Sh n d p) (b : ShA m e ps) : ShA (n + 1 + m) (max d e) (p :: ps) := by
  refine ⟨?_, ?_, ?_, ?_, ?_, ?_⟩
  · simp only [PyData.showableAll, a.sh, b.sh, Bool.and_self]
  · simp only [PyData.hasDictAll, a.hd, b.hd, Bool.or_self]
  · have := a.dp; have := b.dp
    simp only [PyData.depthAll]
    omega
  · simp only [PyData.leavesShortAll, a.lv, b.lv, Bool.and_self]
  · have := a.bk; have := b.bk
    simp only [PyData.bulkAll]
    omega
  · simp only [PyData.canLayAll0, a.ly, b.ly, Bool.and_self]
theorem Sh.tup {n d : Nat} {ps : List PyData} (a : ShA n d ps) : Sh n (d + 1) (.tuple ps) :=
  ⟨by simp only [PyData.showable, a.sh], by simp only [PyData.hasDict, a.hd], by have := a.dp; simp only [PyData.depth]; omega, by simp only [PyData.leavesShort, a.lv], by have := a.bk; simp only [PyData.bulk]; omega, by simp only [PyData.canLay0, a.ly]⟩
theorem Sh.lst {n d : Nat} {ps : List PyData} (a : ShA n d ps) : Sh n (d + 1) (.list ps) :=
  ⟨by simp only [PyData.showable, a.sh], by simp only [PyData.hasDict, a.hd], by have := a.dp; simp only [PyData.depth]; omega, by simp only [PyData.leavesShort, a.lv], by have := a.bk; simp only [PyData.bulk]; omega, by simp only [PyData.canLay0, a.ly]⟩
theorem Sh.mono {n d m e : Nat} {p : PyData} (a : Sh n d p) (h1 : n ≤ m) (h2 : d ≤ e) : Sh m e p := ⟨a.sh, a.hd, Nat.le_trans a.dp h2, a.lv, Nat.le_trans a.bk h1, a.ly⟩
theorem ShA.all {n d : Nat} : ∀ {ps : List PyData}, (∀ p ∈ ps, Sh n d p) → ShA (ps.length * (n + 1)) d ps
  | [], _ => ⟨rfl, rfl, Nat.zero_le _, rfl, Nat.zero_le _, rfl⟩
  | p :: ps, h => by
    have a := ShA.cons (h p List.mem_cons_self) (ShA.all fun q hq => h q (List.mem_cons_of_mem _ hq))
    rw [Nat.max_self] at a
    have e : n + 1 + ps.length * (n + 1) = (p :: ps).length * (n + 1) := by rw [List.length_cons, Nat.add_mul, Nat.one_mul]; omega
    rw [e] at a
    exact a
theorem Sh.ok {n d : Nat} {p : PyData} (a : Sh n d p) (h1 : n ≤ 20000) (h2 : d ≤ 49) : ReprOk p := by
  refine ⟨a.sh, a.hd, Nat.le_trans a.dp (by omega), ?_⟩
  have := PyData.shown_le_bulk 600 (by decide) p a.lv
  have h3 := a.bk
  have : (600 + 2) * p.bulk ≤ 602 * 20000 := Nat.mul_le_mul_left _ (by omega)
  show _ ≤ 2 ^ 24
  omega
theorem Sh.ok1 {n d : Nat} {p : PyData} (a : Sh n d p) (h1 : n ≤ 19000) (h2 : d ≤ 48) : ReprOk (.list [p]) := (Sh.lst (.cons a .nil)).ok (by omega) (by omega)
theorem Sh.shaped {n d : Nat} {p : PyData} (a : Sh n d p) (h2 : d ≤ 64) : SeqAt.shaped p = true := by
  show (p.canLay0 && decide (p.depth ≤ 64)) = true
  rw [a.ly, decide_eq_true (Nat.le_trans a.dp h2)]
  rfl
mutual
theorem eqv_refl : ∀ {p : PyData}, p.hasDict = false → PyData.eqv p p = true
  | .none, _ => rfl
  | .bool b, _ => by simp [PyData.eqv]
  | .int i, _ => by simp [PyData.eqv]
  | .str x, _ => by simp [PyData.eqv]
  | .list xs, h => by simp only [PyData.eqv]; exact eqvAll_refl h
  | .tuple xs, h => by simp only [PyData.eqv]; exact eqvAll_refl h
  | .dict _, h => nomatch h
theorem eqvAll_refl : ∀ {ps : List PyData}, PyData.hasDictAll ps = false → PyData.eqvAll ps ps = true
  | [], _ => rfl
  | p :: ps, h => by
    simp only [PyData.hasDictAll, Bool.or_eq_false_iff] at h
    simp only [PyData.eqvAll, eqv_refl h.1, eqvAll_refl h.2, Bool.and_self]
end
theorem Sh.eqv {n d : Nat} {p : PyData} (a : Sh n d p) : PyData.eqv p p = true := eqv_refl a.hd
/-! ### loops -/
theorem forW_rule {step : D → Ev → (Ev → Prop) → Prop} {nx : Ev → Prop} {ds : List D} {ρ : Ev} (I : Nat → Ev → Prop) (h0 : I 0 ρ)
    (hs : ∀ i d ρ K, ds[i]? = some d → I i ρ → (∀ ρ', I (i + 1) ρ' → K ρ') → step d ρ K) (hn : ∀ ρ, I ds.length ρ → nx ρ) : forW step nx ds ρ := by
  have go : ∀ (es : List D) (i : Nat) (ρ : Ev), es = ds.drop i → i ≤ ds.length → I i ρ → forW step nx es ρ := by
    intro es
    induction es with
    | nil =>
      intro i ρ e hi h
      have : ds.length ≤ i := by
        have := congrArg List.length e
        rw [List.length_drop] at this
        simp at this
        omega
      have : i = ds.length := by omega
      subst this
      exact hn ρ h
    | cons d es ih =>
      intro i ρ e hi h
      have hlt : i < ds.length := by
        have := congrArg List.length e
        rw [List.length_drop] at this
        simp at this
        omega
      rw [List.drop_eq_getElem_cons hlt] at e
      injection e with e1 e2
      exact hs i d ρ _ (by rw [List.getElem?_eq_getElem hlt, e1]) h fun ρ' h' => ih (i + 1) ρ' e2 hlt h'
  exact go ds 0 ρ rfl (Nat.zero_le _) h0
theorem while_rule {turn : Ev → (Ev → Prop) → Prop} {ρ : Ev} (I : Nat → Ev → Prop) (m : Nat) (h0 : I m ρ) (hs : ∀ m ρ K, I m ρ → (∀ m' ρ', m' < m → I m' ρ' → K ρ') → turn ρ K) : ∃ n, whileW turn n ρ := by
  have go : ∀ (n m : Nat) (ρ : Ev), m < n → I m ρ → whileW turn n ρ := by
    intro n
    induction n with
    | zero => intro m ρ h; omega
    | succ n ih => intro m ρ h hI; exact hs m ρ _ hI fun m' ρ' hm hI' => ih m' ρ' (by omega) hI'
  exact ⟨m + 1, go (m + 1) m ρ (Nat.lt_succ_self m) h0⟩
/-- a comprehension, each item giving what P says -/
theorem compW_rule {step : D → (List PyData → Prop) → Prop} {K : List PyData → Prop} {ds : List D} (I : Nat → List PyData → Prop) (h0 : I 0 [])
    (hs : ∀ i d acc K', ds[i]? = some d → I i acc → (∀ new, I (i + 1) (acc ++ new) → K' new) → step d K')
    (hz : ∀ i acc, i ≤ ds.length → I i acc → acc.length ≤ sizeLine) (hn : ∀ acc, I ds.length acc → K acc) : compW step ds [] K := by
  have go : ∀ (es : List D) (i : Nat) (acc : List PyData), es = ds.drop i → i ≤ ds.length → I i acc → compW step es acc K := by
    intro es
    induction es with
    | nil =>
      intro i acc e hi h
      have : ds.length ≤ i := by
        have := congrArg List.length e
        rw [List.length_drop] at this
        simp at this
        omega
      have : i = ds.length := by omega
      subst this
      exact hn acc h
    | cons d es ih =>
      intro i acc e hi h
      have hlt : i < ds.length := by
        have := congrArg List.length e
        rw [List.length_drop] at this
        simp at this
        omega
      rw [List.drop_eq_getElem_cons hlt] at e
      injection e with e1 e2
      exact hs i d acc _ (by rw [List.getElem?_eq_getElem hlt, e1]) h fun new hI => ⟨by have := hz (i + 1) _ hlt hI; rw [List.length_append] at this; exact this, ih (i + 1) _ e2 hlt hI⟩
  exact go ds 0 [] rfl (Nat.zero_le _) h0
/-! ### products -/
theorem cm {i j : Int} (hi : i.natAbs ≤ bigI) (hj : j.natAbs ≤ bigI) : CMulX i j := by
  have : bigI < 2 ^ 2000 := by decide +kernel
  exact small_mul (p := 2000) (by omega) (by omega) (by decide)
end Y

/-! part Y28 -/
set_option Elab.async false
set_option linter.all false
set_option maxRecDepth 100000
set_option maxHeartbeats 2000000
set_option exponentiation.threshold 5000
/-! Y28: rewriting lemmas for the readings. -/
namespace Y
open PySem PySem.Spec
open L2 (CMulX atI ixN)
section
variable {Q : D → Prop} {i j : Int} {p q r : PyData} {xs ys : List PyData}
theorem b_add : binD .add (.py (.int i)) (.py (.int j)) Q = Q (.I (i + j)) := rfl
theorem b_addT : binD .add (.py (.tuple xs)) (.py (.tuple ys)) Q = (xs.length + ys.length ≤ sizeLine ∧ Q (.T (xs ++ ys))) := rfl
theorem b_addL : binD .add (.py (.list xs)) (.py (.list ys)) Q = (xs.length + ys.length ≤ sizeLine ∧ Q (.L (xs ++ ys))) := rfl
theorem b_sub : binD .sub (.py (.int i)) (.py (.int j)) Q = Q (.I (i - j)) := rfl
theorem b_mul : binD .mul (.py (.int i)) (.py (.int j)) Q = (CMulX i j ∧ Q (.I (i * j))) := rfl
theorem b_mulT : binD .mul (.py (.tuple xs)) (.py (.int j)) Q = ((2 ≤ j ∧ j ≤ 1000 ∧ 0 < xs.length ∧ xs.length ≤ 1000) ∧ Q (.T (List.replicate j.toNat xs).flatten)) := rfl
theorem b_mulL : binD .mul (.py (.list xs)) (.py (.int j)) Q = ((-(2 ^ 63) ≤ j ∧ j < 2 ^ 63 ∧ xs.length * j.toNat ≤ sizeLine) ∧ Q (.L (List.replicate j.toNat xs).flatten)) := rfl
theorem b_fdiv : binD .fdiv (.py (.int i)) (.py (.int j)) Q = ((j ≠ 0 ∧ j.natAbs.log2 < 9000) ∧ Q (.I (i.fdiv j))) := rfl
theorem b_mod : binD .mod (.py (.int i)) (.py (.int j)) Q = (j ≠ 0 ∧ Q (.I (i.fmod j))) := rfl
theorem b_pow : binD .pow (.py (.int i)) (.py (.int j)) Q = ((0 ≤ j ∧ j ≤ 1000000 ∧ i.natAbs < 2 ^ 64) ∧ Q (.I (i ^ j.toNat))) := rfl
theorem a_add : augD .add (.py (.int i)) (.py (.int j)) Q = Q (.I (i + j)) := rfl
theorem a_sub : augD .sub (.py (.int i)) (.py (.int j)) Q = Q (.I (i - j)) := rfl
theorem a_mul : augD .mul (.py (.int i)) (.py (.int j)) Q = (CMulX i j ∧ Q (.I (i * j))) := rfl
theorem a_fdiv : augD .fdiv (.py (.int i)) (.py (.int j)) Q = ((j ≠ 0 ∧ j.natAbs.log2 < 9000) ∧ Q (.I (i.fdiv j))) := rfl
theorem c_lt : cmpD .Lt (.py (.int i)) (.py (.int j)) Q = Q (.B (decide (i < j))) := rfl
theorem c_le : cmpD .LtE (.py (.int i)) (.py (.int j)) Q = Q (.B (decide (i ≤ j))) := rfl
theorem c_gt : cmpD .Gt (.py (.int i)) (.py (.int j)) Q = Q (.B (decide (j < i))) := rfl
theorem c_ge : cmpD .GtE (.py (.int i)) (.py (.int j)) Q = Q (.B (decide (j ≤ i))) := rfl
theorem c_eqI : cmpD .Eq (.py (.int i)) (.py (.int j)) Q = Q (.B (decide (i = j))) := by
  have e : PyData.eqv (.int i) (.int j) = decide (i = j) := by
    simp only [PyData.eqv]
    try rfl
  have s (k : Int) : SeqAt.shaped (.int k) = true := rfl
  simp only [cmpD, e, s, and_self, true_and]
theorem c_neI : cmpD .NotEq (.py (.int i)) (.py (.int j)) Q = Q (.B (!decide (i = j))) := by
  have e : PyData.eqv (.int i) (.int j) = decide (i = j) := by
    simp only [PyData.eqv]
    try rfl
  have s (k : Int) : SeqAt.shaped (.int k) = true := rfl
  simp only [cmpD, e, s, and_self, true_and]
theorem c_eqB {a b : Bool} : cmpD .Eq (.py (.bool a)) (.py (.bool b)) Q = Q (.B (a == b)) := by
  have e : PyData.eqv (.bool a) (.bool b) = (a == b) := by simp only [PyData.eqv]
  have s (k : Bool) : SeqAt.shaped (.bool k) = true := rfl
  simp only [cmpD, e, s, and_self, true_and]
theorem c_neB {a b : Bool} : cmpD .NotEq (.py (.bool a)) (.py (.bool b)) Q = Q (.B (!(a == b))) := by
  have e : PyData.eqv (.bool a) (.bool b) = (a == b) := by simp only [PyData.eqv]
  have s (k : Bool) : SeqAt.shaped (.bool k) = true := rfl
  simp only [cmpD, e, s, and_self, true_and]
theorem x_0 : ixD (.py (.tuple (p :: xs))) (.py (.int 0)) Q = Q (.py p) := by
  have : atI (p :: xs) 0 = some p := by
    unfold atI ixN
    rw [if_pos (by decide), if_pos (by rw [List.length_cons]; omega)]
    rfl
  simp only [ixD, this, Option.some.injEq, exists_eq_left']
theorem x_1 : ixD (.py (.tuple (p :: q :: xs))) (.py (.int 1)) Q = Q (.py q) := by
  have : atI (p :: q :: xs) 1 = some q := by
    unfold atI ixN
    rw [if_pos (by decide), if_pos (by rw [List.length_cons, List.length_cons]; omega)]
    rfl
  simp only [ixD, this, Option.some.injEq, exists_eq_left']
theorem x_2 : ixD (.py (.tuple (p :: q :: r :: xs))) (.py (.int 2)) Q = Q (.py r) := by
  have : atI (p :: q :: r :: xs) 2 = some r := by
    unfold atI ixN
    rw [if_pos (by decide), if_pos (by rw [List.length_cons, List.length_cons, List.length_cons]; omega)]
    rfl
  simp only [ixD, this, Option.some.injEq, exists_eq_left']
theorem k_L {lo hi : Option Int} : slcD (.py (.list xs)) lo hi Q = Q (.L (cutP xs lo hi)) := rfl
theorem k_T {lo hi : Option Int} : slcD (.py (.tuple xs)) lo hi Q = Q (.T (cutP xs lo hi)) := rfl
theorem l_lenT : biD .len [.py (.tuple xs)] Q = Q (.I xs.length) := rfl
theorem l_lenL : biD .len [.py (.list xs)] Q = Q (.I xs.length) := rfl
theorem l_int : biD .int [.py (.int i)] Q = Q (.I i) := rfl
theorem l_intB {b : Bool} : biD .int [.py (.bool b)] Q = Q (.I (if b then 1 else 0)) := rfl
theorem l_abs : biD .abs [.py (.int i)] Q = Q (.I (if i < 0 then -i else i)) := rfl
theorem l_max2 : biD .max [.py (.int i), .py (.int j)] Q = Q (.I (max i j)) := rfl
theorem l_max3 {k : Int} : biD .max [.py (.int i), .py (.int j), .py (.int k)] Q = Q (.I (max (max i j) k)) := rfl
theorem l_min2 : biD .min [.py (.int i), .py (.int j)] Q = Q (.I (min i j)) := rfl
theorem l_maxL : biD .max [.py (.list xs)] Q = (∃ ns, intsP xs = some ns ∧ 0 < ns.length ∧ ∀ m, m ∈ ns → (∀ y ∈ ns, y ≤ m) → Q (.I m)) := rfl
theorem l_minL : biD .min [.py (.list xs)] Q = (∃ ns, intsP xs = some ns ∧ 0 < ns.length ∧ ∀ m, m ∈ ns → (∀ y ∈ ns, m ≤ y) → Q (.I m)) := rfl
theorem l_sum : biD .sum [.py (.list xs)] Q = (∃ ns, intsP xs = some ns ∧ Q (.I ns.sum)) := rfl
theorem l_all : biD .all [.py (.list xs)] Q = (∃ bs, boolsP xs = some bs ∧ Q (.B (bs.all id))) := rfl
theorem l_any : biD .any [.py (.list xs)] Q = (∃ bs, boolsP xs = some bs ∧ Q (.B (bs.any id))) := rfl
theorem l_tupL : biD .tuple [.py (.list xs)] Q = Q (.T xs) := rfl
theorem l_tupT : biD .tuple [.py (.tuple xs)] Q = Q (.T xs) := rfl
theorem l_lisL : biD .list [.py (.list xs)] Q = Q (.L xs) := rfl
theorem l_lisT : biD .list [.py (.tuple xs)] Q = Q (.L xs) := rfl
theorem eqvP {a b c d : Int} : PyData.eqv (.tuple [.int a, .int b]) (.tuple [.int c, .int d]) = decide ((a, b) = (c, d)) := by
  simp only [PyData.eqv, PyData.eqvAll, Prod.mk.injEq, Bool.decide_and, Bool.and_true]
  try rfl
theorem shpP {a b : Int} : SeqAt.shaped (.tuple [.int a, .int b]) = true := rfl
theorem c_eqP {a b c d : Int} : cmpD .Eq (.py (.tuple [.int a, .int b])) (.py (.tuple [.int c, .int d])) Q = Q (.B (decide ((a, b) = (c, d)))) := by
  simp only [cmpD, eqvP, shpP, and_self, true_and]
theorem c_neP {a b c d : Int} : cmpD .NotEq (.py (.tuple [.int a, .int b])) (.py (.tuple [.int c, .int d])) Q = Q (.B (!decide ((a, b) = (c, d)))) := by
  simp only [cmpD, eqvP, shpP, and_self, true_and]
theorem r_1 : rngD [.py (.int i)] Q = ((-(2 ^ 62) ≤ i ∧ i < 2 ^ 62) ∧ Q (.args (rangeD 0 i))) := rfl
theorem r_l : lrgD (.py (.int i)) (.py (.int j)) Q = ((-(2 ^ 62) ≤ i ∧ i < 2 ^ 62 ∧ -(2 ^ 62) ≤ j ∧ j < 2 ^ 62 ∧ (j - i).toNat ≤ 2 ^ 24) ∧ Q (.L ((List.range (j - i).toNat).map fun (k : Nat) => PyData.int (i + (k : Int))))) := rfl
theorem r_2 : rngD [.py (.int i), .py (.int j)] Q = ((-(2 ^ 62) ≤ i ∧ i < 2 ^ 62 ∧ -(2 ^ 62) ≤ j ∧ j < 2 ^ 62) ∧ Q (.args (rangeD i j))) := rfl
end
theorem atI_of {α : Type} {xs : List α} {i : Int} {p : α} (h0 : 0 ≤ i) (h : xs[i.toNat]? = some p) : atI xs i = some p := by
  have hl : i.toNat < xs.length := by
    rcases Nat.lt_or_ge i.toNat xs.length with z | z
    · exact z
    · rw [List.getElem?_eq_none z] at h; exact nomatch h
  unfold atI ixN
  rw [if_pos h0, if_pos (by omega)]
  exact h
theorem ixT_of {Q : D → Prop} {xs : List PyData} {i : Int} {p : PyData} (h0 : 0 ≤ i) (h : xs[i.toNat]? = some p) (hq : Q (.py p)) : ixD (.py (.tuple xs)) (.py (.int i)) Q := ⟨p, atI_of h0 h, hq⟩
theorem ixL_of {Q : D → Prop} {xs : List PyData} {i : Int} {p : PyData} (h0 : 0 ≤ i) (h : xs[i.toNat]? = some p) (hq : Q (.py p)) : ixD (.py (.list xs)) (.py (.int i)) Q := ⟨p, atI_of h0 h, hq⟩
/-- a loop over an image, by a fold -/
theorem forW_fold {α β : Type} {step : D → Ev → (Ev → Prop) → Prop} {nx : Ev → Prop} {l : List α} {f : α → D} {g : β → α → β} {b0 : β} {ρ : Ev} (I : β → Ev → Prop) (h0 : I b0 ρ)
    (hs : ∀ l1 x l2 ρ K, l = l1 ++ x :: l2 → I (l1.foldl g b0) ρ → (∀ ρ', I (g (l1.foldl g b0) x) ρ' → K ρ') → step (f x) ρ K) (hn : ∀ ρ, I (l.foldl g b0) ρ → nx ρ) : forW step nx (l.map f) ρ := by
  have go : ∀ (l2 l1 : List α) (ρ : Ev), l = l1 ++ l2 → I (l1.foldl g b0) ρ → forW step nx (l2.map f) ρ := by
    intro l2
    induction l2 with
    | nil => intro l1 ρ e h; rw [List.append_nil] at e; subst e; exact hn ρ h
    | cons x l2 ih =>
      intro l1 ρ e h
      refine hs l1 x l2 ρ _ e h fun ρ' h' => ih (l1 ++ [x]) ρ' (by rw [e, List.append_assoc]; rfl) ?_
      rw [List.foldl_append]
      exact h'
  exact go l [] ρ rfl h0
/-- a comprehension that gives one item each -/
theorem compW_map {α : Type} {step : D → (List PyData → Prop) → Prop} {K : List PyData → Prop} {l : List α} {f : α → D} {g : α → PyData} (hz : l.length ≤ sizeLine)
    (hs : ∀ x ∈ l, ∀ K', K' [g x] → step (f x) K') (hn : K (l.map g)) : compW step (l.map f) [] K := by
  have go : ∀ (l2 l1 : List α), l = l1 ++ l2 → compW step (l2.map f) (l1.map g) K := by
    intro l2
    induction l2 with
    | nil => intro l1 e; rw [List.append_nil] at e; subst e; exact hn
    | cons x l2 ih =>
      intro l1 e
      refine hs x (by rw [e]; exact List.mem_append_right _ List.mem_cons_self) _ ⟨?_, ?_⟩
      · rw [List.length_map]
        have := congrArg List.length e
        rw [List.length_append, List.length_cons] at this
        show l1.length + 1 ≤ _
        omega
      · have := ih (l1 ++ [x]) (by rw [e, List.append_assoc]; rfl)
        rw [List.map_append] at this
        exact this
  exact go l [] rfl
theorem boolsP_map {α : Type} (g : α → Bool) : ∀ l : List α, boolsP (l.map fun x => PyData.bool (g x)) = some (l.map g)
  | [] => rfl
  | x :: l => by
    show (boolsP (l.map fun x => PyData.bool (g x))).map (g x :: ·) = _
    rw [boolsP_map g l]
    rfl
theorem cut_from {xs : List PyData} {x : Int} (h0 : 0 ≤ x) (h : x.toNat ≤ xs.length) : cutP xs (some x) none = xs.drop x.toNat := by
  have e : HT.sIx xs.length 0 (some x) = x.toNat := by
    show (if x < 0 then _ else min x.toNat xs.length) = _
    rw [if_neg (by omega)]
    omega
  unfold cutP
  rw [e]
  exact List.take_of_length_le (by rw [List.length_drop]; exact Nat.le_refl _)
theorem cut_to {xs : List PyData} {x : Int} (h0 : 0 ≤ x) (h : x.toNat ≤ xs.length) : cutP xs none (some x) = xs.take x.toNat := by
  have e : HT.sIx xs.length xs.length (some x) = x.toNat := by
    show (if x < 0 then _ else min x.toNat xs.length) = _
    rw [if_neg (by omega)]
    omega
  unfold cutP
  rw [e]
  rfl
theorem rangeD_get {lo hi : Int} {i : Nat} {d : D} (h : (rangeD lo hi)[i]? = some d) : d = .I (lo + i) ∧ lo + i < hi := by
  unfold rangeD at h
  rw [List.getElem?_map] at h
  obtain ⟨j, hj, rfl⟩ := Option.map_eq_some_iff.mp h
  have hl : i < (hi - lo).toNat := by
    rcases Nat.lt_or_ge i (hi - lo).toNat with z | z
    · exact z
    · rw [List.getElem?_eq_none (by rw [List.length_range]; exact z)] at hj; exact nomatch hj
  rw [List.getElem?_range hl] at hj
  cases hj
  exact ⟨rfl, by omega⟩
/-- a divisor's size -/
theorem lg {i : Int} (h : i.natAbs ≤ bigI) : i.natAbs.log2 < 9000 := Nat.lt_of_lt_of_le (log2_big h) (by decide)
end Y

/-! part Y29 -/
set_option Elab.async false
set_option linter.all false
set_option maxRecDepth 100000
set_option maxHeartbeats 2000000
set_option exponentiation.threshold 5000
/-! Y29: sizes of ints; shown forms of data. -/
namespace Y
open PySem PySem.Spec
open L2 (CMulX atI ixN)
abbrev Ct := List D → (D → Prop) → (Nat → Prop) → Prop
abbrev PhiT := Nat → Ct
/-- an int of at most n bits -/
def Z (n : Nat) (i : Int) : Prop := i.natAbs ≤ 2 ^ n
instance {n : Nat} {i : Int} : Decidable (Z n i) := inferInstanceAs (Decidable (_ ≤ _))
theorem Z.mono {n m : Nat} {i : Int} (h : Z n i) (e : n ≤ m) : Z m i := Nat.le_trans h (Nat.pow_le_pow_right (by decide) e)
theorem Z.mul {n m : Nat} {i j : Int} (h : Z n i) (g : Z m j) : Z (n + m) (i * j) := by
  unfold Z at *
  rw [Int.natAbs_mul, Nat.pow_add]
  exact Nat.mul_le_mul h g
theorem zmax {n m : Nat} : 2 ^ n + 2 ^ m ≤ 2 ^ (max n m + 1) := by
  have h1 : 2 ^ n ≤ 2 ^ (max n m) := Nat.pow_le_pow_right (by decide) (by omega)
  have h2 : 2 ^ m ≤ 2 ^ (max n m) := Nat.pow_le_pow_right (by decide) (by omega)
  rw [Nat.pow_succ]
  omega
theorem Z.add {n m : Nat} {i j : Int} (h : Z n i) (g : Z m j) : Z (max n m + 1) (i + j) := by
  unfold Z at *
  have := @zmax n m
  omega
theorem Z.sub {n m : Nat} {i j : Int} (h : Z n i) (g : Z m j) : Z (max n m + 1) (i - j) := by
  unfold Z at *
  have := @zmax n m
  omega
theorem Z.neg {n : Nat} {i : Int} (h : Z n i) : Z n (-i) := by
  unfold Z at *
  omega
theorem Z.mx {n m : Nat} {i j : Int} (h : Z n i) (g : Z m j) : Z (max n m) (max i j) := by
  have h := h.mono (Nat.le_max_left n m)
  have g := g.mono (Nat.le_max_right n m)
  unfold Z at *
  omega
theorem Z.mn {n m : Nat} {i j : Int} (h : Z n i) (g : Z m j) : Z (max n m) (min i j) := by
  have h := h.mono (Nat.le_max_left n m)
  have g := g.mono (Nat.le_max_right n m)
  unfold Z at *
  omega
theorem Z.fdiv {n : Nat} {i j : Int} (h : Z n i) : Z n (i.fdiv j) := Nat.le_trans (Int.natAbs_fdiv_le_natAbs _ _) h
theorem Z.abs {n : Nat} {i : Int} (h : Z n i) : Z n (i.natAbs : Int) := by
  unfold Z at *
  omega
theorem Z.abs' {n : Nat} {i : Int} (h : Z n i) : Z n (if i < 0 then -i else i) := by
  unfold Z at *
  split <;> omega
theorem Z.ite {n m : Nat} {p : Prop} [Decidable p] {i j : Int} (h : Z n i) (g : Z m j) : Z (max n m) (if p then i else j) := by
  split
  · exact h.mono (Nat.le_max_left n m)
  · exact g.mono (Nat.le_max_right n m)
theorem Z.fmod {n : Nat} {i j : Int} (h : Z n j) (g : 0 < j) : Z n (i.fmod j) := by
  unfold Z at *
  have h1 := Int.fmod_nonneg_of_pos i g
  have h2 := Int.fmod_lt_of_pos i g
  omega
theorem Z.gcdr {n : Nat} {i j : Int} (h : Z n j) (e : j ≠ 0) : Z n (Int.gcd i j : Int) := by
  have := Nat.gcd_le_right (m := i.natAbs) (n := j.natAbs) (by omega)
  have : Int.gcd i j ≤ j.natAbs := this
  unfold Z at *
  omega
theorem Z.lit {n : Nat} {i : Int} (h : decide (i.natAbs ≤ 2 ^ n) = true) : Z n i := (of_decide_eq_true h : i.natAbs ≤ 2 ^ n)
theorem Z.at64 {i : Int} (h : -18446744073709551616 ≤ i ∧ i ≤ 18446744073709551616) : Z 64 i := by
  have e : (2 : Nat) ^ 64 = 18446744073709551616 := by decide
  unfold Z
  rw [e]
  omega
theorem Z.le {n : Nat} {i j : Int} (h0 : 0 ≤ i) (h : i ≤ j) (g : Z n j) : Z n i := by
  unfold Z at *
  omega
theorem Z.big {n : Nat} {i : Int} (h : Z n i) (e : n ≤ 1900) : i.natAbs ≤ bigI := Nat.le_trans h (Nat.pow_le_pow_right (by decide) e)
theorem cmz {n m : Nat} {i j : Int} (h : Z n i) (g : Z m j) (e1 : n ≤ 1900) (e2 : m ≤ 1900) : CMulX i j := cm (h.big e1) (g.big e2)
theorem lgz {n : Nat} {i : Int} (h : Z n i) (e : n ≤ 1900) : i.natAbs.log2 < 9000 := lg (h.big e)
theorem dvz {n : Nat} {i : Int} (h : Z n i) (e : n ≤ 1900) (h0 : i ≠ 0) : i ≠ 0 ∧ i.natAbs.log2 < 9000 := ⟨h0, lgz h e⟩
theorem sl : sizeLine = 16777216 := rfl
theorem sl1 : (1 ≤ sizeLine) = True := by rw [sl]; decide
theorem sl2 : (2 ≤ sizeLine) = True := by rw [sl]; decide
theorem sl3 : (3 ≤ sizeLine) = True := by rw [sl]; decide
theorem sl4 : (4 ≤ sizeLine) = True := by rw [sl]; decide
theorem sl5 : (5 ≤ sizeLine) = True := by rw [sl]; decide
theorem sl6 : (6 ≤ sizeLine) = True := by rw [sl]; decide
theorem sl7 : (7 ≤ sizeLine) = True := by rw [sl]; decide
theorem sl8 : (8 ≤ sizeLine) = True := by rw [sl]; decide
theorem sl9 : (9 ≤ sizeLine) = True := by rw [sl]; decide
theorem sl10 : (10 ≤ sizeLine) = True := by rw [sl]; decide
theorem sl11 : (11 ≤ sizeLine) = True := by rw [sl]; decide
theorem sl12 : (12 ≤ sizeLine) = True := by rw [sl]; decide
theorem sl13 : (13 ≤ sizeLine) = True := by rw [sl]; decide
theorem sl14 : (14 ≤ sizeLine) = True := by rw [sl]; decide
theorem sl0 : (0 ≤ sizeLine) = True := by rw [sl]; decide
/-! ### shown forms -/
/-- a pair of ints -/
def pr (x : Int × Int) : PyData := .tuple [.int x.1, .int x.2]
/-- four ints -/
def qd (x : Int × Int × Int × Int) : PyData := .tuple [.int x.1, .int x.2.1, .int x.2.2.1, .int x.2.2.2]
/-- a tuple of pairs -/
def prs (l : List (Int × Int)) : PyData := .tuple (l.map pr)
/-- a tuple of ints -/
def ti (l : List Int) : PyData := .tuple (l.map .int)
/-- a list of ints -/
def li (l : List Int) : PyData := .list (l.map .int)
theorem pr_inj {a b : Int × Int} : pr a = pr b ↔ a = b := by
  constructor
  · intro h
    unfold pr at h
    simp only [PyData.tuple.injEq, List.cons.injEq, PyData.int.injEq, and_true] at h
    exact Prod.ext h.1 h.2
  · rintro rfl; rfl
theorem qd_inj {a b : Int × Int × Int × Int} : qd a = qd b ↔ a = b := by
  constructor
  · intro h
    unfold qd at h
    simp only [PyData.tuple.injEq, List.cons.injEq, PyData.int.injEq, and_true] at h
    exact Prod.ext h.1 (Prod.ext h.2.1 (Prod.ext h.2.2.1 h.2.2.2))
  · rintro rfl; rfl
theorem map_inj' {α β : Type} {f : α → β} (hf : ∀ a b, f a = f b → a = b) : ∀ {l m : List α}, l.map f = m.map f → l = m
  | [], [], _ => rfl
  | [], _ :: _, h => nomatch h
  | _ :: _, [], h => nomatch h
  | a :: l, b :: m, h => by
    rw [List.map_cons, List.map_cons] at h
    injection h with h1 h2
    rw [hf a b h1, map_inj' hf h2]
theorem prs_inj {a b : List (Int × Int)} : prs a = prs b ↔ a = b := by
  constructor
  · intro h
    unfold prs at h
    injection h with h
    exact map_inj' (fun a b e => pr_inj.mp e) h
  · rintro rfl; rfl
theorem int_inj : ∀ a b : Int, PyData.int a = PyData.int b → a = b := fun a b h => by cases h; rfl
theorem ti_inj {a b : List Int} : ti a = ti b ↔ a = b := by
  constructor
  · intro h
    unfold ti at h
    injection h with h
    exact map_inj' int_inj h
  · rintro rfl; rfl
theorem li_inj {a b : List Int} : li a = li b ↔ a = b := by
  constructor
  · intro h
    unfold li at h
    injection h with h
    exact map_inj' int_inj h
  · rintro rfl; rfl
section
variable {Q : D → Prop} {x y : Int × Int} {q u : Int × Int × Int × Int}
theorem wipe1 {ρ : Ev} {i : Nat} : wipeE ρ [i] = ρ.set i none := rfl
theorem mketa {α β : Type} (p : α × β) : (p.1, p.2) = p := rfl
theorem x_pick {c : Prop} [Decidable c] {p q : PyData} : ixD (.py (.list [p, q])) (.py (.int (if c then 1 else 0))) Q = if c then Q (.py q) else Q (.py p) := by
  split
  · exact propext ⟨fun ⟨z, h, k⟩ => by cases h; exact k, fun k => ⟨_, rfl, k⟩⟩
  · exact propext ⟨fun ⟨z, h, k⟩ => by cases h; exact k, fun k => ⟨_, rfl, k⟩⟩
theorem l_max4 {i j k l : Int} : biD .max [.py (.int i), .py (.int j), .py (.int k), .py (.int l)] Q = Q (.I (max (max (max i j) k) l)) := rfl
theorem b_subB {a b : Bool} : binD .sub (.py (.bool a)) (.py (.bool b)) Q = Q (.I (PyProof.Rows.b2i a - PyProof.Rows.b2i b)) := rfl
theorem f_pr {a b : Int} : PyData.tuple [.int a, .int b] = pr (a, b) := rfl
theorem f_qd {a b c d : Int} : PyData.tuple [.int a, .int b, .int c, .int d] = qd (a, b, c, d) := rfl
theorem f_prT {a b : Int} : D.T [.int a, .int b] = .py (pr (a, b)) := rfl
theorem f_qdT {a b c d : Int} : D.T [.int a, .int b, .int c, .int d] = .py (qd (a, b, c, d)) := rfl
theorem x_pr0 : ixD (.py (pr x)) (.py (.int 0)) Q = Q (.I x.1) := x_0
theorem x_pr1 : ixD (.py (pr x)) (.py (.int 1)) Q = Q (.I x.2) := x_1
theorem x_qd0 : ixD (.py (qd q)) (.py (.int 0)) Q = Q (.I q.1) := x_0
theorem x_qd1 : ixD (.py (qd q)) (.py (.int 1)) Q = Q (.I q.2.1) := x_1
theorem x_qd2 : ixD (.py (qd q)) (.py (.int 2)) Q = Q (.I q.2.2.1) := x_2
theorem x_3 {a b c d : PyData} {xs : List PyData} : ixD (.py (.tuple (a :: b :: c :: d :: xs))) (.py (.int 3)) Q = Q (.py d) := by
  have : atI (a :: b :: c :: d :: xs) 3 = some d := by
    unfold atI ixN
    rw [if_pos (by decide), if_pos (by rw [List.length_cons, List.length_cons, List.length_cons, List.length_cons]; omega)]
    rfl
  simp only [ixD, this, Option.some.injEq, exists_eq_left']
theorem x_qd3 : ixD (.py (qd q)) (.py (.int 3)) Q = Q (.I q.2.2.2) := x_3
theorem g_pr {t : C} {ρ : Ev} {K : Ev → Prop} : bindG (.tup t) (.py (pr x)) ρ K = bindG t (.args [.I x.1, .I x.2]) ρ K := rfl
theorem g_qd {t : C} {ρ : Ev} {K : Ev → Prop} : bindG (.tup t) (.py (qd q)) ρ K = bindG t (.args [.I q.1, .I q.2.1, .I q.2.2.1, .I q.2.2.2]) ρ K := rfl
theorem l_pr : biD .len [.py (pr x)] Q = Q (.I 2) := rfl
theorem l_qd : biD .len [.py (qd q)] Q = Q (.I 4) := rfl
theorem l_prs {l : List (Int × Int)} : biD .len [.py (prs l)] Q = Q (.I l.length) := by
  show Q (.I (l.map pr).length) = _
  rw [List.length_map]
theorem l_ti {l : List Int} : biD .len [.py (ti l)] Q = Q (.I l.length) := by
  show Q (.I (l.map PyData.int).length) = _
  rw [List.length_map]
theorem l_li {l : List Int} : biD .len [.py (li l)] Q = Q (.I l.length) := by
  show Q (.I (l.map PyData.int).length) = _
  rw [List.length_map]
theorem eqv_pr : PyData.eqv (pr x) (pr y) = decide (x = y) := eqvP
theorem eqv_qd : PyData.eqv (qd q) (qd u) = decide (q = u) := by
  obtain ⟨a, b, c, d⟩ := q
  obtain ⟨e, f, g, h⟩ := u
  simp only [qd, PyData.eqv, PyData.eqvAll, Prod.mk.injEq, Bool.decide_and, Bool.and_true, Bool.and_assoc]
  try rfl
theorem shp_qd : SeqAt.shaped (qd q) = true := rfl
theorem shp_pr : SeqAt.shaped (pr x) = true := rfl
theorem c_eq_pr : cmpD .Eq (.py (pr x)) (.py (pr y)) Q = Q (.B (decide (x = y))) := c_eqP
theorem c_ne_pr : cmpD .NotEq (.py (pr x)) (.py (pr y)) Q = Q (.B (!decide (x = y))) := c_neP
theorem c_eq_qd : cmpD .Eq (.py (qd q)) (.py (qd u)) Q = Q (.B (decide (q = u))) := by
  simp only [cmpD, eqv_qd, shp_qd, and_self, true_and]
theorem c_ne_qd : cmpD .NotEq (.py (qd q)) (.py (qd u)) Q = Q (.B (!decide (q = u))) := by
  simp only [cmpD, eqv_qd, shp_qd, and_self, true_and]
theorem i_L {l : List PyData} : itemsD (.py (.list l)) = some (l.map D.py) := rfl
theorem i_T {l : List PyData} : itemsD (.py (.tuple l)) = some (l.map D.py) := rfl
theorem i_A {l : List D} : itemsD (.args l) = some l := rfl
theorem i_pr : itemsD (.py (pr x)) = some ([x.1, x.2].map D.I) := rfl
theorem i_qd : itemsD (.py (qd q)) = some ([q.1, q.2.1, q.2.2.1, q.2.2.2].map D.I) := rfl
theorem i_rng {lo hi : Int} : rangeD lo hi = ((List.range (hi - lo).toNat).map fun (k : Nat) => lo + (k : Int)).map D.I := by
  unfold rangeD
  rw [List.map_map]
  rfl
theorem i_prs {l : List (Int × Int)} : itemsD (.py (prs l)) = some (l.map (fun x => D.py (pr x))) := by
  show some ((l.map pr).map D.py) = _
  rw [List.map_map]
  rfl
theorem i_ti {l : List Int} : itemsD (.py (ti l)) = some (l.map D.I) := by
  show some ((l.map PyData.int).map D.py) = _
  rw [List.map_map]
  rfl
theorem i_li {l : List Int} : itemsD (.py (li l)) = some (l.map D.I) := by
  show some ((l.map PyData.int).map D.py) = _
  rw [List.map_map]
  rfl
theorem ix_prs {l : List (Int × Int)} {i : Int} (h0 : 0 ≤ i) (h : l[i.toNat]? = some x) (hq : Q (.py (pr x))) : ixD (.py (prs l)) (.py (.int i)) Q := ixT_of h0 (p := pr x) (by rw [List.getElem?_map, h]; rfl) hq
theorem ix_ti {l : List Int} {i v : Int} (h0 : 0 ≤ i) (h : l[i.toNat]? = some v) (hq : Q (.I v)) : ixD (.py (ti l)) (.py (.int i)) Q := ixT_of h0 (p := .int v) (by rw [List.getElem?_map, h]; rfl) hq
theorem ix_li {l : List Int} {i v : Int} (h0 : 0 ≤ i) (h : l[i.toNat]? = some v) (hq : Q (.I v)) : ixD (.py (li l)) (.py (.int i)) Q := ixL_of h0 (p := .int v) (by rw [List.getElem?_map, h]; rfl) hq
end
/-! ### shown sizes of the forms -/
theorem Sh.pr {x : Int × Int} (h1 : x.1.natAbs ≤ bigI) (h2 : x.2.natAbs ≤ bigI) : Sh 2 1 (pr x) := Sh.tup (ShA.cons (Sh.int h1) (ShA.cons (Sh.int h2) ShA.nil))
theorem Sh.qd {x : Int × Int × Int × Int} (h1 : x.1.natAbs ≤ bigI) (h2 : x.2.1.natAbs ≤ bigI) (h3 : x.2.2.1.natAbs ≤ bigI) (h4 : x.2.2.2.natAbs ≤ bigI) : Sh 4 1 (qd x) := Sh.tup (ShA.cons (Sh.int h1) (ShA.cons (Sh.int h2) (ShA.cons (Sh.int h3) (ShA.cons (Sh.int h4) ShA.nil))))
theorem ixL_any {Q : D → Prop} {xs : List PyData} {i : Int} (h0 : 0 ≤ i) (h : i < xs.length) (hq : ∀ p ∈ xs, Q (.py p)) : ixD (.py (.list xs)) (.py (.int i)) Q := by
  have hl : i.toNat < xs.length := by omega
  exact ixL_of h0 (List.getElem?_eq_getElem hl) (hq _ (List.getElem_mem hl))
/-- a comprehension with a test -/
theorem compW_filter {α : Type} {step : D → (List PyData → Prop) → Prop} {K : List PyData → Prop} {l : List α} {f : α → D} {p : α → Bool} {g : α → PyData} (hz : l.length ≤ sizeLine)
    (hs : ∀ x ∈ l, ∀ K', (p x = true → K' [g x]) → (p x = false → K' []) → step (f x) K') (hn : K ((l.filter p).map g)) : compW step (l.map f) [] K := by
  have go : ∀ (l2 l1 : List α), l = l1 ++ l2 → compW step (l2.map f) ((l1.filter p).map g) K := by
    intro l2
    induction l2 with
    | nil => intro l1 e; rw [List.append_nil] at e; subst e; exact hn
    | cons x l2 ih =>
      intro l1 e
      have hl := congrArg List.length e
      rw [List.length_append, List.length_cons] at hl
      have hf := List.length_filter_le p l1
      have step1 : ∀ new, (((l1 ++ [x]).filter p).map g = (l1.filter p).map g ++ new) → new.length ≤ 1 → ((l1.filter p).map g).length + new.length ≤ sizeLine ∧ compW step (l2.map f) ((l1.filter p).map g ++ new) K := by
        intro new en hn1
        refine ⟨by rw [List.length_map]; omega, ?_⟩
        have := ih (l1 ++ [x]) (by rw [e, List.append_assoc]; rfl)
        rw [en] at this
        exact this
      refine hs x (by rw [e]; exact List.mem_append_right _ List.mem_cons_self) _ (fun hp => step1 [g x] ?_ (by simp)) (fun hp => step1 [] ?_ (by simp))
      · rw [List.filter_append, List.map_append]
        simp [List.filter, hp]
      · rw [List.filter_append, List.map_append]
        simp [List.filter, hp]
  exact go l [] rfl
/-! ### what a lambda sees -/
def shS : Option Sl → Option Sl
  | some (.sh d) => some (.sh d)
  | _ => none
theorem shE_nil : shE [] = [] := rfl
theorem shE_cons {s : Option Sl} {r : Ev} : shE (s :: r) = shS s :: shE r := rfl
theorem shS_sh {d : D} : shS (some (.sh d)) = some (.sh d) := rfl
theorem shS_ow {d : List PyData} : shS (some (.ow d)) = none := rfl
theorem shS_none : shS none = none := rfl
/-! ### what is told -/
abbrev told (p : PyData) : PyData := .tuple [.str "told", p]
theorem c_ne_told {p : PyData} {x : Str} {Q : D → Prop} (h : SeqAt.shaped (told p) = true) (hx : SeqAt.shaped (.tuple [.str x]) = true) (hq : Q (.B true)) : cmpD .NotEq (.py (told p)) (.py (.tuple [.str x])) Q := by
  refine ⟨⟨h, hx⟩, ?_⟩
  have e : PyData.eqv (told p) (.tuple [.str x]) = false := by
    simp only [told, PyData.eqv, PyData.eqvAll, Bool.and_false]
  rw [e]
  exact hq
theorem c_ne_str {x y : Str} {Q : D → Prop} (hx : SeqAt.shaped (.tuple [.str x]) = true) (hy : SeqAt.shaped (.tuple [.str y]) = true) (hq : Q (.B (!decide (x = y)))) : cmpD .NotEq (.py (.tuple [.str x])) (.py (.tuple [.str y])) Q := by
  refine ⟨⟨hx, hy⟩, ?_⟩
  have e : PyData.eqv (.tuple [.str x]) (.tuple [.str y]) = decide (x = y) := by
    simp only [PyData.eqv, PyData.eqvAll, Bool.and_true]
    rfl
  rw [e]
  exact hq
theorem Sh.told {n d : Nat} {p : PyData} (h : Sh n d p) : Sh (n + 6) (d + 1) (told p) := by
  have a : Sh 4 0 (.str "told") := Sh.str (x := "told") (by decide +kernel)
  exact (Sh.tup (ShA.cons a (ShA.cons h ShA.nil))).mono (by omega) (by omega)
theorem shk_str {x : Str} (h : strB x = true) : SeqAt.shaped (.tuple [.str x]) = true := (Sh.tup (ShA.cons (Sh.str h) ShA.nil)).shaped (by decide)
/-- asked again in the same form -/
theorem same_refl {n d : Nat} {p : PyData} {Q : D → Prop} (h : Sh n d p) (h1 : n ≤ 19000) (h2 : d ≤ 48) (hq : Q (.B true)) : (ReprOk (.list [p]) ∧ ReprOk (.list [p])) ∧ Q (.B (decide ((PyData.list [p]).shown = (PyData.list [p]).shown))) :=
  ⟨⟨h.ok1 h1 h2, h.ok1 h1 h2⟩, by rw [decide_eq_true rfl]; exact hq⟩
theorem ZF0 {x : Int × Int} {n : Nat} (h : Z n x.1) (g : Z n x.2) (e : n ≤ 1900) : Sh 2 1 (Y.pr x) := Sh.pr (h.big e) (g.big e)
theorem Sh.prs {l : List (Int × Int)} {m : Nat} (h : ∀ x ∈ l, x.1.natAbs ≤ bigI ∧ x.2.natAbs ≤ bigI) (hl : l.length ≤ m) : Sh (m * 3) 2 (prs l) := by
  have a := ShA.all (n := 2) (d := 1) (ps := l.map Y.pr) (fun p hp => by
    obtain ⟨x, hx, rfl⟩ := List.mem_map.mp hp
    exact Sh.pr (h x hx).1 (h x hx).2)
  rw [List.length_map] at a
  exact (Sh.tup a).mono (Nat.mul_le_mul_right _ hl) (by omega)
theorem Sh.ti {l : List Int} {m : Nat} (h : ∀ x ∈ l, x.natAbs ≤ bigI) (hl : l.length ≤ m) : Sh m 1 (ti l) := by
  have a := ShA.all (n := 0) (d := 0) (ps := l.map PyData.int) (fun p hp => by
    obtain ⟨x, hx, rfl⟩ := List.mem_map.mp hp
    exact Sh.int (h x hx))
  rw [List.length_map] at a
  exact (Sh.tup a).mono (by omega) (by omega)
theorem Sh.li {l : List Int} {m : Nat} (h : ∀ x ∈ l, x.natAbs ≤ bigI) (hl : l.length ≤ m) : Sh m 1 (li l) := by
  have a := ShA.all (n := 0) (d := 0) (ps := l.map PyData.int) (fun p hp => by
    obtain ⟨x, hx, rfl⟩ := List.mem_map.mp hp
    exact Sh.int (h x hx))
  rw [List.length_map] at a
  exact (Sh.lst a).mono (by omega) (by omega)
/-! ### statement by statement, up to the next loop -/
section
variable {Φ : PhiT} {exN : Nat → Str} {ρ : Ev} {Dn : En} {s r : Y.S} {c ci : C} {i j : Nat}
/-- a statement, then the rest, which is told of by what it asks alone -/
theorem seq_by (post : Ev → Prop) (h : ∀ R : Ev → Prop, (∀ ρ', post ρ' → R ρ') → wpS Φ exN s ρ { Dn with nx := R }) (hr : ∀ ρ', post ρ' → wpS Φ exN r ρ' Dn) : wpS Φ exN (.seq s r) ρ Dn := h _ hr
theorem w_nil : wpS Φ exN .nil ρ Dn = Dn.nx ρ := rfl
theorem w_asg : wpS Φ exN (.seq (.asg i c) r) ρ Dn = wp Φ exN c ρ (fun d => wpS Φ exN r (ρ.set i (some (.sh d))) Dn) Dn.ex := rfl
theorem w_asgL : wpS Φ exN (.seq (.asgL i c) r) ρ Dn = wp Φ exN c ρ (fun d => match d with | .py (.list ps) => wpS Φ exN r (ρ.set i (some (.ow ps))) Dn | _ => False) Dn.ex := rfl
theorem w_unp {tg : C} : wpS Φ exN (.seq (.unp tg c) r) ρ Dn = wp Φ exN c ρ (fun d => bindG tg d ρ fun ρ1 => wpS Φ exN r ρ1 Dn) Dn.ex := rfl
theorem w_par3 {l : Nat} {a b c : C} : wpS Φ exN (.seq (.par3 i j l a b c) r) ρ Dn = wp Φ exN a ρ (fun x => wp Φ exN b ρ (fun y => wp Φ exN c ρ (fun z => wpS Φ exN r (((ρ.set i (some (.sh x))).set j (some (.sh y))).set l (some (.sh z))) Dn) Dn.ex) Dn.ex) Dn.ex := rfl
theorem w_par {a b : C} : wpS Φ exN (.seq (.par i j a b) r) ρ Dn = wp Φ exN a ρ (fun x => wp Φ exN b ρ (fun y => wpS Φ exN r ((ρ.set i (some (.sh x))).set j (some (.sh y))) Dn) Dn.ex) Dn.ex := rfl
theorem w_aug {op : BO} : wpS Φ exN (.seq (.aug i op c) r) ρ Dn = getV ρ i fun x => wp Φ exN c ρ (fun y => augD op x y fun z => wpS Φ exN r (ρ.set i (some (.sh z))) Dn) Dn.ex := rfl
theorem w_app : wpS Φ exN (.seq (.app i c) r) ρ Dn = match ρ[i]? with
      | some (some (.ow ps)) => wp Φ exN c ρ (fun d => match d with
        | .py p => ps.length < sizeLine ∧ wpS Φ exN r (ρ.set i (some (.ow (ps ++ [p])))) Dn
        | _ => False) Dn.ex
      | _ => False := rfl
theorem w_ext : wpS Φ exN (.seq (.ext i c) r) ρ Dn = match ρ[i]? with
      | some (some (.ow ps)) => wp Φ exN c ρ (fun d => match d with
        | .py (.list qs) => ps.length + qs.length ≤ sizeLine ∧ wpS Φ exN r (ρ.set i (some (.ow (ps ++ qs)))) Dn
        | _ => False) Dn.ex
      | _ => False := rfl
theorem w_seti : wpS Φ exN (.seq (.seti i ci c) r) ρ Dn = match ρ[i]? with
      | some (some (.ow ps)) => wp Φ exN c ρ (fun d => wp Φ exN ci ρ (fun x => match x, d with
        | .py (.int k), .py p => ∃ j, L2.ixN ps.length k = some j ∧ wpS Φ exN r (ρ.set i (some (.ow (ps.set j p)))) Dn
        | _, _ => False) Dn.ex) Dn.ex
      | _ => False := rfl
theorem w_frz : wpS Φ exN (.seq (.frz i) r) ρ Dn = match ρ[i]? with
      | some (some (.ow ps)) => wpS Φ exN r (ρ.set i (some (.sh (.L ps)))) Dn
      | _ => wpS Φ exN r ρ Dn := rfl
theorem w_expr : wpS Φ exN (.seq (.expr c) r) ρ Dn = wp Φ exN c ρ (fun _ => wpS Φ exN r ρ Dn) Dn.ex := rfl
theorem w_ret : wpS Φ exN (.seq (.ret c) r) ρ Dn = wp Φ exN c ρ Dn.rt Dn.ex := rfl
theorem w_raise {k : Nat} : wpS Φ exN (.seq (.raise k c) r) ρ Dn = wp Φ exN c ρ (fun _ => Dn.ex k) Dn.ex := rfl
theorem w_brk : wpS Φ exN (.seq .brk r) ρ Dn = Dn.bk ρ := rfl
theorem w_cont : wpS Φ exN (.seq .cont r) ρ Dn = Dn.ct ρ := rfl
theorem w_pass : wpS Φ exN (.seq .pass r) ρ Dn = wpS Φ exN r ρ Dn := rfl
theorem w_for {tg src : C} {body : Y.S} : wpS Φ exN (.for_ tg src body) ρ Dn = wp Φ exN src ρ (fun x => match itemsD x with
      | some ds => forW (fun d ρ1 K => bindG tg d ρ1 fun ρ2 => wpS Φ exN body ρ2 { Dn with nx := K, ct := K, bk := Dn.nx }) Dn.nx ds ρ
      | none => False) Dn.ex := rfl
theorem w_ite1 {t : C} {a b : Y.S} : wpS Φ exN (.ite t a b) ρ Dn = wp Φ exN t ρ (fun x => match x with | .py (.bool k) => if k = true then wpS Φ exN a ρ Dn else wpS Φ exN b ρ Dn | _ => False) Dn.ex := rfl
theorem w_ite {t : C} {a b : Y.S} : wpS Φ exN (.seq (.ite t a b) r) ρ Dn = wp Φ exN t ρ (fun x => match x with | .py (.bool k) => if k = true then wpS Φ exN a ρ { Dn with nx := fun ρ1 => wpS Φ exN r ρ1 Dn } else wpS Φ exN b ρ { Dn with nx := fun ρ1 => wpS Φ exN r ρ1 Dn } | _ => False) Dn.ex := rfl
end
end Y

/-! part Y30 -/
set_option Elab.async false
set_option linter.all false
set_option maxRecDepth 100000
set_option maxHeartbeats 2000000
/-! Y30: shown texts are texts. -/
namespace Y
open PySem PySem.Spec
def sOk (x : Str) : Bool := x.cps.all (· < 0x110000)
theorem sOk_app {x y : Str} (h : sOk x = true) (g : sOk y = true) : sOk (x ++ y) = true := by
  unfold sOk at *
  have e : (x ++ y).cps = x.cps ++ y.cps := rfl
  rw [e, Array.all_append, h, g]
  rfl
theorem sOk_str (s : String) : sOk (PySem.Str.ofString s) = true := by
  rw [PySem.Str.ofString_eq_toList]
  unfold sOk
  rw [List.all_toArray, List.all_map, List.all_eq_true]
  intro c _
  have : c.toNat < 0x110000 := by
    have := c.valid
    rcases c.valid with h | h
    · exact Nat.lt_trans h (by decide)
    · exact h.2
  exact decide_eq_true this
theorem sOk_join : ∀ {ts : List Str}, (∀ t ∈ ts, sOk t = true) → sOk (PySem.Str.join ", " ts) = true
  | [], _ => by decide +kernel
  | [x], h => h x List.mem_cons_self
  | x :: y :: r, h => by
    show sOk (x ++ ", " ++ PySem.Str.join ", " (y :: r)) = true
    exact sOk_app (sOk_app (h x List.mem_cons_self) (sOk_str _)) (sOk_join fun t ht => h t (List.mem_cons_of_mem _ ht))
theorem sOk_from : ∀ {ts : List Str} {k : Nat} {acc : Str}, sOk acc = true → (∀ t ∈ ts, sOk t = true) → sOk (textFrom k acc ts) = true
  | [], k, acc, h, _ => h
  | t :: r, k, acc, h, g => sOk_from (ts := r) (sOk_app (sOk_app h (by split <;> exact sOk_str _)) (g t List.mem_cons_self)) fun t ht => g t (List.mem_cons_of_mem _ ht)
mutual
def shOk : PyData → Bool
  | .none => true
  | .bool _ => true
  | .int _ => true
  | .str x => sOk (PyData.str x).shown
  | .list xs => shOkAll xs
  | .tuple xs => shOkAll xs
  | .dict _ => false
def shOkAll : List PyData → Bool
  | [] => true
  | x :: xs => shOk x && shOkAll xs
end
mutual
theorem sOk_shown : ∀ {p : PyData}, shOk p = true → sOk p.shown = true
  | .none, _ => sOk_str _
  | .bool b, _ => by
    show sOk (if b then "True" else "False") = true
    split <;> exact sOk_str _
  | .int i, _ => sOk_str _
  | .str x, h => h
  | .list xs, h => by
    show sOk (listText (PyData.shownAll xs)) = true
    exact sOk_app (sOk_from (sOk_str _) (sOk_all (by simpa only [shOk] using h))) (sOk_str _)
  | .tuple xs, h => by
    show sOk (tupleText (PyData.shownAll xs)) = true
    exact sOk_app (sOk_app (sOk_str _) (sOk_join (sOk_all (by simpa only [shOk] using h)))) (by split <;> exact sOk_str _)
  | .dict _, h => by cases h
theorem sOk_all : ∀ {ps : List PyData}, shOkAll ps = true → ∀ t ∈ PyData.shownAll ps, sOk t = true
  | [], _, t, h => by cases h
  | x :: xs, h, t, ht => by
    simp only [shOkAll, Bool.and_eq_true] at h
    have ht : t ∈ x.shown :: PyData.shownAll xs := ht
    rcases List.mem_cons.mp ht with rfl | ht
    · exact sOk_shown h.1
    · exact sOk_all h.2 t ht
end
theorem shOk_map {α : Type} {f : α → PyData} (h : ∀ a, shOk (f a) = true) : ∀ l : List α, shOkAll (l.map f) = true
  | [] => rfl
  | a :: l => by
    simp only [List.map_cons, shOkAll, h a, shOk_map h l, Bool.and_self]
theorem shOk_pr {x : Int × Int} : shOk (pr x) = true := rfl
theorem shOk_qd {x : Int × Int × Int × Int} : shOk (qd x) = true := rfl
theorem shOk_prs {l : List (Int × Int)} : shOk (prs l) = true := by
  show shOk (.tuple _) = true
  simp only [shOk]
  exact shOk_map (fun _ => shOk_pr) l
theorem shOk_ti {l : List Int} : shOk (ti l) = true := by
  show shOk (.tuple _) = true
  simp only [shOk]
  exact shOk_map (fun _ => rfl) l
/-- the law's last look: what is passed stays -/
theorem c_ne_kept {p : PyData} {Q : D → Prop} (h : shOk p = true) (hq : Q (.B false)) : cmpD .NotEq (.S p.shown) (.S p.shown) Q := by
  have e : SeqAt.shaped (.str p.shown) = true := by
    show (sOk p.shown && decide ((PyData.str p.shown).depth ≤ 64)) = true
    rw [sOk_shown h]
    rfl
  refine ⟨⟨e, e⟩, ?_⟩
  have e2 : PyData.eqv (.str p.shown) (.str p.shown) = true := eqv_refl rfl
  rw [e2]
  exact hq
theorem c_ne_self {p : PyData} {Q : D → Prop} (h : SeqAt.shaped p = true) (hd : p.hasDict = false) (hq : Q (.B false)) : cmpD .NotEq (.py p) (.py p) Q := by
  refine ⟨⟨h, h⟩, ?_⟩
  rw [eqv_refl hd]
  exact hq
/-- n of the same, as a list times n -/
theorem rep_flat {p : PyData} {n : Nat} : (List.replicate n [p]).flatten = List.replicate n p := by
  induction n with
  | zero => rfl
  | succ n ih => rw [List.replicate_succ, List.flatten_cons, ih, List.replicate_succ]; rfl
/-- all calls are refused -/
theorem refused_all {n : Nat} {Q : D → Prop} (hn : n < 100) (hq : Q (.B false)) : cmpD .NotEq (.L (List.replicate n (.tuple [.str (exName 0)]))) (.L (List.replicate n (.tuple [.str "refused"]))) Q := by
  have e : exName 0 = ("refused" : Str) := rfl
  rw [e]
  refine c_ne_self ?_ ?_ hq
  · have h1 : Sh ("refused" : Str).cps.size 0 (.str "refused") := Sh.str (by decide +kernel)
    have h2 := Sh.tup (ShA.cons h1 ShA.nil)
    have h3 := ShA.all (ps := List.replicate n (PyData.tuple [.str "refused"])) fun p hp => by rw [List.eq_of_mem_replicate hp]; exact h2
    exact (Sh.lst h3).shaped (by decide)
  · have : ∀ n, PyData.hasDictAll (List.replicate n (PyData.tuple [.str "refused"])) = false := by
      intro n
      induction n with
      | zero => rfl
      | succ n ih => rw [List.replicate_succ]; simp only [PyData.hasDictAll, PyData.hasDict, ih, Bool.or_self]
    simp only [PyData.hasDict]
    exact this n
end Y

/-! part SB -/
set_option Elab.async false
set_option linter.all false
set_option maxRecDepth 100000
set_option maxHeartbeats 2000000
set_option exponentiation.threshold 5000
/-! SB: the base: fractions, the law's own numbers. -/
namespace Y
open PySem PySem.Spec
def n_law_stream : List Str := ["script", "numbers", "cell", "rest", "k", "stirred"]
/-- law_stream: number 0 -/
def b_law_stream : S := (.seq (.asgL 1 (.lst (.nil))) (.seq (.for_ (.var 2) (.scr 0) (.seq (.asg 3 (.bi .abs (.cons (.bi .int (.cons (.var 2) .nil)) .nil))) (.seq (.ite (.cmp .GtE (.var 3) (.bin .pow (.lit (.int 10)) (.lit (.int 18)))) (.seq (.for_ (.var 4) (.rng (.cons (.lit (.int 60)) .nil)) (.seq (.app 1 (.bin .mod (.bi .int (.cons (.var 3) .nil)) (.lit (.int 1009)))) (.seq (.asg 3 (.bin .fdiv (.var 3) (.lit (.int 1009)))) (.seq (.ite (.cmp .Eq (.var 3) (.lit (.int 0))) (.seq (.brk) .nil) .nil) .nil)))) .nil) (.seq (.asg 5 (.bin .mod (.bi .int (.cons (.var 3) .nil)) (.lit (.int 2147483647)))) (.seq (.for_ (.var 4) (.rng (.cons (.lit (.int 10)) .nil)) (.seq (.asg 5 (.bin .mod (.bi .int (.cons (.bin .add (.bin .add (.bin .mul (.var 5) (.lit (.int 48271))) (.bin .mul (.lit (.int 7)) (.var 4))) (.lit (.int 11))) .nil)) (.lit (.int 2147483647)))) (.seq (.app 1 (.bin .mod (.bin .mod (.bi .int (.cons (.bin .add (.bin .mul (.var 5) (.lit (.int 69621))) (.var 4)) .nil)) (.lit (.int 2147483629))) (.lit (.int 1009)))) .nil))) .nil))) .nil))) (.seq (.ite (.cmp .Eq (.bi .len (.cons (.bvar 1) .nil)) (.lit (.int 0))) (.seq (.app 1 (.lit (.int 0))) .nil) .nil) (.seq (.frz 1) (.seq (.ret (.var 1)) .nil)))))
def n_law_divisor : List Str := ["first", "second"]
/-- law_divisor: number 2 -/
def b_law_divisor : S := (.seq (.while_ (.cmp .Gt (.var 1) (.lit (.int 0))) (.seq (.par 0 1 (.var 1) (.bin .mod (.bi .int (.cons (.var 0) .nil)) (.var 1))) .nil)) (.seq (.ret (.var 0)) .nil))
def n_law_reduced : List Str := ["top", "below", "common"]
/-- law_reduced: number 3 -/
def b_law_reduced : S := (.seq (.asg 2 (.call 2 (.cons (.bi .max (.cons (.var 0) (.cons (.bin .sub (.lit (.int 0)) (.var 0)) .nil))) (.cons (.var 1) .nil)))) (.seq (.ret (.tup (.cons (.bin .fdiv (.var 0) (.var 2)) (.cons (.bin .fdiv (.var 1) (.var 2)) .nil)))) .nil))
def n_law_more : List Str := ["one", "other"]
/-- law_more: number 9 -/
def b_law_more : S := (.seq (.ret (.cmp .Gt (.bin .mul (.ix (.var 0) (.lit (.int 0))) (.ix (.var 1) (.lit (.int 1)))) (.bin .mul (.ix (.var 1) (.lit (.int 0))) (.ix (.var 0) (.lit (.int 1)))))) .nil)
def n_divisor : List Str := ["first", "second"]
/-- divisor: number 11 -/
def b_divisor : S := (.seq (.par 0 1 (.bi .abs (.cons (.var 0) .nil)) (.bi .abs (.cons (.var 1) .nil))) (.seq (.while_ (.cmp .Gt (.var 1) (.lit (.int 0))) (.seq (.par 0 1 (.var 1) (.bin .mod (.var 0) (.var 1))) .nil)) (.seq (.ret (.var 0)) .nil)))
def n_fraction : List Str := ["top", "below", "common"]
/-- fraction: number 12 -/
def b_fraction : S := (.seq (.ite (.cmp .Eq (.var 1) (.lit (.int 0))) (.seq (.raise 0 .nil) .nil) .nil) (.seq (.asg 2 (.call 11 (.cons (.var 0) (.cons (.var 1) .nil)))) (.seq (.ite (.cmp .Lt (.var 1) (.lit (.int 0))) (.seq (.asg 2 (.neg (.var 2))) .nil) .nil) (.seq (.ret (.tup (.cons (.bin .fdiv (.var 0) (.var 2)) (.cons (.bin .fdiv (.var 1) (.var 2)) .nil)))) .nil))))
def n_added : List Str := ["first", "second"]
/-- added: number 13 -/
def b_added : S := (.seq (.ret (.call 12 (.cons (.bin .add (.bin .mul (.ix (.var 0) (.lit (.int 0))) (.ix (.var 1) (.lit (.int 1)))) (.bin .mul (.ix (.var 1) (.lit (.int 0))) (.ix (.var 0) (.lit (.int 1))))) (.cons (.bin .mul (.ix (.var 0) (.lit (.int 1))) (.ix (.var 1) (.lit (.int 1)))) .nil)))) .nil)
def n_times2 : List Str := ["first", "second"]
/-- times: number 159 -/
def b_times2 : S := (.seq (.ret (.call 12 (.cons (.bin .mul (.ix (.var 0) (.lit (.int 0))) (.ix (.var 1) (.lit (.int 0)))) (.cons (.bin .mul (.ix (.var 0) (.lit (.int 1))) (.ix (.var 1) (.lit (.int 1)))) .nil)))) .nil)
def n_is_fraction : List Str := ["value"]
/-- is_fraction: number 15 -/
def b_is_fraction : S := (.seq (.ret (.and (.cmp .Eq (.bi .len (.cons (.var 0) .nil)) (.lit (.int 2))) (.and (.cmp .GtE (.ix (.var 0) (.lit (.int 1))) (.lit (.int 1))) (.cmp .Eq (.call 11 (.cons (.ix (.var 0) (.lit (.int 0))) (.cons (.ix (.var 0) (.lit (.int 1))) .nil))) (.lit (.int 1)))))) .nil)
def n_less : List Str := ["first", "second"]
/-- less: number 27 -/
def b_less : S := (.seq (.ret (.cmp .Lt (.bin .mul (.ix (.var 0) (.lit (.int 0))) (.ix (.var 1) (.lit (.int 1)))) (.bin .mul (.ix (.var 1) (.lit (.int 0))) (.ix (.var 0) (.lit (.int 1)))))) .nil)
def n_size : List Str := ["value"]
/-- size: number 25 -/
def b_size : S := (.seq (.ret (.tup (.cons (.bi .abs (.cons (.ix (.var 0) (.lit (.int 0))) .nil)) (.cons (.ix (.var 0) (.lit (.int 1))) .nil)))) .nil)
def n_law_size : List Str := ["value"]
/-- law_size: number 22 -/
def b_law_size : S := (.seq (.ret (.tup (.cons (.bi .max (.cons (.ix (.var 0) (.lit (.int 0))) (.cons (.bin .sub (.lit (.int 0)) (.ix (.var 0) (.lit (.int 0)))) .nil))) (.cons (.ix (.var 0) (.lit (.int 1))) .nil)))) .nil)
/-! ### plain functions -/
def red (a b : Int) : Int × Int := (a.fdiv (Int.gcd a b), b.fdiv (Int.gcd a b))
def sgn (b g : Int) : Int := if b < 0 then -g else g
def frac (a b : Int) : Int × Int := (a.fdiv (sgn b (Int.gcd a b)), b.fdiv (sgn b (Int.gcd a b)))
def okF (x : Int × Int) : Bool := decide (1 ≤ x.2) && decide (Int.gcd x.1 x.2 = 1)
def ZF (n : Nat) (x : Int × Int) : Prop := Z n x.1 ∧ Z n x.2
instance {n : Nat} {x : Int × Int} : Decidable (ZF n x) := inferInstanceAs (Decidable (_ ∧ _))
def addF (a b : Int × Int) : Int × Int := frac (a.1 * b.2 + b.1 * a.2) (a.2 * b.2)
def mulF (a b : Int × Int) : Int × Int := frac (a.1 * b.1) (a.2 * b.2)
def ltF (a b : Int × Int) : Prop := a.1 * b.2 < b.1 * a.2
instance : Decidable (ltF a b) := inferInstanceAs (Decidable (_ < _))
def absF (a : Int × Int) : Int × Int := (a.1.natAbs, a.2)
def C_law_stream : Ct := fun ds Q E => ds = [.scr] ∧ (∀ ms : List Int, 0 < ms.length → ms.length ≤ 4000 → (∀ z ∈ ms, 0 ≤ z ∧ z < 1009) → Q (.L (ms.map PyData.int)))
theorem p_law_stream  {Q : D → Prop} {E : Nat → Prop} : C_law_stream [.scr] Q E ↔ (∀ ms : List Int, 0 < ms.length → ms.length ≤ 4000 → (∀ z ∈ ms, 0 ≤ z ∧ z < 1009) → Q (.L (ms.map PyData.int))) := ⟨fun ⟨e, h⟩ => by exact h, fun h => ⟨rfl, h⟩⟩
def C_law_next : Ct := fun ds Q E => ∃ (m : Int), ds = [.st, .I m] ∧ (0 < m ∧ ∀ x : Int, 0 ≤ x → x < m → Q (.I x))
theorem p_law_next {m : Int} {Q : D → Prop} {E : Nat → Prop} : C_law_next [.st, .I m] Q E ↔ (0 < m ∧ ∀ x : Int, 0 ≤ x → x < m → Q (.I x)) := ⟨fun ⟨m', e, h⟩ => by simp only [List.cons.injEq, D.py.injEq, PyData.int.injEq, PyData.bool.injEq, PyData.str.injEq, pr_inj, qd_inj, prs_inj, ti_inj, li_inj, and_true, true_and] at e; obtain rfl := e; exact h, fun h => ⟨_, rfl, h⟩⟩
def C_law_divisor : Ct := fun ds Q E => ∃ (a : Int) (b : Int), ds = [.I a, .I b] ∧ (0 ≤ a ∧ 0 ≤ b ∧ Q (.I (Int.gcd a b)))
theorem p_law_divisor {a : Int} {b : Int} {Q : D → Prop} {E : Nat → Prop} : C_law_divisor [.I a, .I b] Q E ↔ (0 ≤ a ∧ 0 ≤ b ∧ Q (.I (Int.gcd a b))) := ⟨fun ⟨a', b', e, h⟩ => by simp only [List.cons.injEq, D.py.injEq, PyData.int.injEq, PyData.bool.injEq, PyData.str.injEq, pr_inj, qd_inj, prs_inj, ti_inj, li_inj, and_true, true_and] at e; obtain ⟨rfl, rfl⟩ := e; exact h, fun h => ⟨_, _, rfl, h⟩⟩
def C_law_reduced : Ct := fun ds Q E => ∃ (a : Int) (b : Int), ds = [.I a, .I b] ∧ (0 < b ∧ b.natAbs ≤ bigI ∧ Q (.py (pr (red a b))))
theorem p_law_reduced {a : Int} {b : Int} {Q : D → Prop} {E : Nat → Prop} : C_law_reduced [.I a, .I b] Q E ↔ (0 < b ∧ b.natAbs ≤ bigI ∧ Q (.py (pr (red a b)))) := ⟨fun ⟨a', b', e, h⟩ => by simp only [List.cons.injEq, D.py.injEq, PyData.int.injEq, PyData.bool.injEq, PyData.str.injEq, pr_inj, qd_inj, prs_inj, ti_inj, li_inj, and_true, true_and] at e; obtain ⟨rfl, rfl⟩ := e; exact h, fun h => ⟨_, _, rfl, h⟩⟩
def C_law_more : Ct := fun ds Q E => ∃ (a : Int × Int) (b : Int × Int), ds = [.py (pr a), .py (pr b)] ∧ (ZF 900 a ∧ ZF 900 b ∧ Q (.B (decide (ltF b a))))
theorem p_law_more {a : Int × Int} {b : Int × Int} {Q : D → Prop} {E : Nat → Prop} : C_law_more [.py (pr a), .py (pr b)] Q E ↔ (ZF 900 a ∧ ZF 900 b ∧ Q (.B (decide (ltF b a)))) := ⟨fun ⟨a', b', e, h⟩ => by simp only [List.cons.injEq, D.py.injEq, PyData.int.injEq, PyData.bool.injEq, PyData.str.injEq, pr_inj, qd_inj, prs_inj, ti_inj, li_inj, and_true, true_and] at e; obtain ⟨rfl, rfl⟩ := e; exact h, fun h => ⟨_, _, rfl, h⟩⟩
def C_divisor : Ct := fun ds Q E => ∃ (a : Int) (b : Int), ds = [.I a, .I b] ∧ (Q (.I (Int.gcd a b)))
theorem p_divisor {a : Int} {b : Int} {Q : D → Prop} {E : Nat → Prop} : C_divisor [.I a, .I b] Q E ↔ (Q (.I (Int.gcd a b))) := ⟨fun ⟨a', b', e, h⟩ => by simp only [List.cons.injEq, D.py.injEq, PyData.int.injEq, PyData.bool.injEq, PyData.str.injEq, pr_inj, qd_inj, prs_inj, ti_inj, li_inj, and_true, true_and] at e; obtain ⟨rfl, rfl⟩ := e; exact h, fun h => ⟨_, _, rfl, h⟩⟩
def C_fraction : Ct := fun ds Q E => ∃ (a : Int) (b : Int), ds = [.I a, .I b] ∧ (b.natAbs ≤ bigI ∧ (b = 0 → E 0) ∧ (b ≠ 0 → Q (.py (pr (frac a b)))))
theorem p_fraction {a : Int} {b : Int} {Q : D → Prop} {E : Nat → Prop} : C_fraction [.I a, .I b] Q E ↔ (b.natAbs ≤ bigI ∧ (b = 0 → E 0) ∧ (b ≠ 0 → Q (.py (pr (frac a b))))) := ⟨fun ⟨a', b', e, h⟩ => by simp only [List.cons.injEq, D.py.injEq, PyData.int.injEq, PyData.bool.injEq, PyData.str.injEq, pr_inj, qd_inj, prs_inj, ti_inj, li_inj, and_true, true_and] at e; obtain ⟨rfl, rfl⟩ := e; exact h, fun h => ⟨_, _, rfl, h⟩⟩
def C_added : Ct := fun ds Q E => ∃ (a : Int × Int) (b : Int × Int), ds = [.py (pr a), .py (pr b)] ∧ (ZF 900 a ∧ ZF 900 b ∧ (a.2 * b.2 = 0 → E 0) ∧ (a.2 * b.2 ≠ 0 → Q (.py (pr (addF a b)))))
theorem p_added {a : Int × Int} {b : Int × Int} {Q : D → Prop} {E : Nat → Prop} : C_added [.py (pr a), .py (pr b)] Q E ↔ (ZF 900 a ∧ ZF 900 b ∧ (a.2 * b.2 = 0 → E 0) ∧ (a.2 * b.2 ≠ 0 → Q (.py (pr (addF a b))))) := ⟨fun ⟨a', b', e, h⟩ => by simp only [List.cons.injEq, D.py.injEq, PyData.int.injEq, PyData.bool.injEq, PyData.str.injEq, pr_inj, qd_inj, prs_inj, ti_inj, li_inj, and_true, true_and] at e; obtain ⟨rfl, rfl⟩ := e; exact h, fun h => ⟨_, _, rfl, h⟩⟩
def C_times2 : Ct := fun ds Q E => ∃ (a : Int × Int) (b : Int × Int), ds = [.py (pr a), .py (pr b)] ∧ (ZF 900 a ∧ ZF 900 b ∧ (a.2 * b.2 = 0 → E 0) ∧ (a.2 * b.2 ≠ 0 → Q (.py (pr (mulF a b)))))
theorem p_times2 {a : Int × Int} {b : Int × Int} {Q : D → Prop} {E : Nat → Prop} : C_times2 [.py (pr a), .py (pr b)] Q E ↔ (ZF 900 a ∧ ZF 900 b ∧ (a.2 * b.2 = 0 → E 0) ∧ (a.2 * b.2 ≠ 0 → Q (.py (pr (mulF a b))))) := ⟨fun ⟨a', b', e, h⟩ => by simp only [List.cons.injEq, D.py.injEq, PyData.int.injEq, PyData.bool.injEq, PyData.str.injEq, pr_inj, qd_inj, prs_inj, ti_inj, li_inj, and_true, true_and] at e; obtain ⟨rfl, rfl⟩ := e; exact h, fun h => ⟨_, _, rfl, h⟩⟩
def C_is_fraction : Ct := fun ds Q E => ∃ (a : Int × Int), ds = [.py (pr a)] ∧ (Q (.B (okF a)))
theorem p_is_fraction {a : Int × Int} {Q : D → Prop} {E : Nat → Prop} : C_is_fraction [.py (pr a)] Q E ↔ (Q (.B (okF a))) := ⟨fun ⟨a', e, h⟩ => by simp only [List.cons.injEq, D.py.injEq, PyData.int.injEq, PyData.bool.injEq, PyData.str.injEq, pr_inj, qd_inj, prs_inj, ti_inj, li_inj, and_true, true_and] at e; obtain rfl := e; exact h, fun h => ⟨_, rfl, h⟩⟩
def C_less : Ct := fun ds Q E => ∃ (a : Int × Int) (b : Int × Int), ds = [.py (pr a), .py (pr b)] ∧ (ZF 900 a ∧ ZF 900 b ∧ Q (.B (decide (ltF a b))))
theorem p_less {a : Int × Int} {b : Int × Int} {Q : D → Prop} {E : Nat → Prop} : C_less [.py (pr a), .py (pr b)] Q E ↔ (ZF 900 a ∧ ZF 900 b ∧ Q (.B (decide (ltF a b)))) := ⟨fun ⟨a', b', e, h⟩ => by simp only [List.cons.injEq, D.py.injEq, PyData.int.injEq, PyData.bool.injEq, PyData.str.injEq, pr_inj, qd_inj, prs_inj, ti_inj, li_inj, and_true, true_and] at e; obtain ⟨rfl, rfl⟩ := e; exact h, fun h => ⟨_, _, rfl, h⟩⟩
def C_size : Ct := fun ds Q E => ∃ (a : Int × Int), ds = [.py (pr a)] ∧ (Q (.py (pr (absF a))))
theorem p_size {a : Int × Int} {Q : D → Prop} {E : Nat → Prop} : C_size [.py (pr a)] Q E ↔ (Q (.py (pr (absF a)))) := ⟨fun ⟨a', e, h⟩ => by simp only [List.cons.injEq, D.py.injEq, PyData.int.injEq, PyData.bool.injEq, PyData.str.injEq, pr_inj, qd_inj, prs_inj, ti_inj, li_inj, and_true, true_and] at e; obtain rfl := e; exact h, fun h => ⟨_, rfl, h⟩⟩
def C_law_size : Ct := fun ds Q E => ∃ (a : Int × Int), ds = [.py (pr a)] ∧ (Q (.py (pr (absF a))))
theorem p_law_size {a : Int × Int} {Q : D → Prop} {E : Nat → Prop} : C_law_size [.py (pr a)] Q E ↔ (Q (.py (pr (absF a)))) := ⟨fun ⟨a', e, h⟩ => by simp only [List.cons.injEq, D.py.injEq, PyData.int.injEq, PyData.bool.injEq, PyData.str.injEq, pr_inj, qd_inj, prs_inj, ti_inj, li_inj, and_true, true_and] at e; obtain rfl := e; exact h, fun h => ⟨_, rfl, h⟩⟩
theorem gcd_step {a b : Int} (ha : 0 ≤ a) (hb : 0 < b) : Int.gcd b (a.fmod b) = Int.gcd a b := by
  rw [Int.fmod_eq_emod_of_nonneg _ (Int.le_of_lt hb)]
  obtain ⟨x, rfl⟩ := Int.eq_ofNat_of_zero_le ha
  obtain ⟨y, rfl⟩ := Int.eq_ofNat_of_zero_le (Int.le_of_lt hb)
  rw [← Int.natCast_emod]
  show Nat.gcd y (x % y) = Nat.gcd x y
  rw [Nat.gcd_comm y, ← Nat.gcd_rec, Nat.gcd_comm]
theorem ab (i : Int) : (if i < 0 then -i else i) = i.natAbs := by split <;> omega
theorem while_gcd {Q : D → Prop} {a b : Int} (ha : 0 ≤ a) (hb : 0 ≤ b) (hq : Q (.I (Int.gcd a b)))
    {turn : Ev → (Ev → Prop) → Prop} (ht : ∀ x y : Int, ∀ K : Ev → Prop, turn [some (.sh (.I x)), some (.sh (.I y))] K = (if decide (0 < y) = true then (y ≠ 0 ∧ K [some (.sh (.I y)), some (.sh (.I (x.fmod y)))]) else Q (.I x))) :
    ∃ n, whileW turn n [some (.sh (.I a)), some (.sh (.I b))] := by
  refine while_rule (fun m ρ => ∃ x y : Int, ρ = [some (.sh (.I x)), some (.sh (.I y))] ∧ 0 ≤ x ∧ 0 ≤ y ∧ m = y.toNat ∧ Int.gcd x y = Int.gcd a b) b.toNat ⟨a, b, rfl, ha, hb, rfl, rfl⟩ ?_
  rintro m ρ K ⟨x, y, rfl, hx, hy, rfl, hg⟩ hK
  rw [ht]
  split
  · rename_i h
    have h := of_decide_eq_true h
    have hm : x.fmod y = x % y := Int.fmod_eq_emod_of_nonneg _ hy
    have h1 := Int.emod_nonneg x (Int.ne_of_gt h)
    have h2 := Int.emod_lt_of_pos x h
    exact ⟨Int.ne_of_gt h, hK _ _ (by rw [hm]; omega) ⟨y, _, rfl, hy, by rw [hm]; exact h1, rfl, by rw [gcd_step hx h, hg]⟩⟩
  · rename_i h
    have : y = 0 := by
      have : ¬ 0 < y := fun z => h (decide_eq_true z)
      omega
    subst this
    rw [← hg, Int.gcd_zero_right] at hq
    have : (x.natAbs : Int) = x := by omega
    rw [this] at hq
    exact hq
theorem s_divisor {Φ : PhiT}  (ds : List D) (Q : D → Prop) (E : Nat → Prop) (h : C_divisor ds Q E) : ds.length = 2 ∧ wpS Φ exName b_divisor (initE n_divisor ds) (endF Q E) := by
  obtain ⟨a, b, rfl, hq⟩ := h
  refine ⟨rfl, ?_⟩
  simp only [wpS, wp, getV, getB, initE, endF, bindG, List.map_cons, List.map_nil, List.length_cons, List.length_nil, List.cons_append, List.nil_append, List.append_nil, List.getElem?_cons_zero, List.getElem?_cons_succ, List.set_cons_zero, List.set_cons_succ, partD, k_L, k_T, l_lenT, l_lenL, l_int, l_intB, l_abs, l_max2, l_max3, l_max4, l_min2, l_maxL, l_minL, l_sum, l_all, l_any, l_tupL, l_tupT, l_lisL, l_lisT, r_1, r_2, r_l, i_L, i_T, i_A, if_true, if_false, ite_true, ite_false, not_false_eq_true, not_true_eq_false, Bool.false_eq_true, ite_not, b_add, b_addT, b_addL, b_sub, b_subB, b_mul, b_mulT, b_mulL, b_fdiv, b_mod, b_pow, a_add, a_sub, a_mul, a_fdiv, c_lt, c_le, c_gt, c_ge, c_eqI, c_neI, c_eqB, c_neB, seqP, pysD, Option.map_some, List.replicate_zero, List.replicate_succ, Nat.zero_add, Nat.add_zero, Nat.reduceAdd, Nat.reduceSub, Nat.reduceLeDiff, decide_eq_true_eq, Bool.not_eq_true', decide_eq_false_iff_not, Nat.sub_self, Option.some.injEq, exists_eq_left', exists_eq_left, x_pick, f_pr, f_qd, f_prT, f_qdT, x_pr0, x_pr1, x_qd0, x_qd1, x_qd2, x_qd3, g_pr, g_qd, l_pr, l_qd, l_prs, l_ti, l_li, c_eq_pr, c_ne_pr, c_eq_qd, c_ne_qd, i_pr, i_qd, i_prs, i_ti, i_li, true_and, and_true, sl0, sl1, sl2, sl3, sl4, sl5, sl6, sl7, sl8, sl9, sl10, sl11, sl12, sl13, sl14, mketa, wipe1, shE_cons, shE_nil, shS_sh, shS_ow, shS_none, eq_self, and_self, decide_true, decide_false, reduceCtorEq, false_and, and_false, true_implies, false_implies, implies_true, not_true_eq_false, Bool.not_true, Bool.not_false, Bool.true_and, Bool.false_and, Bool.and_true, Bool.and_false, Bool.or_true, Bool.true_or, Bool.or_false, Bool.false_or, Int.reduceLT, Int.reduceLE, Nat.reduceLT, b_divisor, n_divisor]
  simp only [ab]
  exact while_gcd (Q := Q) (a := a.natAbs) (b := b.natAbs) (by omega) (by omega) hq fun x y K => rfl
theorem s_law_divisor {Φ : PhiT}  (ds : List D) (Q : D → Prop) (E : Nat → Prop) (h : C_law_divisor ds Q E) : ds.length = 2 ∧ wpS Φ exName b_law_divisor (initE n_law_divisor ds) (endF Q E) := by
  obtain ⟨a, b, rfl, ha, hb, hq⟩ := h
  refine ⟨rfl, ?_⟩
  simp only [wpS, wp, getV, getB, initE, endF, bindG, List.map_cons, List.map_nil, List.length_cons, List.length_nil, List.cons_append, List.nil_append, List.append_nil, List.getElem?_cons_zero, List.getElem?_cons_succ, List.set_cons_zero, List.set_cons_succ, partD, k_L, k_T, l_lenT, l_lenL, l_int, l_intB, l_abs, l_max2, l_max3, l_max4, l_min2, l_maxL, l_minL, l_sum, l_all, l_any, l_tupL, l_tupT, l_lisL, l_lisT, r_1, r_2, r_l, i_L, i_T, i_A, if_true, if_false, ite_true, ite_false, not_false_eq_true, not_true_eq_false, Bool.false_eq_true, ite_not, b_add, b_addT, b_addL, b_sub, b_subB, b_mul, b_mulT, b_mulL, b_fdiv, b_mod, b_pow, a_add, a_sub, a_mul, a_fdiv, c_lt, c_le, c_gt, c_ge, c_eqI, c_neI, c_eqB, c_neB, seqP, pysD, Option.map_some, List.replicate_zero, List.replicate_succ, Nat.zero_add, Nat.add_zero, Nat.reduceAdd, Nat.reduceSub, Nat.reduceLeDiff, decide_eq_true_eq, Bool.not_eq_true', decide_eq_false_iff_not, Nat.sub_self, Option.some.injEq, exists_eq_left', exists_eq_left, x_pick, f_pr, f_qd, f_prT, f_qdT, x_pr0, x_pr1, x_qd0, x_qd1, x_qd2, x_qd3, g_pr, g_qd, l_pr, l_qd, l_prs, l_ti, l_li, c_eq_pr, c_ne_pr, c_eq_qd, c_ne_qd, i_pr, i_qd, i_prs, i_ti, i_li, true_and, and_true, sl0, sl1, sl2, sl3, sl4, sl5, sl6, sl7, sl8, sl9, sl10, sl11, sl12, sl13, sl14, mketa, wipe1, shE_cons, shE_nil, shS_sh, shS_ow, shS_none, eq_self, and_self, decide_true, decide_false, reduceCtorEq, false_and, and_false, true_implies, false_implies, implies_true, not_true_eq_false, Bool.not_true, Bool.not_false, Bool.true_and, Bool.false_and, Bool.and_true, Bool.and_false, Bool.or_true, Bool.true_or, Bool.or_false, Bool.false_or, Int.reduceLT, Int.reduceLE, Nat.reduceLT, b_law_divisor, n_law_divisor]
  exact while_gcd (Q := Q) ha hb hq fun x y K => rfl
theorem gcd_le {a b : Int} (hb : b ≠ 0) : Int.gcd a b ≤ b.natAbs := Nat.gcd_le_right _ (by omega)
theorem gcd_pos {a b : Int} (hb : b ≠ 0) : 0 < Int.gcd a b := Nat.gcd_pos_of_pos_right _ (by omega)
theorem s_fraction {Φ : PhiT} (h_divisor : Φ 11 = C_divisor) (ds : List D) (Q : D → Prop) (E : Nat → Prop) (h : C_fraction ds Q E) : ds.length = 2 ∧ wpS Φ exName b_fraction (initE n_fraction ds) (endF Q E) := by
  obtain ⟨a, b, rfl, hb, he, hq⟩ := h
  refine ⟨rfl, ?_⟩
  simp only [wpS, wp, getV, getB, initE, endF, bindG, List.map_cons, List.map_nil, List.length_cons, List.length_nil, List.cons_append, List.nil_append, List.append_nil, List.getElem?_cons_zero, List.getElem?_cons_succ, List.set_cons_zero, List.set_cons_succ, partD, k_L, k_T, l_lenT, l_lenL, l_int, l_intB, l_abs, l_max2, l_max3, l_max4, l_min2, l_maxL, l_minL, l_sum, l_all, l_any, l_tupL, l_tupT, l_lisL, l_lisT, r_1, r_2, r_l, i_L, i_T, i_A, if_true, if_false, ite_true, ite_false, not_false_eq_true, not_true_eq_false, Bool.false_eq_true, ite_not, b_add, b_addT, b_addL, b_sub, b_subB, b_mul, b_mulT, b_mulL, b_fdiv, b_mod, b_pow, a_add, a_sub, a_mul, a_fdiv, c_lt, c_le, c_gt, c_ge, c_eqI, c_neI, c_eqB, c_neB, seqP, pysD, Option.map_some, List.replicate_zero, List.replicate_succ, Nat.zero_add, Nat.add_zero, Nat.reduceAdd, Nat.reduceSub, Nat.reduceLeDiff, decide_eq_true_eq, Bool.not_eq_true', decide_eq_false_iff_not, Nat.sub_self, Option.some.injEq, exists_eq_left', exists_eq_left, x_pick, f_pr, f_qd, f_prT, f_qdT, x_pr0, x_pr1, x_qd0, x_qd1, x_qd2, x_qd3, g_pr, g_qd, l_pr, l_qd, l_prs, l_ti, l_li, c_eq_pr, c_ne_pr, c_eq_qd, c_ne_qd, i_pr, i_qd, i_prs, i_ti, i_li, true_and, and_true, sl0, sl1, sl2, sl3, sl4, sl5, sl6, sl7, sl8, sl9, sl10, sl11, sl12, sl13, sl14, mketa, wipe1, shE_cons, shE_nil, shS_sh, shS_ow, shS_none, eq_self, and_self, decide_true, decide_false, reduceCtorEq, false_and, and_false, true_implies, false_implies, implies_true, not_true_eq_false, Bool.not_true, Bool.not_false, Bool.true_and, Bool.false_and, Bool.and_true, Bool.and_false, Bool.or_true, Bool.true_or, Bool.or_false, Bool.false_or, Int.reduceLT, Int.reduceLE, Nat.reduceLT, h_divisor, p_divisor, b_fraction, n_fraction]
  split
  · rename_i h
    exact he h
  · rename_i h
    have hq := hq h
    have h1 := gcd_le (a := a) h
    have h2 := gcd_pos (a := a) h
    unfold frac sgn at hq
    split
    · rename_i h3
      rw [if_pos h3] at hq
      have hl : (-(Int.gcd a b : Int)).natAbs.log2 < 9000 := lg (by omega)
      exact ⟨⟨by omega, hl⟩, ⟨by omega, hl⟩, hq⟩
    · rename_i h3
      rw [if_neg h3] at hq
      have hl : (Int.gcd a b : Int).natAbs.log2 < 9000 := lg (by omega)
      exact ⟨⟨by omega, hl⟩, ⟨by omega, hl⟩, hq⟩
theorem s_added {Φ : PhiT} (h_fraction : Φ 12 = C_fraction) (ds : List D) (Q : D → Prop) (E : Nat → Prop) (h : C_added ds Q E) : ds.length = 2 ∧ wpS Φ exName b_added (initE n_added ds) (endF Q E) := by
  obtain ⟨a, b, rfl, ha, hb, hq⟩ := h
  refine ⟨rfl, ?_⟩
  simp only [wpS, wp, getV, getB, initE, endF, bindG, List.map_cons, List.map_nil, List.length_cons, List.length_nil, List.cons_append, List.nil_append, List.append_nil, List.getElem?_cons_zero, List.getElem?_cons_succ, List.set_cons_zero, List.set_cons_succ, partD, k_L, k_T, l_lenT, l_lenL, l_int, l_intB, l_abs, l_max2, l_max3, l_max4, l_min2, l_maxL, l_minL, l_sum, l_all, l_any, l_tupL, l_tupT, l_lisL, l_lisT, r_1, r_2, r_l, i_L, i_T, i_A, if_true, if_false, ite_true, ite_false, not_false_eq_true, not_true_eq_false, Bool.false_eq_true, ite_not, b_add, b_addT, b_addL, b_sub, b_subB, b_mul, b_mulT, b_mulL, b_fdiv, b_mod, b_pow, a_add, a_sub, a_mul, a_fdiv, c_lt, c_le, c_gt, c_ge, c_eqI, c_neI, c_eqB, c_neB, seqP, pysD, Option.map_some, List.replicate_zero, List.replicate_succ, Nat.zero_add, Nat.add_zero, Nat.reduceAdd, Nat.reduceSub, Nat.reduceLeDiff, decide_eq_true_eq, Bool.not_eq_true', decide_eq_false_iff_not, Nat.sub_self, Option.some.injEq, exists_eq_left', exists_eq_left, x_pick, f_pr, f_qd, f_prT, f_qdT, x_pr0, x_pr1, x_qd0, x_qd1, x_qd2, x_qd3, g_pr, g_qd, l_pr, l_qd, l_prs, l_ti, l_li, c_eq_pr, c_ne_pr, c_eq_qd, c_ne_qd, i_pr, i_qd, i_prs, i_ti, i_li, true_and, and_true, sl0, sl1, sl2, sl3, sl4, sl5, sl6, sl7, sl8, sl9, sl10, sl11, sl12, sl13, sl14, mketa, wipe1, shE_cons, shE_nil, shS_sh, shS_ow, shS_none, eq_self, and_self, decide_true, decide_false, reduceCtorEq, false_and, and_false, true_implies, false_implies, implies_true, not_true_eq_false, Bool.not_true, Bool.not_false, Bool.true_and, Bool.false_and, Bool.and_true, Bool.and_false, Bool.or_true, Bool.true_or, Bool.or_false, Bool.false_or, Int.reduceLT, Int.reduceLE, Nat.reduceLT, h_fraction, p_fraction, b_added, n_added]
  obtain ⟨ha1, ha2⟩ := ha
  obtain ⟨hb1, hb2⟩ := hb
  exact ⟨cmz ha1 hb2 (by decide) (by decide), cmz hb1 ha2 (by decide) (by decide), cmz ha2 hb2 (by decide) (by decide), (ha2.mul hb2).big (by decide), hq⟩
theorem s_times2 {Φ : PhiT} (h_fraction : Φ 12 = C_fraction) (ds : List D) (Q : D → Prop) (E : Nat → Prop) (h : C_times2 ds Q E) : ds.length = 2 ∧ wpS Φ exName b_times2 (initE n_times2 ds) (endF Q E) := by
  obtain ⟨a, b, rfl, ha, hb, hq⟩ := h
  refine ⟨rfl, ?_⟩
  simp only [wpS, wp, getV, getB, initE, endF, bindG, List.map_cons, List.map_nil, List.length_cons, List.length_nil, List.cons_append, List.nil_append, List.append_nil, List.getElem?_cons_zero, List.getElem?_cons_succ, List.set_cons_zero, List.set_cons_succ, partD, k_L, k_T, l_lenT, l_lenL, l_int, l_intB, l_abs, l_max2, l_max3, l_max4, l_min2, l_maxL, l_minL, l_sum, l_all, l_any, l_tupL, l_tupT, l_lisL, l_lisT, r_1, r_2, r_l, i_L, i_T, i_A, if_true, if_false, ite_true, ite_false, not_false_eq_true, not_true_eq_false, Bool.false_eq_true, ite_not, b_add, b_addT, b_addL, b_sub, b_subB, b_mul, b_mulT, b_mulL, b_fdiv, b_mod, b_pow, a_add, a_sub, a_mul, a_fdiv, c_lt, c_le, c_gt, c_ge, c_eqI, c_neI, c_eqB, c_neB, seqP, pysD, Option.map_some, List.replicate_zero, List.replicate_succ, Nat.zero_add, Nat.add_zero, Nat.reduceAdd, Nat.reduceSub, Nat.reduceLeDiff, decide_eq_true_eq, Bool.not_eq_true', decide_eq_false_iff_not, Nat.sub_self, Option.some.injEq, exists_eq_left', exists_eq_left, x_pick, f_pr, f_qd, f_prT, f_qdT, x_pr0, x_pr1, x_qd0, x_qd1, x_qd2, x_qd3, g_pr, g_qd, l_pr, l_qd, l_prs, l_ti, l_li, c_eq_pr, c_ne_pr, c_eq_qd, c_ne_qd, i_pr, i_qd, i_prs, i_ti, i_li, true_and, and_true, sl0, sl1, sl2, sl3, sl4, sl5, sl6, sl7, sl8, sl9, sl10, sl11, sl12, sl13, sl14, mketa, wipe1, shE_cons, shE_nil, shS_sh, shS_ow, shS_none, eq_self, and_self, decide_true, decide_false, reduceCtorEq, false_and, and_false, true_implies, false_implies, implies_true, not_true_eq_false, Bool.not_true, Bool.not_false, Bool.true_and, Bool.false_and, Bool.and_true, Bool.and_false, Bool.or_true, Bool.true_or, Bool.or_false, Bool.false_or, Int.reduceLT, Int.reduceLE, Nat.reduceLT, h_fraction, p_fraction, b_times2, n_times2]
  obtain ⟨ha1, ha2⟩ := ha
  obtain ⟨hb1, hb2⟩ := hb
  exact ⟨cmz ha1 hb1 (by decide) (by decide), cmz ha2 hb2 (by decide) (by decide), (ha2.mul hb2).big (by decide), hq⟩
theorem s_is_fraction {Φ : PhiT} (h_divisor : Φ 11 = C_divisor) (ds : List D) (Q : D → Prop) (E : Nat → Prop) (h : C_is_fraction ds Q E) : ds.length = 1 ∧ wpS Φ exName b_is_fraction (initE n_is_fraction ds) (endF Q E) := by
  obtain ⟨a, rfl, hq⟩ := h
  refine ⟨rfl, ?_⟩
  simp only [wpS, wp, getV, getB, initE, endF, bindG, List.map_cons, List.map_nil, List.length_cons, List.length_nil, List.cons_append, List.nil_append, List.append_nil, List.getElem?_cons_zero, List.getElem?_cons_succ, List.set_cons_zero, List.set_cons_succ, partD, k_L, k_T, l_lenT, l_lenL, l_int, l_intB, l_abs, l_max2, l_max3, l_max4, l_min2, l_maxL, l_minL, l_sum, l_all, l_any, l_tupL, l_tupT, l_lisL, l_lisT, r_1, r_2, r_l, i_L, i_T, i_A, if_true, if_false, ite_true, ite_false, not_false_eq_true, not_true_eq_false, Bool.false_eq_true, ite_not, b_add, b_addT, b_addL, b_sub, b_subB, b_mul, b_mulT, b_mulL, b_fdiv, b_mod, b_pow, a_add, a_sub, a_mul, a_fdiv, c_lt, c_le, c_gt, c_ge, c_eqI, c_neI, c_eqB, c_neB, seqP, pysD, Option.map_some, List.replicate_zero, List.replicate_succ, Nat.zero_add, Nat.add_zero, Nat.reduceAdd, Nat.reduceSub, Nat.reduceLeDiff, decide_eq_true_eq, Bool.not_eq_true', decide_eq_false_iff_not, Nat.sub_self, Option.some.injEq, exists_eq_left', exists_eq_left, x_pick, f_pr, f_qd, f_prT, f_qdT, x_pr0, x_pr1, x_qd0, x_qd1, x_qd2, x_qd3, g_pr, g_qd, l_pr, l_qd, l_prs, l_ti, l_li, c_eq_pr, c_ne_pr, c_eq_qd, c_ne_qd, i_pr, i_qd, i_prs, i_ti, i_li, true_and, and_true, sl0, sl1, sl2, sl3, sl4, sl5, sl6, sl7, sl8, sl9, sl10, sl11, sl12, sl13, sl14, mketa, wipe1, shE_cons, shE_nil, shS_sh, shS_ow, shS_none, eq_self, and_self, decide_true, decide_false, reduceCtorEq, false_and, and_false, true_implies, false_implies, implies_true, not_true_eq_false, Bool.not_true, Bool.not_false, Bool.true_and, Bool.false_and, Bool.and_true, Bool.and_false, Bool.or_true, Bool.true_or, Bool.or_false, Bool.false_or, Int.reduceLT, Int.reduceLE, Nat.reduceLT, h_divisor, p_divisor, b_is_fraction, n_is_fraction]
  unfold okF at hq
  split
  · rename_i h
    rw [decide_eq_true h, Bool.true_and] at hq
    have e : decide ((Int.gcd a.1 a.2 : Int) = 1) = decide (Int.gcd a.1 a.2 = 1) := by
      have : ((Int.gcd a.1 a.2 : Int) = 1) ↔ (Int.gcd a.1 a.2 = 1) := by omega
      exact decide_eq_decide.mpr this
    rw [e]
    exact hq
  · rename_i h
    rw [decide_eq_false h, Bool.false_and] at hq
    exact hq
theorem s_law_reduced {Φ : PhiT} (h_law_divisor : Φ 2 = C_law_divisor) (ds : List D) (Q : D → Prop) (E : Nat → Prop) (h : C_law_reduced ds Q E) : ds.length = 2 ∧ wpS Φ exName b_law_reduced (initE n_law_reduced ds) (endF Q E) := by
  obtain ⟨a, b, rfl, hb, hl, hq⟩ := h
  refine ⟨rfl, ?_⟩
  simp only [wpS, wp, getV, getB, initE, endF, bindG, List.map_cons, List.map_nil, List.length_cons, List.length_nil, List.cons_append, List.nil_append, List.append_nil, List.getElem?_cons_zero, List.getElem?_cons_succ, List.set_cons_zero, List.set_cons_succ, partD, k_L, k_T, l_lenT, l_lenL, l_int, l_intB, l_abs, l_max2, l_max3, l_max4, l_min2, l_maxL, l_minL, l_sum, l_all, l_any, l_tupL, l_tupT, l_lisL, l_lisT, r_1, r_2, r_l, i_L, i_T, i_A, if_true, if_false, ite_true, ite_false, not_false_eq_true, not_true_eq_false, Bool.false_eq_true, ite_not, b_add, b_addT, b_addL, b_sub, b_subB, b_mul, b_mulT, b_mulL, b_fdiv, b_mod, b_pow, a_add, a_sub, a_mul, a_fdiv, c_lt, c_le, c_gt, c_ge, c_eqI, c_neI, c_eqB, c_neB, seqP, pysD, Option.map_some, List.replicate_zero, List.replicate_succ, Nat.zero_add, Nat.add_zero, Nat.reduceAdd, Nat.reduceSub, Nat.reduceLeDiff, decide_eq_true_eq, Bool.not_eq_true', decide_eq_false_iff_not, Nat.sub_self, Option.some.injEq, exists_eq_left', exists_eq_left, x_pick, f_pr, f_qd, f_prT, f_qdT, x_pr0, x_pr1, x_qd0, x_qd1, x_qd2, x_qd3, g_pr, g_qd, l_pr, l_qd, l_prs, l_ti, l_li, c_eq_pr, c_ne_pr, c_eq_qd, c_ne_qd, i_pr, i_qd, i_prs, i_ti, i_li, true_and, and_true, sl0, sl1, sl2, sl3, sl4, sl5, sl6, sl7, sl8, sl9, sl10, sl11, sl12, sl13, sl14, mketa, wipe1, shE_cons, shE_nil, shS_sh, shS_ow, shS_none, eq_self, and_self, decide_true, decide_false, reduceCtorEq, false_and, and_false, true_implies, false_implies, implies_true, not_true_eq_false, Bool.not_true, Bool.not_false, Bool.true_and, Bool.false_and, Bool.and_true, Bool.and_false, Bool.or_true, Bool.true_or, Bool.or_false, Bool.false_or, Int.reduceLT, Int.reduceLE, Nat.reduceLT, h_law_divisor, p_law_divisor, b_law_reduced, n_law_reduced]
  have h1 : Int.gcd (max a (0 - a)) b = Int.gcd a b := by
    have : (max a (0 - a)).natAbs = a.natAbs := by omega
    unfold Int.gcd
    rw [this]
  rw [h1]
  have h1 := gcd_le (a := a) (Int.ne_of_gt hb)
  have h2 := gcd_pos (a := a) (Int.ne_of_gt hb)
  have hz : (Int.gcd a b : Int).natAbs.log2 < 9000 := lg (by omega)
  exact ⟨by omega, by omega, ⟨by omega, hz⟩, ⟨by omega, hz⟩, hq⟩
theorem s_law_more {Φ : PhiT}  (ds : List D) (Q : D → Prop) (E : Nat → Prop) (h : C_law_more ds Q E) : ds.length = 2 ∧ wpS Φ exName b_law_more (initE n_law_more ds) (endF Q E) := by
  obtain ⟨a, b, rfl, ha, hb, hq⟩ := h
  refine ⟨rfl, ?_⟩
  simp only [wpS, wp, getV, getB, initE, endF, bindG, List.map_cons, List.map_nil, List.length_cons, List.length_nil, List.cons_append, List.nil_append, List.append_nil, List.getElem?_cons_zero, List.getElem?_cons_succ, List.set_cons_zero, List.set_cons_succ, partD, k_L, k_T, l_lenT, l_lenL, l_int, l_intB, l_abs, l_max2, l_max3, l_max4, l_min2, l_maxL, l_minL, l_sum, l_all, l_any, l_tupL, l_tupT, l_lisL, l_lisT, r_1, r_2, r_l, i_L, i_T, i_A, if_true, if_false, ite_true, ite_false, not_false_eq_true, not_true_eq_false, Bool.false_eq_true, ite_not, b_add, b_addT, b_addL, b_sub, b_subB, b_mul, b_mulT, b_mulL, b_fdiv, b_mod, b_pow, a_add, a_sub, a_mul, a_fdiv, c_lt, c_le, c_gt, c_ge, c_eqI, c_neI, c_eqB, c_neB, seqP, pysD, Option.map_some, List.replicate_zero, List.replicate_succ, Nat.zero_add, Nat.add_zero, Nat.reduceAdd, Nat.reduceSub, Nat.reduceLeDiff, decide_eq_true_eq, Bool.not_eq_true', decide_eq_false_iff_not, Nat.sub_self, Option.some.injEq, exists_eq_left', exists_eq_left, x_pick, f_pr, f_qd, f_prT, f_qdT, x_pr0, x_pr1, x_qd0, x_qd1, x_qd2, x_qd3, g_pr, g_qd, l_pr, l_qd, l_prs, l_ti, l_li, c_eq_pr, c_ne_pr, c_eq_qd, c_ne_qd, i_pr, i_qd, i_prs, i_ti, i_li, true_and, and_true, sl0, sl1, sl2, sl3, sl4, sl5, sl6, sl7, sl8, sl9, sl10, sl11, sl12, sl13, sl14, mketa, wipe1, shE_cons, shE_nil, shS_sh, shS_ow, shS_none, eq_self, and_self, decide_true, decide_false, reduceCtorEq, false_and, and_false, true_implies, false_implies, implies_true, not_true_eq_false, Bool.not_true, Bool.not_false, Bool.true_and, Bool.false_and, Bool.and_true, Bool.and_false, Bool.or_true, Bool.true_or, Bool.or_false, Bool.false_or, Int.reduceLT, Int.reduceLE, Nat.reduceLT, b_law_more, n_law_more]
  obtain ⟨ha1, ha2⟩ := ha
  obtain ⟨hb1, hb2⟩ := hb
  exact ⟨cmz ha1 hb2 (by decide) (by decide), cmz hb1 ha2 (by decide) (by decide), hq⟩
theorem s_less {Φ : PhiT}  (ds : List D) (Q : D → Prop) (E : Nat → Prop) (h : C_less ds Q E) : ds.length = 2 ∧ wpS Φ exName b_less (initE n_less ds) (endF Q E) := by
  obtain ⟨a, b, rfl, ha, hb, hq⟩ := h
  refine ⟨rfl, ?_⟩
  simp only [wpS, wp, getV, getB, initE, endF, bindG, List.map_cons, List.map_nil, List.length_cons, List.length_nil, List.cons_append, List.nil_append, List.append_nil, List.getElem?_cons_zero, List.getElem?_cons_succ, List.set_cons_zero, List.set_cons_succ, partD, k_L, k_T, l_lenT, l_lenL, l_int, l_intB, l_abs, l_max2, l_max3, l_max4, l_min2, l_maxL, l_minL, l_sum, l_all, l_any, l_tupL, l_tupT, l_lisL, l_lisT, r_1, r_2, r_l, i_L, i_T, i_A, if_true, if_false, ite_true, ite_false, not_false_eq_true, not_true_eq_false, Bool.false_eq_true, ite_not, b_add, b_addT, b_addL, b_sub, b_subB, b_mul, b_mulT, b_mulL, b_fdiv, b_mod, b_pow, a_add, a_sub, a_mul, a_fdiv, c_lt, c_le, c_gt, c_ge, c_eqI, c_neI, c_eqB, c_neB, seqP, pysD, Option.map_some, List.replicate_zero, List.replicate_succ, Nat.zero_add, Nat.add_zero, Nat.reduceAdd, Nat.reduceSub, Nat.reduceLeDiff, decide_eq_true_eq, Bool.not_eq_true', decide_eq_false_iff_not, Nat.sub_self, Option.some.injEq, exists_eq_left', exists_eq_left, x_pick, f_pr, f_qd, f_prT, f_qdT, x_pr0, x_pr1, x_qd0, x_qd1, x_qd2, x_qd3, g_pr, g_qd, l_pr, l_qd, l_prs, l_ti, l_li, c_eq_pr, c_ne_pr, c_eq_qd, c_ne_qd, i_pr, i_qd, i_prs, i_ti, i_li, true_and, and_true, sl0, sl1, sl2, sl3, sl4, sl5, sl6, sl7, sl8, sl9, sl10, sl11, sl12, sl13, sl14, mketa, wipe1, shE_cons, shE_nil, shS_sh, shS_ow, shS_none, eq_self, and_self, decide_true, decide_false, reduceCtorEq, false_and, and_false, true_implies, false_implies, implies_true, not_true_eq_false, Bool.not_true, Bool.not_false, Bool.true_and, Bool.false_and, Bool.and_true, Bool.and_false, Bool.or_true, Bool.true_or, Bool.or_false, Bool.false_or, Int.reduceLT, Int.reduceLE, Nat.reduceLT, b_less, n_less]
  obtain ⟨ha1, ha2⟩ := ha
  obtain ⟨hb1, hb2⟩ := hb
  exact ⟨cmz ha1 hb2 (by decide) (by decide), cmz hb1 ha2 (by decide) (by decide), hq⟩
theorem s_size {Φ : PhiT}  (ds : List D) (Q : D → Prop) (E : Nat → Prop) (h : C_size ds Q E) : ds.length = 1 ∧ wpS Φ exName b_size (initE n_size ds) (endF Q E) := by
  obtain ⟨a, rfl, hq⟩ := h
  refine ⟨rfl, ?_⟩
  simp only [wpS, wp, getV, getB, initE, endF, bindG, List.map_cons, List.map_nil, List.length_cons, List.length_nil, List.cons_append, List.nil_append, List.append_nil, List.getElem?_cons_zero, List.getElem?_cons_succ, List.set_cons_zero, List.set_cons_succ, partD, k_L, k_T, l_lenT, l_lenL, l_int, l_intB, l_abs, l_max2, l_max3, l_max4, l_min2, l_maxL, l_minL, l_sum, l_all, l_any, l_tupL, l_tupT, l_lisL, l_lisT, r_1, r_2, r_l, i_L, i_T, i_A, if_true, if_false, ite_true, ite_false, not_false_eq_true, not_true_eq_false, Bool.false_eq_true, ite_not, b_add, b_addT, b_addL, b_sub, b_subB, b_mul, b_mulT, b_mulL, b_fdiv, b_mod, b_pow, a_add, a_sub, a_mul, a_fdiv, c_lt, c_le, c_gt, c_ge, c_eqI, c_neI, c_eqB, c_neB, seqP, pysD, Option.map_some, List.replicate_zero, List.replicate_succ, Nat.zero_add, Nat.add_zero, Nat.reduceAdd, Nat.reduceSub, Nat.reduceLeDiff, decide_eq_true_eq, Bool.not_eq_true', decide_eq_false_iff_not, Nat.sub_self, Option.some.injEq, exists_eq_left', exists_eq_left, x_pick, f_pr, f_qd, f_prT, f_qdT, x_pr0, x_pr1, x_qd0, x_qd1, x_qd2, x_qd3, g_pr, g_qd, l_pr, l_qd, l_prs, l_ti, l_li, c_eq_pr, c_ne_pr, c_eq_qd, c_ne_qd, i_pr, i_qd, i_prs, i_ti, i_li, true_and, and_true, sl0, sl1, sl2, sl3, sl4, sl5, sl6, sl7, sl8, sl9, sl10, sl11, sl12, sl13, sl14, mketa, wipe1, shE_cons, shE_nil, shS_sh, shS_ow, shS_none, eq_self, and_self, decide_true, decide_false, reduceCtorEq, false_and, and_false, true_implies, false_implies, implies_true, not_true_eq_false, Bool.not_true, Bool.not_false, Bool.true_and, Bool.false_and, Bool.and_true, Bool.and_false, Bool.or_true, Bool.true_or, Bool.or_false, Bool.false_or, Int.reduceLT, Int.reduceLE, Nat.reduceLT, b_size, n_size]
  simp only [ab]
  exact hq
theorem s_law_size {Φ : PhiT}  (ds : List D) (Q : D → Prop) (E : Nat → Prop) (h : C_law_size ds Q E) : ds.length = 1 ∧ wpS Φ exName b_law_size (initE n_law_size ds) (endF Q E) := by
  obtain ⟨a, rfl, hq⟩ := h
  refine ⟨rfl, ?_⟩
  simp only [wpS, wp, getV, getB, initE, endF, bindG, List.map_cons, List.map_nil, List.length_cons, List.length_nil, List.cons_append, List.nil_append, List.append_nil, List.getElem?_cons_zero, List.getElem?_cons_succ, List.set_cons_zero, List.set_cons_succ, partD, k_L, k_T, l_lenT, l_lenL, l_int, l_intB, l_abs, l_max2, l_max3, l_max4, l_min2, l_maxL, l_minL, l_sum, l_all, l_any, l_tupL, l_tupT, l_lisL, l_lisT, r_1, r_2, r_l, i_L, i_T, i_A, if_true, if_false, ite_true, ite_false, not_false_eq_true, not_true_eq_false, Bool.false_eq_true, ite_not, b_add, b_addT, b_addL, b_sub, b_subB, b_mul, b_mulT, b_mulL, b_fdiv, b_mod, b_pow, a_add, a_sub, a_mul, a_fdiv, c_lt, c_le, c_gt, c_ge, c_eqI, c_neI, c_eqB, c_neB, seqP, pysD, Option.map_some, List.replicate_zero, List.replicate_succ, Nat.zero_add, Nat.add_zero, Nat.reduceAdd, Nat.reduceSub, Nat.reduceLeDiff, decide_eq_true_eq, Bool.not_eq_true', decide_eq_false_iff_not, Nat.sub_self, Option.some.injEq, exists_eq_left', exists_eq_left, x_pick, f_pr, f_qd, f_prT, f_qdT, x_pr0, x_pr1, x_qd0, x_qd1, x_qd2, x_qd3, g_pr, g_qd, l_pr, l_qd, l_prs, l_ti, l_li, c_eq_pr, c_ne_pr, c_eq_qd, c_ne_qd, i_pr, i_qd, i_prs, i_ti, i_li, true_and, and_true, sl0, sl1, sl2, sl3, sl4, sl5, sl6, sl7, sl8, sl9, sl10, sl11, sl12, sl13, sl14, mketa, wipe1, shE_cons, shE_nil, shS_sh, shS_ow, shS_none, eq_self, and_self, decide_true, decide_false, reduceCtorEq, false_and, and_false, true_implies, false_implies, implies_true, not_true_eq_false, Bool.not_true, Bool.not_false, Bool.true_and, Bool.false_and, Bool.and_true, Bool.and_false, Bool.or_true, Bool.true_or, Bool.or_false, Bool.false_or, Int.reduceLT, Int.reduceLE, Nat.reduceLT, b_law_size, n_law_size]
  have : max a.1 (0 - a.1) = (a.1.natAbs : Int) := by omega
  rw [this]
  exact hq
theorem frac_fst_le {a b : Int} : (frac a b).1.natAbs ≤ a.natAbs := by
  unfold frac
  exact Int.natAbs_fdiv_le_natAbs _ _
theorem frac_snd_le {a b : Int} : (frac a b).2.natAbs ≤ b.natAbs := by
  unfold frac
  exact Int.natAbs_fdiv_le_natAbs _ _
theorem frac_ne {a b : Int} (hb : b ≠ 0) : (frac a b).2 ≠ 0 := by
  have h2 := gcd_pos (a := a) hb
  have hd : (Int.gcd a b : Int) ∣ b := Int.gcd_dvd_right _ _
  have hs : sgn b (Int.gcd a b) ≠ 0 := by unfold sgn; split <;> omega
  have hd : sgn b (Int.gcd a b) ∣ b := by
    unfold sgn
    split
    · exact Int.neg_dvd.mpr hd
    · exact hd
  intro e
  have e : b.fdiv (sgn b (Int.gcd a b)) = 0 := e
  have := Int.mul_fdiv_cancel' hd
  rw [e, Int.mul_zero] at this
  exact hb this.symm
theorem frac_pos {a b : Int} (hb : 0 < b) : frac a b = (a / Int.gcd a b, b / Int.gcd a b) ∧ 0 < (frac a b).2 := by
  have h2 := gcd_pos (a := a) (Int.ne_of_gt hb)
  have e : frac a b = (a / Int.gcd a b, b / Int.gcd a b) := by
    unfold frac sgn
    rw [if_neg (by omega), Int.fdiv_eq_ediv_of_nonneg _ (by omega), Int.fdiv_eq_ediv_of_nonneg _ (by omega)]
  refine ⟨e, ?_⟩
  rw [e]
  exact Int.ediv_pos_of_pos_of_dvd hb (by omega) (Int.gcd_dvd_right _ _)
/-- below a denominator above 0 both ways of reducing are one -/
theorem frac_red {a b : Int} (hb : 0 < b) : frac a b = red a b := by
  unfold frac red sgn
  rw [if_neg (by omega)]
theorem frac_ok {a b : Int} (hb : 0 < b) : okF (frac a b) = true := by
  have h := frac_pos (a := a) hb
  have h2 := gcd_pos (a := a) (Int.ne_of_gt hb)
  unfold okF
  rw [Bool.and_eq_true, decide_eq_true_eq, decide_eq_true_eq]
  exact ⟨h.2, by rw [h.1]; exact Int.gcd_ediv_gcd_ediv_gcd h2⟩
theorem ZF.frac {n m : Nat} {a b : Int} (h : Z n a) (g : Z m b) : ZF (max n m) (frac a b) :=
  ⟨Z.mono (Nat.le_trans frac_fst_le h) (Nat.le_max_left _ _), Z.mono (Nat.le_trans frac_snd_le g) (Nat.le_max_right _ _)⟩
theorem ZF.mono {n m : Nat} {a : Int × Int} (h : ZF n a) (e : n ≤ m) : ZF m a := ⟨h.1.mono e, h.2.mono e⟩
theorem ZF.mk {n m k : Nat} {a b : Int} (h : Z n a) (g : Z m b) (e1 : n ≤ k) (e2 : m ≤ k) : ZF k (a, b) := ⟨h.mono e1, g.mono e2⟩
theorem ZF.abs {n : Nat} {a : Int × Int} (h : ZF n a) : ZF n (absF a) := ⟨h.1.abs, h.2⟩
theorem ZF.add {n m : Nat} {a b : Int × Int} (h : ZF n a) (g : ZF m b) : ZF (n + m + 1) (addF a b) :=
  (ZF.frac ((h.1.mul g.2).add (g.1.mul h.2)) (h.2.mul g.2)).mono (by omega)
theorem ZF.mulF {n m : Nat} {a b : Int × Int} (h : ZF n a) (g : ZF m b) : ZF (n + m) (mulF a b) :=
  (ZF.frac (h.1.mul g.1) (h.2.mul g.2)).mono (by omega)
/-- a reduced pair stands for its ratio: cross products -/
theorem frac_cross {a b : Int} (hb : b ≠ 0) : (frac a b).1 * b = a * (frac a b).2 := by
  have hd1 : (Int.gcd a b : Int) ∣ a := Int.gcd_dvd_left _ _
  have hd2 : (Int.gcd a b : Int) ∣ b := Int.gcd_dvd_right _ _
  have h2 := gcd_pos (a := a) hb
  have hs1 : sgn b (Int.gcd a b) ∣ a := by
    unfold sgn
    split
    · exact Int.neg_dvd.mpr hd1
    · exact hd1
  have hs2 : sgn b (Int.gcd a b) ∣ b := by
    unfold sgn
    split
    · exact Int.neg_dvd.mpr hd2
    · exact hd2
  unfold frac
  show a.fdiv _ * b = a * b.fdiv _
  have e1 := Int.mul_fdiv_cancel' hs1
  have e2 := Int.mul_fdiv_cancel' hs2
  generalize sgn b (Int.gcd a b) = s at *
  generalize a.fdiv s = p at *
  generalize b.fdiv s = q at *
  subst e1 e2
  grind
theorem fmodp {m : Int} (r : Int) (h : 0 < m) : 0 ≤ r.fmod m ∧ r.fmod m < m := by
  rw [Int.fmod_eq_emod_of_nonneg _ (by omega)]
  exact ⟨Int.emod_nonneg _ (by omega), Int.emod_lt_of_pos _ h⟩
theorem fmod9 (r : Int) : 0 ≤ r.fmod 1009 ∧ r.fmod 1009 < 1009 := fmodp r (by decide)
theorem s_law_stream {Φ : PhiT}  (ds : List D) (Q : D → Prop) (E : Nat → Prop) (h : C_law_stream ds Q E) : ds.length = 1 ∧ wpS Φ exName b_law_stream (initE n_law_stream ds) (endF Q E) := by
  obtain ⟨rfl, hq⟩ := h
  refine ⟨rfl, ?_⟩
  simp only [wpS, wp, getV, getB, initE, endF, bindG, List.map_cons, List.map_nil, List.length_cons, List.length_nil, List.cons_append, List.nil_append, List.append_nil, List.getElem?_cons_zero, List.getElem?_cons_succ, List.set_cons_zero, List.set_cons_succ, partD, k_L, k_T, l_lenT, l_lenL, l_int, l_intB, l_abs, l_max2, l_max3, l_max4, l_min2, l_maxL, l_minL, l_sum, l_all, l_any, l_tupL, l_tupT, l_lisL, l_lisT, r_1, r_2, r_l, i_L, i_T, i_A, if_true, if_false, ite_true, ite_false, not_false_eq_true, not_true_eq_false, Bool.false_eq_true, ite_not, b_add, b_addT, b_addL, b_sub, b_subB, b_mul, b_mulT, b_mulL, b_fdiv, b_mod, b_pow, a_add, a_sub, a_mul, a_fdiv, c_lt, c_le, c_gt, c_ge, c_eqI, c_neI, c_eqB, c_neB, seqP, pysD, Option.map_some, List.replicate_zero, List.replicate_succ, Nat.zero_add, Nat.add_zero, Nat.reduceAdd, Nat.reduceSub, Nat.reduceLeDiff, decide_eq_true_eq, Bool.not_eq_true', decide_eq_false_iff_not, Nat.sub_self, Option.some.injEq, exists_eq_left', exists_eq_left, x_pick, f_pr, f_qd, f_prT, f_qdT, x_pr0, x_pr1, x_qd0, x_qd1, x_qd2, x_qd3, g_pr, g_qd, l_pr, l_qd, l_prs, l_ti, l_li, c_eq_pr, c_ne_pr, c_eq_qd, c_ne_qd, i_pr, i_qd, i_prs, i_ti, i_li, true_and, and_true, sl0, sl1, sl2, sl3, sl4, sl5, sl6, sl7, sl8, sl9, sl10, sl11, sl12, sl13, sl14, mketa, wipe1, shE_cons, shE_nil, shS_sh, shS_ow, shS_none, eq_self, and_self, decide_true, decide_false, reduceCtorEq, false_and, and_false, true_implies, false_implies, implies_true, not_true_eq_false, Bool.not_true, Bool.not_false, Bool.true_and, Bool.false_and, Bool.and_true, Bool.and_false, Bool.or_true, Bool.true_or, Bool.or_false, Bool.false_or, Int.reduceLT, Int.reduceLE, Nat.reduceLT, b_law_stream, n_law_stream]
  refine fun ns hn hb => ?_
  simp only [wpS, wp, getV, getB, initE, endF, bindG, List.map_cons, List.map_nil, List.length_cons, List.length_nil, List.cons_append, List.nil_append, List.append_nil, List.getElem?_cons_zero, List.getElem?_cons_succ, List.set_cons_zero, List.set_cons_succ, partD, k_L, k_T, l_lenT, l_lenL, l_int, l_intB, l_abs, l_max2, l_max3, l_max4, l_min2, l_maxL, l_minL, l_sum, l_all, l_any, l_tupL, l_tupT, l_lisL, l_lisT, r_1, r_2, r_l, i_L, i_T, i_A, if_true, if_false, ite_true, ite_false, not_false_eq_true, not_true_eq_false, Bool.false_eq_true, ite_not, b_add, b_addT, b_addL, b_sub, b_subB, b_mul, b_mulT, b_mulL, b_fdiv, b_mod, b_pow, a_add, a_sub, a_mul, a_fdiv, c_lt, c_le, c_gt, c_ge, c_eqI, c_neI, c_eqB, c_neB, seqP, pysD, Option.map_some, List.replicate_zero, List.replicate_succ, Nat.zero_add, Nat.add_zero, Nat.reduceAdd, Nat.reduceSub, Nat.reduceLeDiff, decide_eq_true_eq, Bool.not_eq_true', decide_eq_false_iff_not, Nat.sub_self, Option.some.injEq, exists_eq_left', exists_eq_left, x_pick, f_pr, f_qd, f_prT, f_qdT, x_pr0, x_pr1, x_qd0, x_qd1, x_qd2, x_qd3, g_pr, g_qd, l_pr, l_qd, l_prs, l_ti, l_li, c_eq_pr, c_ne_pr, c_eq_qd, c_ne_qd, i_pr, i_qd, i_prs, i_ti, i_li, true_and, and_true, sl0, sl1, sl2, sl3, sl4, sl5, sl6, sl7, sl8, sl9, sl10, sl11, sl12, sl13, sl14, mketa, wipe1, shE_cons, shE_nil, shS_sh, shS_ow, shS_none, eq_self, and_self, decide_true, decide_false, reduceCtorEq, false_and, and_false, true_implies, false_implies, implies_true, not_true_eq_false, Bool.not_true, Bool.not_false, Bool.true_and, Bool.false_and, Bool.and_true, Bool.and_false, Bool.or_true, Bool.true_or, Bool.or_false, Bool.false_or, Int.reduceLT, Int.reduceLE, Nat.reduceLT, List.map_map]
  refine forW_rule (fun i ρ => ∃ (ms : List Int) (s2 s3 s4 s5 : Option Sl), ρ = [some (.sh .scr), some (.ow (ms.map PyData.int)), s2, s3, s4, s5] ∧ (∀ z ∈ ms, 0 ≤ z ∧ z < 1009) ∧ ms.length ≤ 60 * i) ⟨[], _, _, _, _, rfl, (fun t h => nomatch h), Nat.le_refl _⟩ ?_ ?_
  · rintro i d ρ K hd ⟨ms, s2, s3, s4, s5, rfl, hm, hl⟩ hK
    rw [List.getElem?_map] at hd
    obtain ⟨x, hx, rfl⟩ := Option.map_eq_some_iff.mp hd
    have hi : i < ns.length := by
      rcases Nat.lt_or_ge i ns.length with z | z
      · exact z
      · rw [List.getElem?_eq_none z] at hx; exact nomatch hx
    simp only [wpS, wp, getV, getB, initE, endF, bindG, List.map_cons, List.map_nil, List.length_cons, List.length_nil, List.cons_append, List.nil_append, List.append_nil, List.getElem?_cons_zero, List.getElem?_cons_succ, List.set_cons_zero, List.set_cons_succ, partD, k_L, k_T, l_lenT, l_lenL, l_int, l_intB, l_abs, l_max2, l_max3, l_max4, l_min2, l_maxL, l_minL, l_sum, l_all, l_any, l_tupL, l_tupT, l_lisL, l_lisT, r_1, r_2, r_l, i_L, i_T, i_A, if_true, if_false, ite_true, ite_false, not_false_eq_true, not_true_eq_false, Bool.false_eq_true, ite_not, b_add, b_addT, b_addL, b_sub, b_subB, b_mul, b_mulT, b_mulL, b_fdiv, b_mod, b_pow, a_add, a_sub, a_mul, a_fdiv, c_lt, c_le, c_gt, c_ge, c_eqI, c_neI, c_eqB, c_neB, seqP, pysD, Option.map_some, List.replicate_zero, List.replicate_succ, Nat.zero_add, Nat.add_zero, Nat.reduceAdd, Nat.reduceSub, Nat.reduceLeDiff, decide_eq_true_eq, Bool.not_eq_true', decide_eq_false_iff_not, Nat.sub_self, Option.some.injEq, exists_eq_left', exists_eq_left, x_pick, f_pr, f_qd, f_prT, f_qdT, x_pr0, x_pr1, x_qd0, x_qd1, x_qd2, x_qd3, g_pr, g_qd, l_pr, l_qd, l_prs, l_ti, l_li, c_eq_pr, c_ne_pr, c_eq_qd, c_ne_qd, i_pr, i_qd, i_prs, i_ti, i_li, true_and, and_true, sl0, sl1, sl2, sl3, sl4, sl5, sl6, sl7, sl8, sl9, sl10, sl11, sl12, sl13, sl14, mketa, wipe1, shE_cons, shE_nil, shS_sh, shS_ow, shS_none, eq_self, and_self, decide_true, decide_false, reduceCtorEq, false_and, and_false, true_implies, false_implies, implies_true, not_true_eq_false, Bool.not_true, Bool.not_false, Bool.true_and, Bool.false_and, Bool.and_true, Bool.and_false, Bool.or_true, Bool.true_or, Bool.or_false, Bool.false_or, Int.reduceLT, Int.reduceLE, Nat.reduceLT, Function.comp, ab]
    refine ⟨by decide, ?_⟩
    have hS : (4000 : Nat) < sizeLine := by decide
    split
    · refine ⟨by decide, ?_⟩
      refine forW_rule (fun j ρ => ∃ (ms : List Int) (r : Int) (s2 s4 s5 : Option Sl), ρ = [some (.sh .scr), some (.ow (ms.map PyData.int)), s2, some (.sh (.I r)), s4, s5] ∧ (∀ z ∈ ms, 0 ≤ z ∧ z < 1009) ∧ ms.length ≤ 60 * i + j) ⟨ms, _, _, _, _, rfl, hm, hl⟩ ?_ ?_
      · rintro j d ρ K' hd ⟨ms, r, s2, s4, s5, rfl, hm, hl⟩ hK'
        obtain ⟨rfl, hj⟩ := rangeD_get hd
        simp only [wpS, wp, getV, getB, initE, endF, bindG, List.map_cons, List.map_nil, List.length_cons, List.length_nil, List.cons_append, List.nil_append, List.append_nil, List.getElem?_cons_zero, List.getElem?_cons_succ, List.set_cons_zero, List.set_cons_succ, partD, k_L, k_T, l_lenT, l_lenL, l_int, l_intB, l_abs, l_max2, l_max3, l_max4, l_min2, l_maxL, l_minL, l_sum, l_all, l_any, l_tupL, l_tupT, l_lisL, l_lisT, r_1, r_2, r_l, i_L, i_T, i_A, if_true, if_false, ite_true, ite_false, not_false_eq_true, not_true_eq_false, Bool.false_eq_true, ite_not, b_add, b_addT, b_addL, b_sub, b_subB, b_mul, b_mulT, b_mulL, b_fdiv, b_mod, b_pow, a_add, a_sub, a_mul, a_fdiv, c_lt, c_le, c_gt, c_ge, c_eqI, c_neI, c_eqB, c_neB, seqP, pysD, Option.map_some, List.replicate_zero, List.replicate_succ, Nat.zero_add, Nat.add_zero, Nat.reduceAdd, Nat.reduceSub, Nat.reduceLeDiff, decide_eq_true_eq, Bool.not_eq_true', decide_eq_false_iff_not, Nat.sub_self, Option.some.injEq, exists_eq_left', exists_eq_left, x_pick, f_pr, f_qd, f_prT, f_qdT, x_pr0, x_pr1, x_qd0, x_qd1, x_qd2, x_qd3, g_pr, g_qd, l_pr, l_qd, l_prs, l_ti, l_li, c_eq_pr, c_ne_pr, c_eq_qd, c_ne_qd, i_pr, i_qd, i_prs, i_ti, i_li, true_and, and_true, sl0, sl1, sl2, sl3, sl4, sl5, sl6, sl7, sl8, sl9, sl10, sl11, sl12, sl13, sl14, mketa, wipe1, shE_cons, shE_nil, shS_sh, shS_ow, shS_none, eq_self, and_self, decide_true, decide_false, reduceCtorEq, false_and, and_false, true_implies, false_implies, implies_true, not_true_eq_false, Bool.not_true, Bool.not_false, Bool.true_and, Bool.false_and, Bool.and_true, Bool.and_false, Bool.or_true, Bool.true_or, Bool.or_false, Bool.false_or, Int.reduceLT, Int.reduceLE, Nat.reduceLT, List.length_map]
        have f1 := fmod9 r
        have hm' : ∀ z ∈ ms ++ [r.fmod 1009], 0 ≤ z ∧ z < 1009 := by
          intro t h
          rcases List.mem_append.mp h with h | h
          · exact hm t h
          · rw [List.mem_singleton.mp h]; exact f1
        have e : ms.map PyData.int ++ [PyData.int (r.fmod 1009)] = (ms ++ [r.fmod 1009]).map PyData.int := by rw [List.map_append]; rfl
        rw [e]
        have hl' : (ms ++ [r.fmod 1009]).length = ms.length + 1 := by rw [List.length_append]; rfl
        refine ⟨by decide, by omega, ⟨by decide, lg (by decide +kernel)⟩, ?_⟩
        split
        · exact hK _ ⟨_, _, _, _, _, rfl, hm', by omega⟩
        · exact hK' _ ⟨_, _, _, _, _, rfl, hm', by omega⟩
      · rintro ρ ⟨ms, r, s2, s4, s5, rfl, hm, hl⟩
        have hn : (rangeD 0 60).length = 60 := rfl
        exact hK _ ⟨ms, _, _, _, _, rfl, hm, by omega⟩
    · refine ⟨by decide, by decide, ?_⟩
      refine forW_rule (fun j ρ => ∃ (ms : List Int) (r : Int) (s2 s3 s4 : Option Sl), ρ = [some (.sh .scr), some (.ow (ms.map PyData.int)), s2, s3, s4, some (.sh (.I r))] ∧ (0 ≤ r ∧ r < 2147483647) ∧ (∀ z ∈ ms, 0 ≤ z ∧ z < 1009) ∧ ms.length ≤ 60 * i + j) ⟨ms, _, _, _, _, rfl, fmodp _ (by decide), hm, hl⟩ ?_ ?_
      · rintro j d ρ K' hd ⟨ms, r, s2, s3, s4, rfl, hr, hm, hl⟩ hK'
        obtain ⟨rfl, hj⟩ := rangeD_get hd
        simp only [wpS, wp, getV, getB, initE, endF, bindG, List.map_cons, List.map_nil, List.length_cons, List.length_nil, List.cons_append, List.nil_append, List.append_nil, List.getElem?_cons_zero, List.getElem?_cons_succ, List.set_cons_zero, List.set_cons_succ, partD, k_L, k_T, l_lenT, l_lenL, l_int, l_intB, l_abs, l_max2, l_max3, l_max4, l_min2, l_maxL, l_minL, l_sum, l_all, l_any, l_tupL, l_tupT, l_lisL, l_lisT, r_1, r_2, r_l, i_L, i_T, i_A, if_true, if_false, ite_true, ite_false, not_false_eq_true, not_true_eq_false, Bool.false_eq_true, ite_not, b_add, b_addT, b_addL, b_sub, b_subB, b_mul, b_mulT, b_mulL, b_fdiv, b_mod, b_pow, a_add, a_sub, a_mul, a_fdiv, c_lt, c_le, c_gt, c_ge, c_eqI, c_neI, c_eqB, c_neB, seqP, pysD, Option.map_some, List.replicate_zero, List.replicate_succ, Nat.zero_add, Nat.add_zero, Nat.reduceAdd, Nat.reduceSub, Nat.reduceLeDiff, decide_eq_true_eq, Bool.not_eq_true', decide_eq_false_iff_not, Nat.sub_self, Option.some.injEq, exists_eq_left', exists_eq_left, x_pick, f_pr, f_qd, f_prT, f_qdT, x_pr0, x_pr1, x_qd0, x_qd1, x_qd2, x_qd3, g_pr, g_qd, l_pr, l_qd, l_prs, l_ti, l_li, c_eq_pr, c_ne_pr, c_eq_qd, c_ne_qd, i_pr, i_qd, i_prs, i_ti, i_li, true_and, and_true, sl0, sl1, sl2, sl3, sl4, sl5, sl6, sl7, sl8, sl9, sl10, sl11, sl12, sl13, sl14, mketa, wipe1, shE_cons, shE_nil, shS_sh, shS_ow, shS_none, eq_self, and_self, decide_true, decide_false, reduceCtorEq, false_and, and_false, true_implies, false_implies, implies_true, not_true_eq_false, Bool.not_true, Bool.not_false, Bool.true_and, Bool.false_and, Bool.and_true, Bool.and_false, Bool.or_true, Bool.true_or, Bool.or_false, Bool.false_or, Int.reduceLT, Int.reduceLE, Nat.reduceLT, List.length_map]
        have hB : 2147483647 ≤ bigI := by decide +kernel
        have f0 := fmodp (m := 2147483647) (r * 48271 + 7 * (0 + (j : Int)) + 11) (by decide)
        generalize hr2 : (r * 48271 + 7 * (0 + (j : Int)) + 11).fmod 2147483647 = r2 at f0
        have f1 := fmod9 ((r2 * 69621 + (0 + (j : Int))).fmod 2147483629)
        generalize hr3 : ((r2 * 69621 + (0 + (j : Int))).fmod 2147483629).fmod 1009 = r3 at f1
        have hm' : ∀ z ∈ ms ++ [r3], 0 ≤ z ∧ z < 1009 := by
          intro t h
          rcases List.mem_append.mp h with h | h
          · exact hm t h
          · rw [List.mem_singleton.mp h]; exact f1
        have e : ms.map PyData.int ++ [PyData.int r3] = (ms ++ [r3]).map PyData.int := by rw [List.map_append]; rfl
        have hl' : (ms ++ [r3]).length = ms.length + 1 := by rw [List.length_append]; rfl
        rw [e]
        refine ⟨cm (by omega) (by omega), cm (by omega) (by omega), by decide, cm (by omega) (by omega), by decide, by decide, by omega, hK' _ ⟨_, _, _, _, _, rfl, f0, hm', by omega⟩⟩
      · rintro ρ ⟨ms, r, s2, s3, s4, rfl, hr, hm, hl⟩
        have hn : (rangeD 0 10).length = 10 := rfl
        exact hK _ ⟨ms, _, _, _, _, rfl, hm, by omega⟩
  · rintro ρ ⟨ms, s2, s3, s4, s5, rfl, hm, hl⟩
    rw [List.length_map] at hl
    simp only [wpS, wp, getV, getB, initE, endF, bindG, List.map_cons, List.map_nil, List.length_cons, List.length_nil, List.cons_append, List.nil_append, List.append_nil, List.getElem?_cons_zero, List.getElem?_cons_succ, List.set_cons_zero, List.set_cons_succ, partD, k_L, k_T, l_lenT, l_lenL, l_int, l_intB, l_abs, l_max2, l_max3, l_max4, l_min2, l_maxL, l_minL, l_sum, l_all, l_any, l_tupL, l_tupT, l_lisL, l_lisT, r_1, r_2, r_l, i_L, i_T, i_A, if_true, if_false, ite_true, ite_false, not_false_eq_true, not_true_eq_false, Bool.false_eq_true, ite_not, b_add, b_addT, b_addL, b_sub, b_subB, b_mul, b_mulT, b_mulL, b_fdiv, b_mod, b_pow, a_add, a_sub, a_mul, a_fdiv, c_lt, c_le, c_gt, c_ge, c_eqI, c_neI, c_eqB, c_neB, seqP, pysD, Option.map_some, List.replicate_zero, List.replicate_succ, Nat.zero_add, Nat.add_zero, Nat.reduceAdd, Nat.reduceSub, Nat.reduceLeDiff, decide_eq_true_eq, Bool.not_eq_true', decide_eq_false_iff_not, Nat.sub_self, Option.some.injEq, exists_eq_left', exists_eq_left, x_pick, f_pr, f_qd, f_prT, f_qdT, x_pr0, x_pr1, x_qd0, x_qd1, x_qd2, x_qd3, g_pr, g_qd, l_pr, l_qd, l_prs, l_ti, l_li, c_eq_pr, c_ne_pr, c_eq_qd, c_ne_qd, i_pr, i_qd, i_prs, i_ti, i_li, true_and, and_true, sl0, sl1, sl2, sl3, sl4, sl5, sl6, sl7, sl8, sl9, sl10, sl11, sl12, sl13, sl14, mketa, wipe1, shE_cons, shE_nil, shS_sh, shS_ow, shS_none, eq_self, and_self, decide_true, decide_false, reduceCtorEq, false_and, and_false, true_implies, false_implies, implies_true, not_true_eq_false, Bool.not_true, Bool.not_false, Bool.true_and, Bool.false_and, Bool.and_true, Bool.and_false, Bool.or_true, Bool.true_or, Bool.or_false, Bool.false_or, Int.reduceLT, Int.reduceLE, Nat.reduceLT, List.length_map]
    split
    · rename_i h
      have : ms = [] := List.length_eq_zero_iff.mp (by omega)
      subst this
      exact ⟨by decide, hq [0] (by decide) (by decide) (by intro z h; rw [List.mem_singleton.mp h]; decide)⟩
    · rename_i h
      exact hq ms (by omega) (by omega) hm
end Y

/-! part SR0 -/
set_option Elab.async false
set_option linter.all false
/-! SR0: rules of leaping years, plain. -/
namespace Y
def b2z (b : Bool) : Int := if b then 1 else 0
/-- what grows by 0 or 1 from year to year, and comes again -/
structure Cnt (f : Int → Int) (L : Int → Bool) (p : Int) : Prop where
  z : f 0 = 0
  st : ∀ y, f y = f (y - 1) + b2z (L y)
  p1 : 1 ≤ p
  pe : ∀ y, f (y + p) = f y + f p
namespace Cnt
variable {f : Int → Int} {L : Int → Bool} {p : Int} (C : Cnt f L p)
include C
theorem st' (y : Int) : f y = f (y - 1) + (if L y = true then 1 else 0) := C.st y
theorem add (y : Int) : ∀ n : Nat, f y ≤ f (y + n) ∧ f (y + n) ≤ f y + n
  | 0 => by simp
  | n + 1 => by
    have ih := add y n
    have h := C.st' (y + (n + 1 : Nat))
    have e : y + ((n + 1 : Nat) : Int) - 1 = y + n := by omega
    rw [e] at h
    split at h <;> omega
theorem mono {a b : Int} (h : a ≤ b) : f a ≤ f b ∧ f b ≤ f a + (b - a) := by
  have := C.add a (b - a).toNat
  have e : a + ((b - a).toNat : Int) = b := by omega
  rw [e] at this
  omega
theorem rounds (y : Int) : ∀ r : Nat, f (y + r * p) = f y + r * f p
  | 0 => by simp
  | r + 1 => by
    have ih := rounds y r
    have h := C.pe (y + r * p)
    have e : y + ((r + 1 : Nat) : Int) * p = y + r * p + p := by
      have : ((r + 1 : Nat) : Int) = r + 1 := by omega
      rw [this, Int.add_mul]; omega
    rw [e, h, ih]
    have : ((r + 1 : Nat) : Int) = r + 1 := by omega
    rw [this, Int.add_mul]
    omega
theorem roundsI (y r : Int) (h : 0 ≤ r) : f (y + r * p) = f y + r * f p := by
  have := C.rounds y r.toNat
  have e : (r.toNat : Int) = r := by omega
  rw [e] at this
  exact this
theorem leap_per (y : Int) : L (y + p) = L y := by
  have h1 := C.st' (y + p)
  have h2 := C.st' y
  have h3 := C.pe y
  have h4 := C.pe (y - 1)
  have e : y + p - 1 = y - 1 + p := by omega
  rw [e] at h1
  cases h5 : L (y + p) <;> cases h6 : L y <;> simp only [h5, h6, if_true, if_false, Bool.false_eq_true] at h1 h2 <;> first | rfl | omega
theorem leap_iff (y : Int) : L y = decide (f (y - 1) < f y) := by
  have h := C.st' y
  cases e : L y <;> simp only [e, if_true, if_false, Bool.false_eq_true] at h
  · exact (decide_eq_false (by omega)).symm
  · exact (decide_eq_true (by omega)).symm
theorem leap_r (y r : Int) (h : 0 ≤ r) : L (y + r * p) = L y := by
  rw [C.leap_iff, C.leap_iff, C.roundsI y r h]
  have e : y + r * p - 1 = y - 1 + r * p := by omega
  rw [e, C.roundsI (y - 1) r h]
  exact decide_eq_decide.mpr (by omega)
end Cnt
/-- the years from 1 to n -/
def yrs (n : Nat) : List Int := (List.range n).map fun (k : Nat) => 1 + (k : Int)
theorem yrs_succ (n : Nat) : yrs (n + 1) = yrs n ++ [1 + (n : Int)] := by unfold yrs; rw [List.range_succ, List.map_append]; rfl
theorem mem_yrs {n : Nat} {y : Int} : y ∈ yrs n ↔ 1 ≤ y ∧ y ≤ n := by
  unfold yrs
  rw [List.mem_map]
  constructor
  · rintro ⟨k, hk, rfl⟩
    have := List.mem_range.mp hk
    omega
  · intro h
    exact ⟨(y - 1).toNat, List.mem_range.mpr (by omega), by omega⟩
def ly (L : Int → Bool) (n : Nat) : List Int := (yrs n).filter L
theorem ly_succ (L : Int → Bool) (n : Nat) : ly L (n + 1) = ly L n ++ (if L (1 + (n : Int)) = true then [1 + (n : Int)] else []) := by
  unfold ly
  rw [yrs_succ, List.filter_append]
  congr 1
  by_cases h : L (1 + (n : Int)) = true
  · rw [if_pos h, List.filter_cons_of_pos h]; rfl
  · rw [if_neg h, List.filter_cons_of_neg h]; rfl
theorem mem_ly {L : Int → Bool} {n : Nat} {y : Int} : y ∈ ly L n ↔ (1 ≤ y ∧ y ≤ n) ∧ L y = true := by
  unfold ly
  rw [List.mem_filter, mem_yrs]
namespace Cnt
variable {f : Int → Int} {L : Int → Bool} {p : Int} (C : Cnt f L p)
include C
theorem len_ly : ∀ n : Nat, ((ly L n).length : Int) = f n
  | 0 => by show (0 : Int) = f 0; exact C.z.symm
  | n + 1 => by
    have ih := len_ly n
    have h := C.st' (1 + (n : Int))
    have e : (1 + (n : Int)) - 1 = n := by omega
    have e2 : ((n + 1 : Nat) : Int) = 1 + n := by omega
    rw [e] at h
    rw [ly_succ, List.length_append, e2, h, ← ih]
    split <;> simp
theorem at_ly : ∀ (n : Nat) (y : Int), 1 ≤ y → y ≤ n → L y = true → (ly L n)[(f y - 1).toNat]? = some y
  | 0, y, h1, h2, _ => by omega
  | n + 1, y, h1, h2, hl => by
    rw [ly_succ]
    have hn := C.len_ly n
    by_cases e : y = 1 + (n : Int)
    · subst e
      have h := C.st' (1 + (n : Int))
      rw [if_pos hl] at h
      have e : (1 + (n : Int)) - 1 = n := by omega
      rw [e] at h
      rw [if_pos hl, List.getElem?_append_right (by omega)]
      have : (f (1 + (n : Int)) - 1).toNat - (ly L n).length = 0 := by omega
      rw [this]
      rfl
    · have hy : y ≤ n := by omega
      have ih := at_ly n y h1 hy hl
      have hlt : (f y - 1).toNat < (ly L n).length := by
        rcases Nat.lt_or_ge (f y - 1).toNat (ly L n).length with z | z
        · exact z
        · rw [List.getElem?_eq_none z] at ih; cases ih
      rw [List.getElem?_append_left hlt]
      exact ih
/-- the first year with so many -/
theorem first {k : Int} (h1 : 1 ≤ k) (y : Int) (hy : 1 ≤ y) (ha : f (y - 1) < k) (hb : k ≤ f y) : f y = k ∧ L y = true := by
  have h := C.st' y
  cases e : L y <;> simp only [e, if_true, if_false, Bool.false_eq_true] at h
  · omega
  · exact ⟨by omega, rfl⟩
end Cnt
/-! ### gaps -/
def gapsL (ys : List Int) : List Int := (ys.zip (ys.drop 1)).map fun x => x.2 - x.1
theorem gapsL_len (ys : List Int) : (gapsL ys).length = ys.length - 1 := by
  unfold gapsL
  rw [List.length_map, List.length_zip, List.length_drop]
  omega
theorem gapsL_get {ys : List Int} {k : Nat} (h : k + 1 < ys.length) : (gapsL ys)[k]? = some (ys[k + 1] - ys[k]) := by
  unfold gapsL
  rw [List.getElem?_map]
  have : (ys.zip (ys.drop 1))[k]? = some (ys[k], ys[k + 1]) := by
    rw [List.getElem?_zip_eq_some]
    exact ⟨List.getElem?_eq_getElem (by omega), by rw [List.getElem?_drop, Nat.add_comm]; exact List.getElem?_eq_getElem h⟩
  rw [this]
  rfl
/-- in two rounds there are two leaps, or none -/
theorem two_leaps {f : Int → Int} {L : Int → Bool} {p : Nat} (C : Cnt f L p) (h : 0 < (ly L (2 * p)).length) : 2 ≤ (ly L (2 * p)).length := by
  have h1 := C.len_ly (2 * p)
  have h2 := C.pe p
  have e : ((2 * p : Nat) : Int) = (p : Int) + p := by omega
  rw [e, h2] at h1
  omega
/-! ### the two kinds of rules -/
inductive Kd where
  | ev | pa | no
  deriving DecidableEq
abbrev Ru := Kd × List Int
def isEv (r : Ru) : Bool := decide (r.1 = .ev)
def altC : Int → List Int → Int → Int
  | _, [], _ => 0
  | s, q :: r, y => s * y.fdiv q + altC (-s) r y
def cnt (r : Ru) (y : Int) : Int := if isEv r then (r.2[0]! * y + r.2[2]!).fdiv r.2[1]! else altC 1 r.2 y
def las : List Int → Int
  | [] => 0
  | [x] => x
  | _ :: y :: r => las (y :: r)
def per (r : Ru) : Int := if isEv r then r.2[1]! else las r.2
def leapL (r : Ru) (y : Int) : Bool := if isEv r then decide (cnt r (y - 1) < cnt r y) else decide (((r.2.filter fun q => decide (y.fmod q = 0)).length : Int).fmod 2 = 1)
def chn : List Int → Prop
  | p :: q :: r => (p < q ∧ q.fmod p = 0) ∧ chn (q :: r)
  | _ => True
def goodP (ps : List Int) : Prop := 1 ≤ ps.length ∧ ps.length ≤ 4 ∧ (∀ q ∈ ps, 1 ≤ q ∧ q ≤ 4000) ∧ chn ps
def goodR (r : Ru) : Prop := (r.1 = .pa ∧ goodP r.2) ∨ (r.1 = .ev ∧ ∃ l y s, r.2 = [l, y, s] ∧ (1 ≤ y ∧ y ≤ 4000) ∧ (0 ≤ l ∧ l ≤ y) ∧ 0 ≤ s ∧ s < y)
theorem las_mem : ∀ {l : List Int}, l ≠ [] → las l ∈ l
  | [x], _ => List.mem_singleton.mpr rfl
  | x :: y :: r, _ => List.mem_cons_of_mem _ (las_mem (l := y :: r) (List.cons_ne_nil _ _))
theorem las_get : ∀ {l : List Int}, l ≠ [] → l[l.length - 1]? = some (las l)
  | [x], _ => rfl
  | x :: y :: r, _ => by
    have := las_get (l := y :: r) (List.cons_ne_nil _ _)
    simpa [las] using this
theorem chn_tail {q : Int} : ∀ {r : List Int}, chn (q :: r) → chn r
  | [], _ => True.intro
  | _ :: _, h => h.2
theorem chn_dvd : ∀ {r : List Int} {q : Int}, chn (q :: r) → (∀ t ∈ q :: r, 1 ≤ t) → ∀ t ∈ r, q ∣ t
  | [], _, _, _, t, ht => nomatch ht
  | p :: r, q, h, h1, t, ht => by
    have hq := h1 q List.mem_cons_self
    have d : q ∣ p := by
      have e := h.1.2
      rw [Int.fmod_eq_emod_of_nonneg _ (by omega)] at e
      exact Int.dvd_of_emod_eq_zero e
    rcases List.mem_cons.mp ht with z | z
    · rw [z]; exact d
    · exact Int.dvd_trans d (chn_dvd h.2 (fun t ht => h1 t (List.mem_cons_of_mem _ ht)) t z)
theorem las_dvd : ∀ {l : List Int}, chn l → (∀ t ∈ l, 1 ≤ t) → ∀ q ∈ l, q ∣ las l
  | [x], _, _, q, hq => by rw [List.mem_singleton.mp hq]; exact Int.dvd_refl _
  | x :: y :: r, h, h1, q, hq => by
    show q ∣ las (y :: r)
    rcases List.mem_cons.mp hq with z | z
    · rw [z]
      exact chn_dvd h h1 _ (las_mem (List.cons_ne_nil _ _))
    · exact las_dvd h.2 (fun t ht => h1 t (List.mem_cons_of_mem _ ht)) q z
theorem altC_zero : ∀ (s : Int) (l : List Int), altC s l 0 = 0
  | _, [] => rfl
  | s, q :: r => by
    show s * (0 : Int).fdiv q + altC (-s) r 0 = 0
    rw [altC_zero (-s) r, Int.zero_fdiv]
    omega
theorem altC_add : ∀ (s : Int) (l : List Int) (y m : Int), (∀ q ∈ l, 1 ≤ q ∧ q ∣ m) → altC s l (y + m) = altC s l y + altC s l m
  | _, [], _, _, _ => rfl
  | s, q :: r, y, m, h => by
    show s * (y + m).fdiv q + altC (-s) r (y + m) = s * y.fdiv q + altC (-s) r y + (s * m.fdiv q + altC (-s) r m)
    have hq := h q List.mem_cons_self
    rw [altC_add (-s) r y m fun t ht => h t (List.mem_cons_of_mem _ ht), Int.fdiv_eq_ediv_of_nonneg _ (by omega), Int.fdiv_eq_ediv_of_nonneg _ (by omega), Int.fdiv_eq_ediv_of_nonneg _ (by omega), Int.add_ediv_of_dvd_right hq.2, Int.mul_add]
    omega
def dvN (l : List Int) (y : Int) : Nat := (l.filter fun q => decide (y.fmod q = 0)).length
theorem fdiv_step {y q : Int} (hq : 1 ≤ q) : y.fdiv q = (y - 1).fdiv q + (if y.fmod q = 0 then 1 else 0) := by
  rw [Int.fdiv_eq_ediv_of_nonneg _ (by omega), Int.fdiv_eq_ediv_of_nonneg _ (by omega), Int.fmod_eq_emod_of_nonneg _ (by omega)]
  have h1 := Int.emod_nonneg y (show q ≠ 0 by omega)
  have h2 := Int.emod_lt_of_pos y (show 0 < q by omega)
  have h3 := Int.mul_ediv_add_emod y q
  have key : (y - 1) / q = if y % q = 0 then y / q - 1 else y / q := by
    split
    · rename_i e
      have : y - 1 = (q - 1) + q * (y / q - 1) := by rw [Int.mul_sub]; omega
      rw [this, Int.add_mul_ediv_left _ _ (by omega), Int.ediv_eq_zero_of_lt (by omega) (by omega)]
      omega
    · rename_i e
      have : y - 1 = (y % q - 1) + q * (y / q) := by omega
      rw [this, Int.add_mul_ediv_left _ _ (by omega), Int.ediv_eq_zero_of_lt (by omega) (by omega)]
      omega
  rw [key]
  split <;> omega
theorem altC_step : ∀ (s : Int) (l : List Int) (y : Int), chn l → (∀ t ∈ l, 1 ≤ t) → altC s l y = altC s l (y - 1) + (if dvN l y % 2 = 1 then s else 0)
  | s, [], y, _, _ => rfl
  | s, q :: r, y, h, h1 => by
    show s * y.fdiv q + altC (-s) r y = s * (y - 1).fdiv q + altC (-s) r (y - 1) + _
    have hq := h1 q List.mem_cons_self
    have ih := altC_step (-s) r y (chn_tail h) fun t ht => h1 t (List.mem_cons_of_mem _ ht)
    have hd := fdiv_step (y := y) hq
    rw [ih, hd]
    by_cases e : y.fmod q = 0
    · have en : dvN (q :: r) y = dvN r y + 1 := by
        unfold dvN
        rw [List.filter_cons_of_pos (p := fun q => decide (y.fmod q = 0)) (decide_eq_true e)]
        rfl
      rw [if_pos e, en, Int.mul_add]
      by_cases o : dvN r y % 2 = 1
      · rw [if_pos o, if_neg (by omega)]; omega
      · rw [if_neg o, if_pos (by omega)]; omega
    · have en : dvN (q :: r) y = 0 := by
        unfold dvN
        rw [List.filter_cons_of_neg (p := fun q => decide (y.fmod q = 0)) (by rw [decide_eq_false e]; decide)]
        rw [List.filter_eq_nil_iff.mpr]
        · rfl
        · intro t ht z
          have z := of_decide_eq_true z
          have hdt := chn_dvd h h1 t ht
          have ht1 := h1 t (List.mem_cons_of_mem _ ht)
          rw [Int.fmod_eq_emod_of_nonneg _ (by omega)] at z e
          exact e (Int.emod_eq_zero_of_dvd (Int.dvd_trans hdt (Int.dvd_of_emod_eq_zero z)))
      have en2 : dvN r y = 0 := by
        have : dvN (q :: r) y = dvN r y := by
          unfold dvN
          rw [List.filter_cons_of_neg (p := fun q => decide (y.fmod q = 0)) (by rw [decide_eq_false e]; decide)]
        omega
      rw [if_neg e, en, en2]
      simp
theorem goodR_cnt {r : Ru} (h : goodR r) : Cnt (cnt r) (leapL r) (per r) ∧ per r ≤ 4000 := by
  obtain ⟨w, ps⟩ := r
  rcases h with ⟨h, h1, h2, h3, h4⟩ | ⟨h, l, n, s, h1, h2, h3, h4⟩
  · simp only at h h1 h2 h3 h4
    have ev : isEv (w, ps) = false := by unfold isEv; rw [show w = _ from h]; rfl
    have ne : ps ≠ [] := by intro z; rw [z] at h1; simp at h1
    have hp := h3 _ (las_mem ne)
    have g1 : ∀ t ∈ ps, 1 ≤ t := fun t ht => (h3 t ht).1
    refine ⟨⟨?_, fun y => ?_, ?_, fun y => ?_⟩, ?_⟩
    · unfold cnt; rw [ev]; exact altC_zero _ _
    · unfold cnt leapL
      rw [ev]
      simp only [Bool.false_eq_true, if_false]
      rw [altC_step 1 ps y h4 g1]
      congr 1
      show (if dvN ps y % 2 = 1 then (1 : Int) else 0) = b2z (decide ((dvN ps y : Int).fmod 2 = 1))
      rw [Int.fmod_eq_emod_of_nonneg _ (by omega)]
      unfold b2z
      by_cases o : dvN ps y % 2 = 1
      · rw [if_pos o, decide_eq_true (by omega), if_pos rfl]
      · rw [if_neg o, decide_eq_false (by omega)]; rfl
    · unfold per; rw [ev]; exact hp.1
    · unfold cnt per; rw [ev]
      exact altC_add _ _ _ _ fun q hq => ⟨g1 q hq, las_dvd h4 g1 q hq⟩
    · unfold per; rw [ev]; exact hp.2
  · simp only at h h1
    subst h1
    have ev : isEv (w, [l, n, s]) = true := by unfold isEv; rw [show w = _ from h]; rfl
    have c : ∀ y, cnt (w, [l, n, s]) y = (l * y + s) / n := fun y => by
      unfold cnt
      rw [ev]
      show (l * y + s).fdiv n = _
      exact Int.fdiv_eq_ediv_of_nonneg _ (by omega)
    have pr' : per (w, [l, n, s]) = n := by unfold per; rw [ev]; rfl
    have k : ∀ y m : Int, (l * (y + m * n) + s) / n = (l * y + s) / n + l * m := fun y m => by
      have : l * (y + m * n) + s = l * y + s + n * (l * m) := by grind
      rw [this, Int.add_mul_ediv_left _ _ (by omega)]
    refine ⟨⟨?_, fun y => ?_, by rw [pr']; omega, fun y => ?_⟩, by rw [pr']; omega⟩
    · rw [c, Int.mul_zero, Int.zero_add]
      exact Int.ediv_eq_zero_of_lt h4.1 h4.2
    · unfold leapL
      rw [ev]
      simp only [if_true]
      rw [c, c]
      have e : l * y + s = (l * (y - 1) + s) + l := by rw [Int.mul_sub]; omega
      have m1 := Int.mul_ediv_add_emod (l * (y - 1) + s) n
      have m2 := Int.emod_nonneg (l * (y - 1) + s) (show n ≠ 0 by omega)
      have m3 := Int.emod_lt_of_pos (l * (y - 1) + s) (show 0 < n by omega)
      rw [e]
      generalize l * (y - 1) + s = a at *
      have u : a + l = (a % n + l) + n * (a / n) := by omega
      have q0 : (a + l) / n = (a % n + l) / n + a / n := by
        rw [u, Int.add_mul_ediv_left _ _ (by omega)]
      unfold b2z
      rw [q0]
      rcases (show a % n + l < n ∨ n ≤ a % n + l by omega) with z | z
      · rw [Int.ediv_eq_zero_of_lt (by omega) z]
        rw [if_neg (by rw [decide_eq_true_eq]; omega)]
        omega
      · have : (a % n + l) / n = 1 := by
          have : a % n + l = (a % n + l - n) + n * 1 := by omega
          rw [this, Int.add_mul_ediv_left _ _ (by omega), Int.ediv_eq_zero_of_lt (by omega) (by omega)]
          rfl
        rw [this, if_pos (by rw [decide_eq_true_eq]; omega)]
        omega
    · rw [pr', c, c, c]
      have := k y 1
      rw [Int.one_mul, Int.mul_one] at this
      rw [this]
      have := k 0 1
      rw [Int.one_mul, Int.mul_one, Int.zero_add, Int.mul_zero, Int.zero_add, Int.ediv_eq_zero_of_lt h4.1 h4.2] at this
      rw [this]
      omega
end Y

/-! part SR -/
set_option Elab.async false
set_option linter.all false
set_option maxRecDepth 100000
set_option maxHeartbeats 2000000
set_option exponentiation.threshold 5000
/-! SR: rules of leaping years: the program's defs. -/
namespace Y
open PySem PySem.Spec
def kdS : Kd → Str
  | .ev => "even"
  | .pa => "parts"
  | .no => "part"
def ru (r : Ru) : PyData := .tuple [.str (kdS r.1), ti r.2]
theorem kdS_inj : ∀ {a b : Kd}, kdS a = kdS b → a = b := by
  intro a b
  cases a <;> cases b <;> first | (intro _; rfl) | (intro h; exact absurd h (by decide +kernel))
theorem ru_inj {a b : Ru} : ru a = ru b ↔ a = b := by
  constructor
  · intro h
    unfold ru at h
    injection h with h
    injection h with h1 h2
    injection h2 with h2
    injection h1 with h1
    exact Prod.ext (kdS_inj h1) (ti_inj.mp h2)
  · rintro rfl; rfl
section
variable {Q : D → Prop} {r : Ru} {k : Kd}
theorem x_ru0 : ixD (.py (ru r)) (.py (.int 0)) Q = Q (.S (kdS r.1)) := x_0
theorem x_ru1 : ixD (.py (ru r)) (.py (.int 1)) Q = Q (.py (ti r.2)) := x_1
theorem c_ev : cmpD .Eq (.py (.str (kdS k))) (.py (.str "even")) Q = Q (.B (decide (k = .ev))) := by
  have e : cmpD .Eq (.py (.str (kdS k))) (.py (.str "even")) Q = ((SeqAt.shaped (.str (kdS k)) = true ∧ SeqAt.shaped (.str "even") = true) ∧ Q (.B (PyData.eqv (.str (kdS k)) (.str "even")))) := rfl
  rw [e]
  cases k
  · exact propext ⟨fun h => h.2, fun h => ⟨by decide +kernel, h⟩⟩
  · exact propext ⟨fun h => h.2, fun h => ⟨by decide +kernel, h⟩⟩
  · exact propext ⟨fun h => h.2, fun h => ⟨by decide +kernel, h⟩⟩
theorem c_pa : cmpD .Eq (.py (.str (kdS k))) (.py (.str "parts")) Q = Q (.B (decide (k = .pa))) := by
  have e : cmpD .Eq (.py (.str (kdS k))) (.py (.str "parts")) Q = ((SeqAt.shaped (.str (kdS k)) = true ∧ SeqAt.shaped (.str "parts") = true) ∧ Q (.B (PyData.eqv (.str (kdS k)) (.str "parts")))) := rfl
  rw [e]
  cases k
  · exact propext ⟨fun h => h.2, fun h => ⟨by decide +kernel, h⟩⟩
  · exact propext ⟨fun h => h.2, fun h => ⟨by decide +kernel, h⟩⟩
  · exact propext ⟨fun h => h.2, fun h => ⟨by decide +kernel, h⟩⟩
theorem ix_las {l : List Int} (h : l ≠ []) (hq : Q (.I (las l))) : ixD (.py (ti l)) (.py (.int (-1))) Q := by
  refine ⟨.int (las l), ?_, hq⟩
  have h1 := las_get h
  have hl : 0 < l.length := List.length_pos_iff.mpr h
  unfold L2.atI L2.ixN
  rw [List.length_map, if_neg (by decide), if_pos (by omega)]
  show (l.map PyData.int)[((-1 : Int) + l.length).toNat]? = _
  rw [show ((-1 : Int) + l.length).toNat = l.length - 1 by omega, List.getElem?_map, h1]
  rfl
theorem cut1 {xs : List PyData} : cutP xs (some 1) none = xs.drop 1 := by
  cases xs with
  | nil => unfold cutP; rw [List.drop_nil, List.take_nil]; rfl
  | cons x r => exact cut_from (x := 1) (by decide) (by show 1 ≤ _; simp)
theorem zip_int {l m : List Int} : zipP (l.map PyData.int) (m.map PyData.int) = (l.zip m).map fun x => D.py (pr x) := by
  unfold zipP
  rw [List.zip_map, List.map_map]
  rfl
theorem g_ti {t : C} {ρ : Ev} {K : Ev → Prop} {l : List Int} : bindG (.tup t) (.py (ti l)) ρ K = bindG t (.args (l.map D.I)) ρ K := by
  show bindG t (.args ((l.map PyData.int).map D.py)) ρ K = _
  rw [List.map_map]
  rfl
theorem k_ti1 {l : List Int} : slcD (.py (ti l)) (some 1) none Q = Q (.py (ti (l.drop 1))) := by
  show Q (.T (cutP (l.map PyData.int) (some 1) none)) = _
  rw [cut1, ← List.map_drop]
  rfl
theorem wipe2 {ρ : Ev} {i j : Nat} : wipeE ρ [i, j] = (ρ.set j none).set i none := rfl
theorem rng_yrs {p : Int} (h : 0 ≤ p) : rangeD 1 (2 * p + 1) = (yrs (2 * p.toNat)).map D.I := by
  rw [i_rng]
  unfold yrs
  rw [show (2 * p + 1 - 1).toNat = 2 * p.toNat by omega]
theorem l_int' {l : List Int} : intsP (l.map PyData.int) = some l := by
  induction l with
  | nil => rfl
  | cons x r ih => show (intsP (r.map PyData.int)).map (x :: ·) = _; rw [ih]; rfl
end
def n_law_great : List Str := ["state", "many"]
/-- law_great: number 131 -/
def b_law_great : S := (.seq (.ret (.bin .mod (.bi .int (.cons (.bin .add (.bin .mul (.call 1 (.cons (.var 0) (.cons (.lit (.int 1009)) .nil))) (.lit (.int 1009))) (.call 1 (.cons (.var 0) (.cons (.lit (.int 1009)) .nil)))) .nil)) (.var 1))) .nil)
def n_law_rule : List Str := ["state", "years", "leaps", "parts", "k", "more"]
/-- law_rule: number 132 -/
def b_law_rule : S := (.seq (.ite (.cmp .Eq (.call 1 (.cons (.var 0) (.cons (.lit (.int 2)) .nil))) (.lit (.int 0))) (.seq (.asgL 3 (.lst (.cons (.bin .add (.lit (.int 1)) (.call 1 (.cons (.var 0) (.cons (.ix (.lst (.cons (.lit (.int 4)) (.cons (.lit (.int 12)) (.cons (.lit (.int 90)) .nil)))) (.call 1 (.cons (.var 0) (.cons (.lit (.int 3)) .nil)))) .nil)))) .nil))) (.seq (.for_ (.var 4) (.rng (.cons (.call 1 (.cons (.var 0) (.cons (.lit (.int 4)) .nil))) .nil)) (.seq (.asg 5 (.bin .mul (.ix (.bvar 3) (.neg (.lit (.int 1)))) (.bin .add (.lit (.int 2)) (.call 1 (.cons (.var 0) (.cons (.ix (.lst (.cons (.lit (.int 3)) (.cons (.lit (.int 24)) .nil))) (.call 1 (.cons (.var 0) (.cons (.lit (.int 2)) .nil)))) .nil)))))) (.seq (.ite (.cmp .LtE (.var 5) (.lit (.int 4000))) (.seq (.app 3 (.var 5)) .nil) .nil) .nil))) (.seq (.ret (.tup (.cons (.lit (.str "parts")) (.cons (.bi .tuple (.cons (.bvar 3) .nil)) .nil)))) .nil))) .nil) (.seq (.asg 1 (.ix (.lst (.cons (.bin .add (.lit (.int 1)) (.call 1 (.cons (.var 0) (.cons (.lit (.int 12)) .nil)))) (.cons (.bin .add (.lit (.int 1)) (.call 1 (.cons (.var 0) (.cons (.lit (.int 90)) .nil)))) (.cons (.bin .add (.lit (.int 1)) (.call 131 (.cons (.var 0) (.cons (.lit (.int 4000)) .nil)))) .nil)))) (.ix (.lst (.cons (.lit (.int 0)) (.cons (.lit (.int 0)) (.cons (.lit (.int 1)) (.cons (.lit (.int 1)) (.cons (.lit (.int 2)) .nil)))))) (.call 1 (.cons (.var 0) (.cons (.lit (.int 5)) .nil)))))) (.seq (.asg 2 (.ix (.lst (.cons (.call 131 (.cons (.var 0) (.cons (.bin .add (.var 1) (.lit (.int 1))) .nil))) (.cons (.bi .min (.cons (.var 1) (.cons (.bin .add (.lit (.int 1)) (.bin .fdiv (.var 1) (.lit (.int 4)))) .nil))) .nil))) (.call 1 (.cons (.var 0) (.cons (.lit (.int 2)) .nil))))) (.seq (.ret (.tup (.cons (.lit (.str "even")) (.cons (.tup (.cons (.var 2) (.cons (.var 1) (.cons (.ix (.lst (.cons (.lit (.int 0)) (.cons (.call 131 (.cons (.var 0) (.cons (.var 1) .nil))) .nil))) (.call 1 (.cons (.var 0) (.cons (.lit (.int 2)) .nil)))) .nil)))) .nil)))) .nil))))
def n_law_period : List Str := ["rule"]
/-- law_period: number 133 -/
def b_law_period : S := (.seq (.ite (.cmp .Eq (.ix (.var 0) (.lit (.int 0))) (.lit (.str "even"))) (.seq (.ret (.ix (.ix (.var 0) (.lit (.int 1))) (.lit (.int 1)))) .nil) .nil) (.seq (.ret (.ix (.ix (.var 0) (.lit (.int 1))) (.neg (.lit (.int 1))))) .nil))
def n_law_count2 : List Str := ["rule", "year", "total", "k"]
/-- law_count: number 134 -/
def b_law_count2 : S := (.seq (.ite (.cmp .Eq (.ix (.var 0) (.lit (.int 0))) (.lit (.str "even"))) (.seq (.ret (.bin .fdiv (.bin .add (.bin .mul (.ix (.ix (.var 0) (.lit (.int 1))) (.lit (.int 0))) (.var 1)) (.ix (.ix (.var 0) (.lit (.int 1))) (.lit (.int 2)))) (.ix (.ix (.var 0) (.lit (.int 1))) (.lit (.int 1))))) .nil) .nil) (.seq (.asg 2 (.lit (.int 0))) (.seq (.for_ (.var 3) (.rng (.cons (.bi .len (.cons (.ix (.var 0) (.lit (.int 1))) .nil)) .nil)) (.seq (.asg 2 (.bin .add (.var 2) (.bin .mul (.ix (.lst (.cons (.lit (.int 1)) (.cons (.neg (.lit (.int 1))) .nil))) (.bin .mod (.bi .int (.cons (.var 3) .nil)) (.lit (.int 2)))) (.bin .fdiv (.var 1) (.ix (.ix (.var 0) (.lit (.int 1))) (.var 3)))))) .nil)) (.seq (.ret (.var 2)) .nil))))
def n_law_wrong_rule : List Str := ["state", "bad"]
/-- law_wrong_rule: number 135 -/
def b_law_wrong_rule : S := (.seq (.asgL 1 (.lst (.cons (.tup (.cons (.lit (.str "parts")) (.cons (.tup .nil) .nil))) (.cons (.tup (.cons (.lit (.str "parts")) (.cons (.tup (.cons (.lit (.int 0)) .nil)) .nil))) (.cons (.tup (.cons (.lit (.str "parts")) (.cons (.tup (.cons (.lit (.int 4)) (.cons (.lit (.int 4)) .nil))) .nil))) (.cons (.tup (.cons (.lit (.str "parts")) (.cons (.tup (.cons (.lit (.int 4)) (.cons (.lit (.int 6)) .nil))) .nil))) (.cons (.tup (.cons (.lit (.str "parts")) (.cons (.tup (.cons (.lit (.int 8)) (.cons (.lit (.int 4)) .nil))) .nil))) (.cons (.tup (.cons (.lit (.str "parts")) (.cons (.tup (.cons (.lit (.int 1)) (.cons (.lit (.int 2)) (.cons (.lit (.int 4)) (.cons (.lit (.int 8)) (.cons (.lit (.int 16)) .nil)))))) .nil))) (.cons (.tup (.cons (.lit (.str "parts")) (.cons (.tup (.cons (.lit (.int 4)) (.cons (.lit (.int 4004)) .nil))) .nil))) (.cons (.tup (.cons (.lit (.str "part")) (.cons (.tup (.cons (.lit (.int 4)) .nil)) .nil))) .nil)))))))))) (.seq (.ext 1 (.lst (.cons (.tup (.cons (.lit (.str "even")) (.cons (.tup (.cons (.lit (.int 1)) (.cons (.lit (.int 0)) (.cons (.lit (.int 0)) .nil)))) .nil))) (.cons (.tup (.cons (.lit (.str "even")) (.cons (.tup (.cons (.lit (.int 5)) (.cons (.lit (.int 4)) (.cons (.lit (.int 0)) .nil)))) .nil))) (.cons (.tup (.cons (.lit (.str "even")) (.cons (.tup (.cons (.neg (.lit (.int 1))) (.cons (.lit (.int 4)) (.cons (.lit (.int 0)) .nil)))) .nil))) (.cons (.tup (.cons (.lit (.str "even")) (.cons (.tup (.cons (.lit (.int 1)) (.cons (.lit (.int 4)) (.cons (.lit (.int 4)) .nil)))) .nil))) (.cons (.tup (.cons (.lit (.str "even")) (.cons (.tup (.cons (.lit (.int 1)) (.cons (.lit (.int 4)) (.cons (.neg (.lit (.int 1))) .nil)))) .nil))) (.cons (.tup (.cons (.lit (.str "even")) (.cons (.tup (.cons (.lit (.int 1)) (.cons (.lit (.int 4001)) (.cons (.lit (.int 0)) .nil)))) .nil))) .nil)))))))) (.seq (.ret (.ix (.bvar 1) (.call 1 (.cons (.var 0) (.cons (.lit (.int 14)) .nil))))) .nil)))
def n_check_rule : List Str := ["rule", "word", "parts", "leaps", "years", "shift", "one", "other"]
/-- check_rule: number 136 -/
def b_check_rule : S := (.seq (.asg 1 (.ix (.var 0) (.lit (.int 0)))) (.seq (.ite (.cmp .Eq (.var 1) (.lit (.str "parts"))) (.seq (.asg 2 (.ix (.var 0) (.lit (.int 1)))) (.seq (.ite (.or (.not (.chain .LtE .LtE (.lit (.int 1)) (.bi .len (.cons (.var 2) .nil)) (.glob (.int 4)))) (.or (.not (.cmp .LtE (.lit (.int 1)) (.ix (.var 2) (.lit (.int 0))))) (.cmp .Gt (.ix (.var 2) (.neg (.lit (.int 1)))) (.glob (.int 4000))))) (.seq (.raise 0 .nil) .nil) .nil) (.seq (.ite (.not (.bi .all (.cons (.comp [("one", 6), ("other", 7)] (.and (.cmp .Lt (.var 6) (.var 7)) (.cmp .Eq (.bin .mod (.var 7) (.var 6)) (.lit (.int 0)))) (.tup (.cons (.var 6) (.cons (.var 7) .nil))) (.zip (.var 2) (.slc (.var 2) (.lit (.int 1)) .nil)) (.lit (.bool true))) .nil))) (.seq (.raise 0 .nil) .nil) .nil) .nil))) (.seq (.ite (.cmp .Eq (.var 1) (.lit (.str "even"))) (.seq (.unp (.tup (.cons (.var 3) (.cons (.var 4) (.cons (.var 5) .nil)))) (.ix (.var 0) (.lit (.int 1)))) (.seq (.ite (.or (.not (.chain .LtE .LtE (.lit (.int 1)) (.var 4) (.glob (.int 4000)))) (.or (.not (.chain .LtE .LtE (.lit (.int 0)) (.var 3) (.var 4))) (.not (.chain .LtE .Lt (.lit (.int 0)) (.var 5) (.var 4))))) (.seq (.raise 0 .nil) .nil) .nil) .nil)) (.seq (.raise 0 .nil) .nil)) .nil)) .nil))
def n_check_year : List Str := ["rule", "year"]
/-- check_year: number 137 -/
def b_check_year : S := (.seq (.expr (.call 136 (.cons (.var 0) .nil))) (.seq (.ite (.not (.chain .LtE .LtE (.lit (.int 0)) (.var 1) (.glob (.int 1000000000000000000)))) (.seq (.raise 0 .nil) .nil) .nil) .nil))
def n_counted : List Str := ["rule", "year", "total", "sign", "part", "leaps", "years", "shift"]
/-- counted: number 138 -/
def b_counted : S := (.seq (.ite (.cmp .Eq (.ix (.var 0) (.lit (.int 0))) (.lit (.str "even"))) (.seq (.unp (.tup (.cons (.var 5) (.cons (.var 6) (.cons (.var 7) .nil)))) (.ix (.var 0) (.lit (.int 1)))) (.seq (.ret (.bin .fdiv (.bin .add (.bin .mul (.var 5) (.var 1)) (.var 7)) (.var 6))) .nil)) .nil) (.seq (.asg 2 (.lit (.int 0))) (.seq (.asg 3 (.lit (.int 1))) (.seq (.for_ (.var 4) (.ix (.var 0) (.lit (.int 1))) (.seq (.asg 2 (.bin .add (.var 2) (.bin .mul (.var 3) (.bin .fdiv (.var 1) (.var 4))))) (.seq (.asg 3 (.neg (.var 3))) .nil))) (.seq (.ret (.var 2)) .nil)))))
def n_is_leap : List Str := ["rule", "year"]
/-- is_leap: number 139 -/
def b_is_leap : S := (.seq (.expr (.call 137 (.cons (.var 0) (.cons (.var 1) .nil)))) (.seq (.ite (.cmp .Eq (.var 1) (.lit (.int 0))) (.seq (.raise 0 .nil) .nil) .nil) (.seq (.ret (.cmp .Gt (.call 138 (.cons (.var 0) (.cons (.var 1) .nil))) (.call 138 (.cons (.var 0) (.cons (.bin .sub (.var 1) (.lit (.int 1))) .nil))))) .nil)))
def n_count_leaps : List Str := ["rule", "year"]
/-- count_leaps: number 140 -/
def b_count_leaps : S := (.seq (.expr (.call 137 (.cons (.var 0) (.cons (.var 1) .nil)))) (.seq (.ret (.call 138 (.cons (.var 0) (.cons (.var 1) .nil)))) .nil))
def n_period : List Str := ["rule"]
/-- period: number 141 -/
def b_period : S := (.seq (.ret (.ite (.cmp .Eq (.ix (.var 0) (.lit (.int 0))) (.lit (.str "parts"))) (.ix (.ix (.var 0) (.lit (.int 1))) (.neg (.lit (.int 1)))) (.ix (.ix (.var 0) (.lit (.int 1))) (.lit (.int 1))))) .nil)
def n_mean : List Str := ["rule"]
/-- mean: number 142 -/
def b_mean : S := (.seq (.expr (.call 136 (.cons (.var 0) .nil))) (.seq (.ret (.call 12 (.cons (.bin .sub (.call 138 (.cons (.var 0) (.cons (.call 141 (.cons (.var 0) .nil)) .nil))) (.call 138 (.cons (.var 0) (.cons (.lit (.int 0)) .nil)))) (.cons (.call 141 (.cons (.var 0) .nil)) .nil)))) .nil))
def n_spread : List Str := ["rule", "many", "years", "gaps", "year", "one", "other"]
/-- spread: number 143 -/
def b_spread : S := (.seq (.expr (.call 136 (.cons (.var 0) .nil))) (.seq (.asg 1 (.call 141 (.cons (.var 0) .nil))) (.seq (.asg 2 (.comp [("year", 4)] (.var 4) (.var 4) (.rng (.cons (.lit (.int 1)) (.cons (.bin .add (.bin .mul (.lit (.int 2)) (.var 1)) (.lit (.int 1))) .nil))) (.cmp .Gt (.call 138 (.cons (.var 0) (.cons (.var 4) .nil))) (.call 138 (.cons (.var 0) (.cons (.bin .sub (.var 4) (.lit (.int 1))) .nil)))))) (.seq (.asg 3 (.comp [("one", 5), ("other", 6)] (.bin .sub (.var 6) (.var 5)) (.tup (.cons (.var 5) (.cons (.var 6) .nil))) (.zip (.var 2) (.slc (.var 2) (.lit (.int 1)) .nil)) (.lit (.bool true)))) (.seq (.ite (.cmp .Eq (.bi .len (.cons (.var 2) .nil)) (.lit (.int 0))) (.seq (.raise 2 .nil) .nil) .nil) (.seq (.ret (.tup (.cons (.bi .min (.cons (.var 3) .nil)) (.cons (.bi .max (.cons (.var 3) .nil)) .nil)))) .nil))))))
def n_law_leaps : List Str := ["rule", "year", "part"]
/-- law_leaps: number 144 -/
def b_law_leaps : S := (.seq (.ite (.cmp .Eq (.ix (.var 0) (.lit (.int 0))) (.lit (.str "even"))) (.seq (.ret (.cmp .Gt (.call 134 (.cons (.var 0) (.cons (.var 1) .nil))) (.call 134 (.cons (.var 0) (.cons (.bin .sub (.var 1) (.lit (.int 1))) .nil))))) .nil) .nil) (.seq (.ret (.cmp .Eq (.bin .mod (.bi .int (.cons (.bi .len (.cons (.comp [("part", 2)] (.var 2) (.var 2) (.ix (.var 0) (.lit (.int 1))) (.cmp .Eq (.bin .mod (.bi .int (.cons (.var 1) .nil)) (.var 2)) (.lit (.int 0)))) .nil)) .nil)) (.lit (.int 2))) (.lit (.int 1)))) .nil))
def n_law_divisor2 : List Str := ["first", "second"]
/-- law_divisor: number 145 -/
def b_law_divisor2 : S := (.seq (.asg 0 (.bi .max (.cons (.var 0) (.cons (.bin .sub (.lit (.int 0)) (.var 0)) .nil)))) (.seq (.asg 1 (.bi .max (.cons (.var 1) (.cons (.bin .sub (.lit (.int 0)) (.var 1)) .nil)))) (.seq (.while_ (.cmp .Gt (.var 1) (.lit (.int 0))) (.seq (.par 0 1 (.var 1) (.bin .mod (.bi .int (.cons (.var 0) .nil)) (.var 1))) .nil)) (.seq (.ret (.var 0)) .nil))))
def n_law_reduced2 : List Str := ["top", "below", "common"]
/-- law_reduced: number 146 -/
def b_law_reduced2 : S := (.seq (.asg 2 (.call 145 (.cons (.var 0) (.cons (.var 1) .nil)))) (.seq (.ret (.tup (.cons (.bin .fdiv (.var 0) (.var 2)) (.cons (.bin .fdiv (.var 1) (.var 2)) .nil)))) .nil))
def n_leap_at : List Str := ["rule", "count", "many", "rounds", "rest", "year"]
/-- leap_at: number 147 -/
def b_leap_at : S := (.seq (.expr (.call 136 (.cons (.var 0) .nil))) (.seq (.ite (.not (.chain .LtE .LtE (.lit (.int 1)) (.var 1) (.glob (.int 1000000000000000000)))) (.seq (.raise 0 .nil) .nil) .nil) (.seq (.asg 2 (.bin .sub (.call 138 (.cons (.var 0) (.cons (.call 141 (.cons (.var 0) .nil)) .nil))) (.call 138 (.cons (.var 0) (.cons (.lit (.int 0)) .nil))))) (.seq (.ite (.cmp .Eq (.var 2) (.lit (.int 0))) (.seq (.raise 2 .nil) .nil) .nil) (.seq (.asg 3 (.bin .fdiv (.bin .sub (.var 1) (.lit (.int 1))) (.var 2))) (.seq (.asg 4 (.bin .add (.bin .sub (.var 1) (.bin .mul (.var 3) (.var 2))) (.call 138 (.cons (.var 0) (.cons (.lit (.int 0)) .nil))))) (.seq (.asg 5 (.lit (.int 1))) (.seq (.while_ (.cmp .Lt (.call 138 (.cons (.var 0) (.cons (.var 5) .nil))) (.var 4)) (.seq (.asg 5 (.bin .add (.var 5) (.lit (.int 1)))) .nil)) (.seq (.ret (.bin .add (.var 5) (.bin .mul (.var 3) (.call 141 (.cons (.var 0) .nil))))) .nil)))))))))
def shR (r : Ru) : Prop := (r.1 = .ev → ∃ l y s, r.2 = [l, y, s]) ∧ (r.1 = .pa → (∀ x ∈ r.2, 1 ≤ x) ∨ r.2 = [0]) ∧ (∀ x ∈ r.2, Z 20 x) ∧ r.2.length ≤ 5
def inY (lo k : Int) : Prop := lo ≤ k ∧ k ≤ 1000000000000000000
def IsMn (m : Int) (l : List Int) : Prop := m ∈ l ∧ ∀ y ∈ l, m ≤ y
def IsMx (m : Int) (l : List Int) : Prop := m ∈ l ∧ ∀ y ∈ l, y ≤ m
def C_law_great : Ct := fun ds Q E => ∃ (m : Int), ds = [.st, .I m] ∧ (0 < m ∧ ∀ x : Int, 0 ≤ x → x < m → Q (.I x))
theorem p_law_great {m : Int} {Q : D → Prop} {E : Nat → Prop} : C_law_great [.st, .I m] Q E ↔ (0 < m ∧ ∀ x : Int, 0 ≤ x → x < m → Q (.I x)) := ⟨fun ⟨m', e, h⟩ => by simp only [List.cons.injEq, D.py.injEq, PyData.int.injEq, PyData.bool.injEq, PyData.str.injEq, pr_inj, qd_inj, prs_inj, ti_inj, li_inj, and_true, true_and, ru_inj] at e; obtain rfl := e; exact h, fun h => ⟨_, rfl, h⟩⟩
def C_law_rule : Ct := fun ds Q E => ds = [.st] ∧ (∀ r, goodR r → Q (.py (ru r)))
theorem p_law_rule  {Q : D → Prop} {E : Nat → Prop} : C_law_rule [.st] Q E ↔ (∀ r, goodR r → Q (.py (ru r))) := ⟨fun ⟨e, h⟩ => by exact h, fun h => ⟨rfl, h⟩⟩
def C_law_period : Ct := fun ds Q E => ∃ (r : Ru), ds = [.py (ru r)] ∧ (goodR r ∧ Q (.I (per r)))
theorem p_law_period {r : Ru} {Q : D → Prop} {E : Nat → Prop} : C_law_period [.py (ru r)] Q E ↔ (goodR r ∧ Q (.I (per r))) := ⟨fun ⟨r', e, h⟩ => by simp only [List.cons.injEq, D.py.injEq, PyData.int.injEq, PyData.bool.injEq, PyData.str.injEq, pr_inj, qd_inj, prs_inj, ti_inj, li_inj, and_true, true_and, ru_inj] at e; obtain rfl := e; exact h, fun h => ⟨_, rfl, h⟩⟩
def C_law_count2 : Ct := fun ds Q E => ∃ (r : Ru) (y : Int), ds = [.py (ru r), .I y] ∧ (goodR r ∧ Z 80 y ∧ Q (.I (cnt r y)))
theorem p_law_count2 {r : Ru} {y : Int} {Q : D → Prop} {E : Nat → Prop} : C_law_count2 [.py (ru r), .I y] Q E ↔ (goodR r ∧ Z 80 y ∧ Q (.I (cnt r y))) := ⟨fun ⟨r', y', e, h⟩ => by simp only [List.cons.injEq, D.py.injEq, PyData.int.injEq, PyData.bool.injEq, PyData.str.injEq, pr_inj, qd_inj, prs_inj, ti_inj, li_inj, and_true, true_and, ru_inj] at e; obtain ⟨rfl, rfl⟩ := e; exact h, fun h => ⟨_, _, rfl, h⟩⟩
def C_law_wrong_rule : Ct := fun ds Q E => ds = [.st] ∧ (∀ r, shR r → ¬ goodR r → Q (.py (ru r)))
theorem p_law_wrong_rule  {Q : D → Prop} {E : Nat → Prop} : C_law_wrong_rule [.st] Q E ↔ (∀ r, shR r → ¬ goodR r → Q (.py (ru r))) := ⟨fun ⟨e, h⟩ => by exact h, fun h => ⟨rfl, h⟩⟩
def C_check_rule : Ct := fun ds Q E => ∃ (r : Ru), ds = [.py (ru r)] ∧ (shR r ∧ (goodR r → Q .N) ∧ (¬ goodR r → E 0))
theorem p_check_rule {r : Ru} {Q : D → Prop} {E : Nat → Prop} : C_check_rule [.py (ru r)] Q E ↔ (shR r ∧ (goodR r → Q .N) ∧ (¬ goodR r → E 0)) := ⟨fun ⟨r', e, h⟩ => by simp only [List.cons.injEq, D.py.injEq, PyData.int.injEq, PyData.bool.injEq, PyData.str.injEq, pr_inj, qd_inj, prs_inj, ti_inj, li_inj, and_true, true_and, ru_inj] at e; obtain rfl := e; exact h, fun h => ⟨_, rfl, h⟩⟩
def C_check_year : Ct := fun ds Q E => ∃ (r : Ru) (y : Int), ds = [.py (ru r), .I y] ∧ (shR r ∧ (goodR r ∧ inY 0 y → Q .N) ∧ (¬ (goodR r ∧ inY 0 y) → E 0))
theorem p_check_year {r : Ru} {y : Int} {Q : D → Prop} {E : Nat → Prop} : C_check_year [.py (ru r), .I y] Q E ↔ (shR r ∧ (goodR r ∧ inY 0 y → Q .N) ∧ (¬ (goodR r ∧ inY 0 y) → E 0)) := ⟨fun ⟨r', y', e, h⟩ => by simp only [List.cons.injEq, D.py.injEq, PyData.int.injEq, PyData.bool.injEq, PyData.str.injEq, pr_inj, qd_inj, prs_inj, ti_inj, li_inj, and_true, true_and, ru_inj] at e; obtain ⟨rfl, rfl⟩ := e; exact h, fun h => ⟨_, _, rfl, h⟩⟩
def C_counted : Ct := fun ds Q E => ∃ (r : Ru) (y : Int), ds = [.py (ru r), .I y] ∧ (goodR r ∧ Z 80 y ∧ Q (.I (cnt r y)))
theorem p_counted {r : Ru} {y : Int} {Q : D → Prop} {E : Nat → Prop} : C_counted [.py (ru r), .I y] Q E ↔ (goodR r ∧ Z 80 y ∧ Q (.I (cnt r y))) := ⟨fun ⟨r', y', e, h⟩ => by simp only [List.cons.injEq, D.py.injEq, PyData.int.injEq, PyData.bool.injEq, PyData.str.injEq, pr_inj, qd_inj, prs_inj, ti_inj, li_inj, and_true, true_and, ru_inj] at e; obtain ⟨rfl, rfl⟩ := e; exact h, fun h => ⟨_, _, rfl, h⟩⟩
def C_is_leap : Ct := fun ds Q E => ∃ (r : Ru) (y : Int), ds = [.py (ru r), .I y] ∧ (shR r ∧ (goodR r ∧ inY 1 y → Q (.B (leapL r y))) ∧ (¬ (goodR r ∧ inY 1 y) → E 0))
theorem p_is_leap {r : Ru} {y : Int} {Q : D → Prop} {E : Nat → Prop} : C_is_leap [.py (ru r), .I y] Q E ↔ (shR r ∧ (goodR r ∧ inY 1 y → Q (.B (leapL r y))) ∧ (¬ (goodR r ∧ inY 1 y) → E 0)) := ⟨fun ⟨r', y', e, h⟩ => by simp only [List.cons.injEq, D.py.injEq, PyData.int.injEq, PyData.bool.injEq, PyData.str.injEq, pr_inj, qd_inj, prs_inj, ti_inj, li_inj, and_true, true_and, ru_inj] at e; obtain ⟨rfl, rfl⟩ := e; exact h, fun h => ⟨_, _, rfl, h⟩⟩
def C_count_leaps : Ct := fun ds Q E => ∃ (r : Ru) (y : Int), ds = [.py (ru r), .I y] ∧ (shR r ∧ (goodR r ∧ inY 0 y → Q (.I (cnt r y))) ∧ (¬ (goodR r ∧ inY 0 y) → E 0))
theorem p_count_leaps {r : Ru} {y : Int} {Q : D → Prop} {E : Nat → Prop} : C_count_leaps [.py (ru r), .I y] Q E ↔ (shR r ∧ (goodR r ∧ inY 0 y → Q (.I (cnt r y))) ∧ (¬ (goodR r ∧ inY 0 y) → E 0)) := ⟨fun ⟨r', y', e, h⟩ => by simp only [List.cons.injEq, D.py.injEq, PyData.int.injEq, PyData.bool.injEq, PyData.str.injEq, pr_inj, qd_inj, prs_inj, ti_inj, li_inj, and_true, true_and, ru_inj] at e; obtain ⟨rfl, rfl⟩ := e; exact h, fun h => ⟨_, _, rfl, h⟩⟩
def C_period : Ct := fun ds Q E => ∃ (r : Ru), ds = [.py (ru r)] ∧ (goodR r ∧ Q (.I (per r)))
theorem p_period {r : Ru} {Q : D → Prop} {E : Nat → Prop} : C_period [.py (ru r)] Q E ↔ (goodR r ∧ Q (.I (per r))) := ⟨fun ⟨r', e, h⟩ => by simp only [List.cons.injEq, D.py.injEq, PyData.int.injEq, PyData.bool.injEq, PyData.str.injEq, pr_inj, qd_inj, prs_inj, ti_inj, li_inj, and_true, true_and, ru_inj] at e; obtain rfl := e; exact h, fun h => ⟨_, rfl, h⟩⟩
def C_mean : Ct := fun ds Q E => ∃ (r : Ru), ds = [.py (ru r)] ∧ (shR r ∧ (goodR r → Q (.py (pr (frac (cnt r (per r)) (per r))))) ∧ (¬ goodR r → E 0))
theorem p_mean {r : Ru} {Q : D → Prop} {E : Nat → Prop} : C_mean [.py (ru r)] Q E ↔ (shR r ∧ (goodR r → Q (.py (pr (frac (cnt r (per r)) (per r))))) ∧ (¬ goodR r → E 0)) := ⟨fun ⟨r', e, h⟩ => by simp only [List.cons.injEq, D.py.injEq, PyData.int.injEq, PyData.bool.injEq, PyData.str.injEq, pr_inj, qd_inj, prs_inj, ti_inj, li_inj, and_true, true_and, ru_inj] at e; obtain rfl := e; exact h, fun h => ⟨_, rfl, h⟩⟩
def C_spread : Ct := fun ds Q E => ∃ (r : Ru), ds = [.py (ru r)] ∧ (shR r ∧ (goodR r → (cnt r (per r) = 0 → E 2) ∧ (cnt r (per r) ≠ 0 → ∀ a b, IsMn a (gapsL (ly (leapL r) (2 * (per r).toNat))) → IsMx b (gapsL (ly (leapL r) (2 * (per r).toNat))) → Q (.py (pr (a, b))))) ∧ (¬ goodR r → E 0))
theorem p_spread {r : Ru} {Q : D → Prop} {E : Nat → Prop} : C_spread [.py (ru r)] Q E ↔ (shR r ∧ (goodR r → (cnt r (per r) = 0 → E 2) ∧ (cnt r (per r) ≠ 0 → ∀ a b, IsMn a (gapsL (ly (leapL r) (2 * (per r).toNat))) → IsMx b (gapsL (ly (leapL r) (2 * (per r).toNat))) → Q (.py (pr (a, b))))) ∧ (¬ goodR r → E 0)) := ⟨fun ⟨r', e, h⟩ => by simp only [List.cons.injEq, D.py.injEq, PyData.int.injEq, PyData.bool.injEq, PyData.str.injEq, pr_inj, qd_inj, prs_inj, ti_inj, li_inj, and_true, true_and, ru_inj] at e; obtain rfl := e; exact h, fun h => ⟨_, rfl, h⟩⟩
def C_law_leaps : Ct := fun ds Q E => ∃ (r : Ru) (y : Int), ds = [.py (ru r), .I y] ∧ (goodR r ∧ Z 80 y ∧ Z 80 (y - 1) ∧ Q (.B (leapL r y)))
theorem p_law_leaps {r : Ru} {y : Int} {Q : D → Prop} {E : Nat → Prop} : C_law_leaps [.py (ru r), .I y] Q E ↔ (goodR r ∧ Z 80 y ∧ Z 80 (y - 1) ∧ Q (.B (leapL r y))) := ⟨fun ⟨r', y', e, h⟩ => by simp only [List.cons.injEq, D.py.injEq, PyData.int.injEq, PyData.bool.injEq, PyData.str.injEq, pr_inj, qd_inj, prs_inj, ti_inj, li_inj, and_true, true_and, ru_inj] at e; obtain ⟨rfl, rfl⟩ := e; exact h, fun h => ⟨_, _, rfl, h⟩⟩
def C_law_divisor2 : Ct := fun ds Q E => ∃ (a : Int) (b : Int), ds = [.I a, .I b] ∧ (Q (.I (Int.gcd a b)))
theorem p_law_divisor2 {a : Int} {b : Int} {Q : D → Prop} {E : Nat → Prop} : C_law_divisor2 [.I a, .I b] Q E ↔ (Q (.I (Int.gcd a b))) := ⟨fun ⟨a', b', e, h⟩ => by simp only [List.cons.injEq, D.py.injEq, PyData.int.injEq, PyData.bool.injEq, PyData.str.injEq, pr_inj, qd_inj, prs_inj, ti_inj, li_inj, and_true, true_and, ru_inj] at e; obtain ⟨rfl, rfl⟩ := e; exact h, fun h => ⟨_, _, rfl, h⟩⟩
def C_law_reduced2 : Ct := fun ds Q E => ∃ (a : Int) (b : Int), ds = [.I a, .I b] ∧ (0 < b ∧ b.natAbs ≤ bigI ∧ Q (.py (pr (red a b))))
theorem p_law_reduced2 {a : Int} {b : Int} {Q : D → Prop} {E : Nat → Prop} : C_law_reduced2 [.I a, .I b] Q E ↔ (0 < b ∧ b.natAbs ≤ bigI ∧ Q (.py (pr (red a b)))) := ⟨fun ⟨a', b', e, h⟩ => by simp only [List.cons.injEq, D.py.injEq, PyData.int.injEq, PyData.bool.injEq, PyData.str.injEq, pr_inj, qd_inj, prs_inj, ti_inj, li_inj, and_true, true_and, ru_inj] at e; obtain ⟨rfl, rfl⟩ := e; exact h, fun h => ⟨_, _, rfl, h⟩⟩
def C_leap_at : Ct := fun ds Q E => ∃ (r : Ru) (k : Int), ds = [.py (ru r), .I k] ∧ (shR r ∧ (¬ (goodR r ∧ inY 1 k) → E 0) ∧ (goodR r ∧ inY 1 k → (cnt r (per r) = 0 → E 2) ∧ (cnt r (per r) ≠ 0 → ∀ y, 1 ≤ y → Z 80 y → cnt r y = k → leapL r y = true → Q (.I y))))
theorem p_leap_at {r : Ru} {k : Int} {Q : D → Prop} {E : Nat → Prop} : C_leap_at [.py (ru r), .I k] Q E ↔ (shR r ∧ (¬ (goodR r ∧ inY 1 k) → E 0) ∧ (goodR r ∧ inY 1 k → (cnt r (per r) = 0 → E 2) ∧ (cnt r (per r) ≠ 0 → ∀ y, 1 ≤ y → Z 80 y → cnt r y = k → leapL r y = true → Q (.I y)))) := ⟨fun ⟨r', k', e, h⟩ => by simp only [List.cons.injEq, D.py.injEq, PyData.int.injEq, PyData.bool.injEq, PyData.str.injEq, pr_inj, qd_inj, prs_inj, ti_inj, li_inj, and_true, true_and, ru_inj] at e; obtain ⟨rfl, rfl⟩ := e; exact h, fun h => ⟨_, _, rfl, h⟩⟩
/-! ### plain -/
theorem Z20 {x : Int} (h : -1048576 ≤ x ∧ x ≤ 1048576) : Z 20 x := by unfold Z; omega
theorem goodR_sh {r : Ru} (h : goodR r) : shR r := by
  obtain ⟨w, ps⟩ := r
  rcases h with ⟨h, h1, h2, h3, h4⟩ | ⟨h, l, n, s, h1, h2, h3, h4⟩
  · simp only at h h1 h2 h3 h4
    subst h
    exact ⟨fun z => (nomatch z), fun _ => .inl fun x hx => (h3 x hx).1, fun x hx => Z20 (by have := h3 x hx; omega), by show ps.length ≤ 5; omega⟩
  · simp only at h h1
    subst h h1
    refine ⟨fun _ => ⟨_, _, _, rfl⟩, fun z => (nomatch z), fun x hx => ?_, by show 3 ≤ 5; decide⟩
    simp only [List.mem_cons, List.not_mem_nil, or_false] at hx
    rcases hx with rfl | rfl | rfl <;> exact Z20 (by omega)
theorem chn_all : ∀ {ps : List Int}, (((ps.zip (ps.drop 1)).map fun x => decide (x.1 < x.2) && decide (x.2.fmod x.1 = 0)).all id = true) ↔ chn ps
  | [] => by simp [chn]
  | [x] => by simp [chn]
  | x :: y :: r => by
    have ih := chn_all (ps := y :: r)
    simp only [List.drop_succ_cons, List.drop_zero, List.zip_cons_cons, List.map_cons, List.all_cons, id, Bool.and_eq_true, decide_eq_true_eq] at ih ⊢
    rw [show chn (x :: y :: r) = ((x < y ∧ y.fmod x = 0) ∧ chn (y :: r)) from rfl, ← ih]
theorem s_law_great {Φ : PhiT} (h_law_next : Φ 1 = C_law_next) (ds : List D) (Q : D → Prop) (E : Nat → Prop) (h : C_law_great ds Q E) : ds.length = 2 ∧ wpS Φ exName b_law_great (initE n_law_great ds) (endF Q E) := by
  obtain ⟨m, rfl, hm, hq⟩ := h
  refine ⟨rfl, ?_⟩
  simp only [wpS, wp, getV, getB, initE, endF, bindG, List.map_cons, List.map_nil, List.length_cons, List.length_nil, List.cons_append, List.nil_append, List.append_nil, List.getElem?_cons_zero, List.getElem?_cons_succ, List.set_cons_zero, List.set_cons_succ, partD, k_L, k_T, l_lenT, l_lenL, l_int, l_intB, l_abs, l_max2, l_max3, l_max4, l_min2, l_maxL, l_minL, l_sum, l_all, l_any, l_tupL, l_tupT, l_lisL, l_lisT, r_1, r_2, r_l, i_L, i_T, i_A, if_true, if_false, ite_true, ite_false, not_false_eq_true, not_true_eq_false, Bool.false_eq_true, ite_not, b_add, b_addT, b_addL, b_sub, b_subB, b_mul, b_mulT, b_mulL, b_fdiv, b_mod, b_pow, a_add, a_sub, a_mul, a_fdiv, c_lt, c_le, c_gt, c_ge, c_eqI, c_neI, c_eqB, c_neB, seqP, pysD, Option.map_some, List.replicate_zero, List.replicate_succ, Nat.zero_add, Nat.add_zero, Nat.reduceAdd, Nat.reduceSub, Nat.reduceLeDiff, decide_eq_true_eq, Bool.not_eq_true', decide_eq_false_iff_not, Nat.sub_self, Option.some.injEq, exists_eq_left', exists_eq_left, x_pick, f_pr, f_qd, f_prT, f_qdT, x_pr0, x_pr1, x_qd0, x_qd1, x_qd2, x_qd3, g_pr, g_qd, l_pr, l_qd, l_prs, l_ti, l_li, c_eq_pr, c_ne_pr, c_eq_qd, c_ne_qd, i_pr, i_qd, i_prs, i_ti, i_li, true_and, and_true, sl0, sl1, sl2, sl3, sl4, sl5, sl6, sl7, sl8, sl9, sl10, sl11, sl12, sl13, sl14, mketa, wipe1, shE_cons, shE_nil, shS_sh, shS_ow, shS_none, eq_self, and_self, decide_true, decide_false, reduceCtorEq, false_and, and_false, true_implies, false_implies, implies_true, not_true_eq_false, Bool.not_true, Bool.not_false, Bool.true_and, Bool.false_and, Bool.and_true, Bool.and_false, Bool.or_true, Bool.true_or, Bool.or_false, Bool.false_or, Int.reduceLT, Int.reduceLE, Nat.reduceLT, x_ru0, x_ru1, c_ev, c_pa, g_ti, k_ti1, wipe2, h_law_next, p_law_next, b_law_great, n_law_great]
  refine fun x hx hx2 => ⟨cm (by have : 1009 ≤ bigI := by decide +kernel
                                 omega) (by decide +kernel), ?_⟩
  refine fun y hy hy2 => ⟨by omega, ?_⟩
  have := fmodp (x * 1009 + y) hm
  exact hq _ this.1 this.2
theorem s_law_period {Φ : PhiT}  (ds : List D) (Q : D → Prop) (E : Nat → Prop) (h : C_law_period ds Q E) : ds.length = 1 ∧ wpS Φ exName b_law_period (initE n_law_period ds) (endF Q E) := by
  obtain ⟨r, rfl, hg, hq⟩ := h
  refine ⟨rfl, ?_⟩
  simp only [wpS, wp, getV, getB, initE, endF, bindG, List.map_cons, List.map_nil, List.length_cons, List.length_nil, List.cons_append, List.nil_append, List.append_nil, List.getElem?_cons_zero, List.getElem?_cons_succ, List.set_cons_zero, List.set_cons_succ, partD, k_L, k_T, l_lenT, l_lenL, l_int, l_intB, l_abs, l_max2, l_max3, l_max4, l_min2, l_maxL, l_minL, l_sum, l_all, l_any, l_tupL, l_tupT, l_lisL, l_lisT, r_1, r_2, r_l, i_L, i_T, i_A, if_true, if_false, ite_true, ite_false, not_false_eq_true, not_true_eq_false, Bool.false_eq_true, ite_not, b_add, b_addT, b_addL, b_sub, b_subB, b_mul, b_mulT, b_mulL, b_fdiv, b_mod, b_pow, a_add, a_sub, a_mul, a_fdiv, c_lt, c_le, c_gt, c_ge, c_eqI, c_neI, c_eqB, c_neB, seqP, pysD, Option.map_some, List.replicate_zero, List.replicate_succ, Nat.zero_add, Nat.add_zero, Nat.reduceAdd, Nat.reduceSub, Nat.reduceLeDiff, decide_eq_true_eq, Bool.not_eq_true', decide_eq_false_iff_not, Nat.sub_self, Option.some.injEq, exists_eq_left', exists_eq_left, x_pick, f_pr, f_qd, f_prT, f_qdT, x_pr0, x_pr1, x_qd0, x_qd1, x_qd2, x_qd3, g_pr, g_qd, l_pr, l_qd, l_prs, l_ti, l_li, c_eq_pr, c_ne_pr, c_eq_qd, c_ne_qd, i_pr, i_qd, i_prs, i_ti, i_li, true_and, and_true, sl0, sl1, sl2, sl3, sl4, sl5, sl6, sl7, sl8, sl9, sl10, sl11, sl12, sl13, sl14, mketa, wipe1, shE_cons, shE_nil, shS_sh, shS_ow, shS_none, eq_self, and_self, decide_true, decide_false, reduceCtorEq, false_and, and_false, true_implies, false_implies, implies_true, not_true_eq_false, Bool.not_true, Bool.not_false, Bool.true_and, Bool.false_and, Bool.and_true, Bool.and_false, Bool.or_true, Bool.true_or, Bool.or_false, Bool.false_or, Int.reduceLT, Int.reduceLE, Nat.reduceLT, x_ru0, x_ru1, c_ev, c_pa, g_ti, k_ti1, wipe2, b_law_period, n_law_period]
  unfold per isEv at hq
  rcases hg with ⟨h, h1, h2, h3, h4⟩ | ⟨h, l, n, s, h1, h2, h3, h4⟩
  · have ne : r.2 ≠ [] := by intro z; rw [z] at h1; simp at h1
    have e : ¬ r.1 = Kd.ev := by rw [h]; exact fun z => nomatch z
    rw [decide_eq_false e] at hq
    rw [if_neg e]
    exact ix_las ne hq
  · rw [decide_eq_true h, if_pos rfl, h1] at hq
    rw [if_pos h, h1]
    exact ix_ti (by decide) rfl hq
theorem s_period {Φ : PhiT}  (ds : List D) (Q : D → Prop) (E : Nat → Prop) (h : C_period ds Q E) : ds.length = 1 ∧ wpS Φ exName b_period (initE n_period ds) (endF Q E) := by
  obtain ⟨r, rfl, hg, hq⟩ := h
  refine ⟨rfl, ?_⟩
  simp only [wpS, wp, getV, getB, initE, endF, bindG, List.map_cons, List.map_nil, List.length_cons, List.length_nil, List.cons_append, List.nil_append, List.append_nil, List.getElem?_cons_zero, List.getElem?_cons_succ, List.set_cons_zero, List.set_cons_succ, partD, k_L, k_T, l_lenT, l_lenL, l_int, l_intB, l_abs, l_max2, l_max3, l_max4, l_min2, l_maxL, l_minL, l_sum, l_all, l_any, l_tupL, l_tupT, l_lisL, l_lisT, r_1, r_2, r_l, i_L, i_T, i_A, if_true, if_false, ite_true, ite_false, not_false_eq_true, not_true_eq_false, Bool.false_eq_true, ite_not, b_add, b_addT, b_addL, b_sub, b_subB, b_mul, b_mulT, b_mulL, b_fdiv, b_mod, b_pow, a_add, a_sub, a_mul, a_fdiv, c_lt, c_le, c_gt, c_ge, c_eqI, c_neI, c_eqB, c_neB, seqP, pysD, Option.map_some, List.replicate_zero, List.replicate_succ, Nat.zero_add, Nat.add_zero, Nat.reduceAdd, Nat.reduceSub, Nat.reduceLeDiff, decide_eq_true_eq, Bool.not_eq_true', decide_eq_false_iff_not, Nat.sub_self, Option.some.injEq, exists_eq_left', exists_eq_left, x_pick, f_pr, f_qd, f_prT, f_qdT, x_pr0, x_pr1, x_qd0, x_qd1, x_qd2, x_qd3, g_pr, g_qd, l_pr, l_qd, l_prs, l_ti, l_li, c_eq_pr, c_ne_pr, c_eq_qd, c_ne_qd, i_pr, i_qd, i_prs, i_ti, i_li, true_and, and_true, sl0, sl1, sl2, sl3, sl4, sl5, sl6, sl7, sl8, sl9, sl10, sl11, sl12, sl13, sl14, mketa, wipe1, shE_cons, shE_nil, shS_sh, shS_ow, shS_none, eq_self, and_self, decide_true, decide_false, reduceCtorEq, false_and, and_false, true_implies, false_implies, implies_true, not_true_eq_false, Bool.not_true, Bool.not_false, Bool.true_and, Bool.false_and, Bool.and_true, Bool.and_false, Bool.or_true, Bool.true_or, Bool.or_false, Bool.false_or, Int.reduceLT, Int.reduceLE, Nat.reduceLT, x_ru0, x_ru1, c_ev, c_pa, g_ti, k_ti1, wipe2, b_period, n_period]
  unfold per isEv at hq
  rcases hg with ⟨h, h1, h2, h3, h4⟩ | ⟨h, l, n, s, h1, h2, h3, h4⟩
  · have ne : r.2 ≠ [] := by intro z; rw [z] at h1; simp at h1
    have e : ¬ r.1 = Kd.ev := by rw [h]; exact fun z => nomatch z
    rw [decide_eq_false e] at hq
    rw [if_pos h]
    exact ix_las ne hq
  · have e : ¬ r.1 = Kd.pa := by rw [h]; exact fun z => nomatch z
    rw [decide_eq_true h, if_pos rfl, h1] at hq
    rw [if_neg e, h1]
    exact ix_ti (by decide) rfl hq
theorem goodPa {ps : List Int} : goodR (.pa, ps) ↔ goodP ps := ⟨fun h => h.elim (fun h => h.2) (fun h => nomatch h.1), fun h => .inl ⟨rfl, h⟩⟩
theorem goodEv {l n s : Int} : goodR (.ev, [l, n, s]) ↔ (1 ≤ n ∧ n ≤ 4000) ∧ (0 ≤ l ∧ l ≤ n) ∧ 0 ≤ s ∧ s < n := by
  constructor
  · rintro (h | ⟨_, l', n', s', e, h⟩)
    · exact nomatch h.1
    · cases e; exact h
  · exact fun h => .inr ⟨rfl, _, _, _, rfl, h⟩
theorem goodNo {ps : List Int} : ¬ goodR (.no, ps) := fun h => h.elim (fun h => nomatch h.1) (fun h => nomatch h.1)
theorem goodP_by {ps : List Int} (h1 : 1 ≤ ps.length) (h2 : ps.length ≤ 4) (h3 : ∀ q ∈ ps, 1 ≤ q) (h4 : las ps ≤ 4000) (h5 : chn ps) : goodP ps :=
  ⟨h1, h2, fun q hq => ⟨h3 q hq, by
    have d := las_dvd h5 h3 q hq
    have ne : ps ≠ [] := by intro z; rw [z] at h1; simp at h1
    have := Int.le_of_dvd (by have := h3 _ (las_mem ne); omega) d
    omega⟩, h5⟩
theorem s_check_rule {Φ : PhiT}  (ds : List D) (Q : D → Prop) (E : Nat → Prop) (h : C_check_rule ds Q E) : ds.length = 1 ∧ wpS Φ exName b_check_rule (initE n_check_rule ds) (endF Q E) := by
  obtain ⟨r, rfl, hs, hq, he⟩ := h
  refine ⟨rfl, ?_⟩
  simp only [wpS, wp, getV, getB, initE, endF, bindG, List.map_cons, List.map_nil, List.length_cons, List.length_nil, List.cons_append, List.nil_append, List.append_nil, List.getElem?_cons_zero, List.getElem?_cons_succ, List.set_cons_zero, List.set_cons_succ, partD, k_L, k_T, l_lenT, l_lenL, l_int, l_intB, l_abs, l_max2, l_max3, l_max4, l_min2, l_maxL, l_minL, l_sum, l_all, l_any, l_tupL, l_tupT, l_lisL, l_lisT, r_1, r_2, r_l, i_L, i_T, i_A, if_true, if_false, ite_true, ite_false, not_false_eq_true, not_true_eq_false, Bool.false_eq_true, ite_not, b_add, b_addT, b_addL, b_sub, b_subB, b_mul, b_mulT, b_mulL, b_fdiv, b_mod, b_pow, a_add, a_sub, a_mul, a_fdiv, c_lt, c_le, c_gt, c_ge, c_eqI, c_neI, c_eqB, c_neB, seqP, pysD, Option.map_some, List.replicate_zero, List.replicate_succ, Nat.zero_add, Nat.add_zero, Nat.reduceAdd, Nat.reduceSub, Nat.reduceLeDiff, decide_eq_true_eq, Bool.not_eq_true', decide_eq_false_iff_not, Nat.sub_self, Option.some.injEq, exists_eq_left', exists_eq_left, x_pick, f_pr, f_qd, f_prT, f_qdT, x_pr0, x_pr1, x_qd0, x_qd1, x_qd2, x_qd3, g_pr, g_qd, l_pr, l_qd, l_prs, l_ti, l_li, c_eq_pr, c_ne_pr, c_eq_qd, c_ne_qd, i_pr, i_qd, i_prs, i_ti, i_li, true_and, and_true, sl0, sl1, sl2, sl3, sl4, sl5, sl6, sl7, sl8, sl9, sl10, sl11, sl12, sl13, sl14, mketa, wipe1, shE_cons, shE_nil, shS_sh, shS_ow, shS_none, eq_self, and_self, decide_true, decide_false, reduceCtorEq, false_and, and_false, true_implies, false_implies, implies_true, not_true_eq_false, Bool.not_true, Bool.not_false, Bool.true_and, Bool.false_and, Bool.and_true, Bool.and_false, Bool.or_true, Bool.true_or, Bool.or_false, Bool.false_or, Int.reduceLT, Int.reduceLE, Nat.reduceLT, x_ru0, x_ru1, c_ev, c_pa, g_ti, k_ti1, wipe2, b_check_rule, n_check_rule]
  obtain ⟨w, ps⟩ := r
  obtain ⟨s1, s2, s3, s4⟩ := hs
  cases w with
  | ev =>
    obtain ⟨l, n, s, e⟩ := s1 rfl
    simp only at e
    subst e
    rw [goodEv] at hq he
    simp only [wpS, wp, getV, getB, initE, endF, bindG, List.map_cons, List.map_nil, List.length_cons, List.length_nil, List.cons_append, List.nil_append, List.append_nil, List.getElem?_cons_zero, List.getElem?_cons_succ, List.set_cons_zero, List.set_cons_succ, partD, k_L, k_T, l_lenT, l_lenL, l_int, l_intB, l_abs, l_max2, l_max3, l_max4, l_min2, l_maxL, l_minL, l_sum, l_all, l_any, l_tupL, l_tupT, l_lisL, l_lisT, r_1, r_2, r_l, i_L, i_T, i_A, if_true, if_false, ite_true, ite_false, not_false_eq_true, not_true_eq_false, Bool.false_eq_true, ite_not, b_add, b_addT, b_addL, b_sub, b_subB, b_mul, b_mulT, b_mulL, b_fdiv, b_mod, b_pow, a_add, a_sub, a_mul, a_fdiv, c_lt, c_le, c_gt, c_ge, c_eqI, c_neI, c_eqB, c_neB, seqP, pysD, Option.map_some, List.replicate_zero, List.replicate_succ, Nat.zero_add, Nat.add_zero, Nat.reduceAdd, Nat.reduceSub, Nat.reduceLeDiff, decide_eq_true_eq, Bool.not_eq_true', decide_eq_false_iff_not, Nat.sub_self, Option.some.injEq, exists_eq_left', exists_eq_left, x_pick, f_pr, f_qd, f_prT, f_qdT, x_pr0, x_pr1, x_qd0, x_qd1, x_qd2, x_qd3, g_pr, g_qd, l_pr, l_qd, l_prs, l_ti, l_li, c_eq_pr, c_ne_pr, c_eq_qd, c_ne_qd, i_pr, i_qd, i_prs, i_ti, i_li, true_and, and_true, sl0, sl1, sl2, sl3, sl4, sl5, sl6, sl7, sl8, sl9, sl10, sl11, sl12, sl13, sl14, mketa, wipe1, shE_cons, shE_nil, shS_sh, shS_ow, shS_none, eq_self, and_self, decide_true, decide_false, reduceCtorEq, false_and, and_false, true_implies, false_implies, implies_true, not_true_eq_false, Bool.not_true, Bool.not_false, Bool.true_and, Bool.false_and, Bool.and_true, Bool.and_false, Bool.or_true, Bool.true_or, Bool.or_false, Bool.false_or, Int.reduceLT, Int.reduceLE, Nat.reduceLT, x_ru0, x_ru1, c_ev, c_pa, g_ti, k_ti1, wipe2]
    repeat' split
    all_goals first | exact hq (by omega) | exact he (by omega)
  | no =>
    simp only [wpS, wp, getV, getB, initE, endF, bindG, List.map_cons, List.map_nil, List.length_cons, List.length_nil, List.cons_append, List.nil_append, List.append_nil, List.getElem?_cons_zero, List.getElem?_cons_succ, List.set_cons_zero, List.set_cons_succ, partD, k_L, k_T, l_lenT, l_lenL, l_int, l_intB, l_abs, l_max2, l_max3, l_max4, l_min2, l_maxL, l_minL, l_sum, l_all, l_any, l_tupL, l_tupT, l_lisL, l_lisT, r_1, r_2, r_l, i_L, i_T, i_A, if_true, if_false, ite_true, ite_false, not_false_eq_true, not_true_eq_false, Bool.false_eq_true, ite_not, b_add, b_addT, b_addL, b_sub, b_subB, b_mul, b_mulT, b_mulL, b_fdiv, b_mod, b_pow, a_add, a_sub, a_mul, a_fdiv, c_lt, c_le, c_gt, c_ge, c_eqI, c_neI, c_eqB, c_neB, seqP, pysD, Option.map_some, List.replicate_zero, List.replicate_succ, Nat.zero_add, Nat.add_zero, Nat.reduceAdd, Nat.reduceSub, Nat.reduceLeDiff, decide_eq_true_eq, Bool.not_eq_true', decide_eq_false_iff_not, Nat.sub_self, Option.some.injEq, exists_eq_left', exists_eq_left, x_pick, f_pr, f_qd, f_prT, f_qdT, x_pr0, x_pr1, x_qd0, x_qd1, x_qd2, x_qd3, g_pr, g_qd, l_pr, l_qd, l_prs, l_ti, l_li, c_eq_pr, c_ne_pr, c_eq_qd, c_ne_qd, i_pr, i_qd, i_prs, i_ti, i_li, true_and, and_true, sl0, sl1, sl2, sl3, sl4, sl5, sl6, sl7, sl8, sl9, sl10, sl11, sl12, sl13, sl14, mketa, wipe1, shE_cons, shE_nil, shS_sh, shS_ow, shS_none, eq_self, and_self, decide_true, decide_false, reduceCtorEq, false_and, and_false, true_implies, false_implies, implies_true, not_true_eq_false, Bool.not_true, Bool.not_false, Bool.true_and, Bool.false_and, Bool.and_true, Bool.and_false, Bool.or_true, Bool.true_or, Bool.or_false, Bool.false_or, Int.reduceLT, Int.reduceLE, Nat.reduceLT, x_ru0, x_ru1, c_ev, c_pa, g_ti, k_ti1, wipe2]
    exact he goodNo
  | pa =>
    rw [goodPa] at hq he
    simp only [wpS, wp, getV, getB, initE, endF, bindG, List.map_cons, List.map_nil, List.length_cons, List.length_nil, List.cons_append, List.nil_append, List.append_nil, List.getElem?_cons_zero, List.getElem?_cons_succ, List.set_cons_zero, List.set_cons_succ, partD, k_L, k_T, l_lenT, l_lenL, l_int, l_intB, l_abs, l_max2, l_max3, l_max4, l_min2, l_maxL, l_minL, l_sum, l_all, l_any, l_tupL, l_tupT, l_lisL, l_lisT, r_1, r_2, r_l, i_L, i_T, i_A, if_true, if_false, ite_true, ite_false, not_false_eq_true, not_true_eq_false, Bool.false_eq_true, ite_not, b_add, b_addT, b_addL, b_sub, b_subB, b_mul, b_mulT, b_mulL, b_fdiv, b_mod, b_pow, a_add, a_sub, a_mul, a_fdiv, c_lt, c_le, c_gt, c_ge, c_eqI, c_neI, c_eqB, c_neB, seqP, pysD, Option.map_some, List.replicate_zero, List.replicate_succ, Nat.zero_add, Nat.add_zero, Nat.reduceAdd, Nat.reduceSub, Nat.reduceLeDiff, decide_eq_true_eq, Bool.not_eq_true', decide_eq_false_iff_not, Nat.sub_self, Option.some.injEq, exists_eq_left', exists_eq_left, x_pick, f_pr, f_qd, f_prT, f_qdT, x_pr0, x_pr1, x_qd0, x_qd1, x_qd2, x_qd3, g_pr, g_qd, l_pr, l_qd, l_prs, l_ti, l_li, c_eq_pr, c_ne_pr, c_eq_qd, c_ne_qd, i_pr, i_qd, i_prs, i_ti, i_li, true_and, and_true, sl0, sl1, sl2, sl3, sl4, sl5, sl6, sl7, sl8, sl9, sl10, sl11, sl12, sl13, sl14, mketa, wipe1, shE_cons, shE_nil, shS_sh, shS_ow, shS_none, eq_self, and_self, decide_true, decide_false, reduceCtorEq, false_and, and_false, true_implies, false_implies, implies_true, not_true_eq_false, Bool.not_true, Bool.not_false, Bool.true_and, Bool.false_and, Bool.and_true, Bool.and_false, Bool.or_true, Bool.true_or, Bool.or_false, Bool.false_or, Int.reduceLT, Int.reduceLE, Nat.reduceLT, x_ru0, x_ru1, c_ev, c_pa, g_ti, k_ti1, wipe2]
    rcases s2 rfl with hp | hp
    · simp only at hp
      split
      · rename_i l1
        split
        · rename_i l2
          obtain ⟨x, xs, rfl⟩ : ∃ x xs, ps = x :: xs := by
            cases ps with
            | nil => simp at l1
            | cons x xs => exact ⟨x, xs, rfl⟩
          have hx := hp x List.mem_cons_self
          refine ix_ti (by decide) (v := x) rfl ?_
          simp only [wpS, wp, getV, getB, initE, endF, bindG, List.map_cons, List.map_nil, List.length_cons, List.length_nil, List.cons_append, List.nil_append, List.append_nil, List.getElem?_cons_zero, List.getElem?_cons_succ, List.set_cons_zero, List.set_cons_succ, partD, k_L, k_T, l_lenT, l_lenL, l_int, l_intB, l_abs, l_max2, l_max3, l_max4, l_min2, l_maxL, l_minL, l_sum, l_all, l_any, l_tupL, l_tupT, l_lisL, l_lisT, r_1, r_2, r_l, i_L, i_T, i_A, if_true, if_false, ite_true, ite_false, not_false_eq_true, not_true_eq_false, Bool.false_eq_true, ite_not, b_add, b_addT, b_addL, b_sub, b_subB, b_mul, b_mulT, b_mulL, b_fdiv, b_mod, b_pow, a_add, a_sub, a_mul, a_fdiv, c_lt, c_le, c_gt, c_ge, c_eqI, c_neI, c_eqB, c_neB, seqP, pysD, Option.map_some, List.replicate_zero, List.replicate_succ, Nat.zero_add, Nat.add_zero, Nat.reduceAdd, Nat.reduceSub, Nat.reduceLeDiff, decide_eq_true_eq, Bool.not_eq_true', decide_eq_false_iff_not, Nat.sub_self, Option.some.injEq, exists_eq_left', exists_eq_left, x_pick, f_pr, f_qd, f_prT, f_qdT, x_pr0, x_pr1, x_qd0, x_qd1, x_qd2, x_qd3, g_pr, g_qd, l_pr, l_qd, l_prs, l_ti, l_li, c_eq_pr, c_ne_pr, c_eq_qd, c_ne_qd, i_pr, i_qd, i_prs, i_ti, i_li, true_and, and_true, sl0, sl1, sl2, sl3, sl4, sl5, sl6, sl7, sl8, sl9, sl10, sl11, sl12, sl13, sl14, mketa, wipe1, shE_cons, shE_nil, shS_sh, shS_ow, shS_none, eq_self, and_self, decide_true, decide_false, reduceCtorEq, false_and, and_false, true_implies, false_implies, implies_true, not_true_eq_false, Bool.not_true, Bool.not_false, Bool.true_and, Bool.false_and, Bool.and_true, Bool.and_false, Bool.or_true, Bool.true_or, Bool.or_false, Bool.false_or, Int.reduceLT, Int.reduceLE, Nat.reduceLT, x_ru0, x_ru1, c_ev, c_pa, g_ti, k_ti1, wipe2]
          rw [if_pos hx]
          refine ix_las (List.cons_ne_nil _ _) ?_
          simp only [wpS, wp, getV, getB, initE, endF, bindG, List.map_cons, List.map_nil, List.length_cons, List.length_nil, List.cons_append, List.nil_append, List.append_nil, List.getElem?_cons_zero, List.getElem?_cons_succ, List.set_cons_zero, List.set_cons_succ, partD, k_L, k_T, l_lenT, l_lenL, l_int, l_intB, l_abs, l_max2, l_max3, l_max4, l_min2, l_maxL, l_minL, l_sum, l_all, l_any, l_tupL, l_tupT, l_lisL, l_lisT, r_1, r_2, r_l, i_L, i_T, i_A, if_true, if_false, ite_true, ite_false, not_false_eq_true, not_true_eq_false, Bool.false_eq_true, ite_not, b_add, b_addT, b_addL, b_sub, b_subB, b_mul, b_mulT, b_mulL, b_fdiv, b_mod, b_pow, a_add, a_sub, a_mul, a_fdiv, c_lt, c_le, c_gt, c_ge, c_eqI, c_neI, c_eqB, c_neB, seqP, pysD, Option.map_some, List.replicate_zero, List.replicate_succ, Nat.zero_add, Nat.add_zero, Nat.reduceAdd, Nat.reduceSub, Nat.reduceLeDiff, decide_eq_true_eq, Bool.not_eq_true', decide_eq_false_iff_not, Nat.sub_self, Option.some.injEq, exists_eq_left', exists_eq_left, x_pick, f_pr, f_qd, f_prT, f_qdT, x_pr0, x_pr1, x_qd0, x_qd1, x_qd2, x_qd3, g_pr, g_qd, l_pr, l_qd, l_prs, l_ti, l_li, c_eq_pr, c_ne_pr, c_eq_qd, c_ne_qd, i_pr, i_qd, i_prs, i_ti, i_li, true_and, and_true, sl0, sl1, sl2, sl3, sl4, sl5, sl6, sl7, sl8, sl9, sl10, sl11, sl12, sl13, sl14, mketa, wipe1, shE_cons, shE_nil, shS_sh, shS_ow, shS_none, eq_self, and_self, decide_true, decide_false, reduceCtorEq, false_and, and_false, true_implies, false_implies, implies_true, not_true_eq_false, Bool.not_true, Bool.not_false, Bool.true_and, Bool.false_and, Bool.and_true, Bool.and_false, Bool.or_true, Bool.true_or, Bool.or_false, Bool.false_or, Int.reduceLT, Int.reduceLE, Nat.reduceLT, x_ru0, x_ru1, c_ev, c_pa, g_ti, k_ti1, wipe2]
          split
          · rename_i l3
            refine he fun z => ?_
            have := (z.2.2.1 _ (las_mem (List.cons_ne_nil x xs))).2
            omega
          · rename_i l3
            show compW _ (zipP ((x :: xs).map PyData.int) (((x :: xs).drop 1).map PyData.int)) [] _
            rw [zip_int]
            refine compW_map (g := fun y => PyData.bool (decide (y.1 < y.2) && decide (y.2.fmod y.1 = 0))) ?_ (fun y hy K' hK => ?_) ?_
            · rw [List.length_zip, sl]
              omega
            · have h1 := hp y.1 (List.of_mem_zip hy).1
              simp only [wpS, wp, getV, getB, initE, endF, bindG, List.map_cons, List.map_nil, List.length_cons, List.length_nil, List.cons_append, List.nil_append, List.append_nil, List.getElem?_cons_zero, List.getElem?_cons_succ, List.set_cons_zero, List.set_cons_succ, partD, k_L, k_T, l_lenT, l_lenL, l_int, l_intB, l_abs, l_max2, l_max3, l_max4, l_min2, l_maxL, l_minL, l_sum, l_all, l_any, l_tupL, l_tupT, l_lisL, l_lisT, r_1, r_2, r_l, i_L, i_T, i_A, if_true, if_false, ite_true, ite_false, not_false_eq_true, not_true_eq_false, Bool.false_eq_true, ite_not, b_add, b_addT, b_addL, b_sub, b_subB, b_mul, b_mulT, b_mulL, b_fdiv, b_mod, b_pow, a_add, a_sub, a_mul, a_fdiv, c_lt, c_le, c_gt, c_ge, c_eqI, c_neI, c_eqB, c_neB, seqP, pysD, Option.map_some, List.replicate_zero, List.replicate_succ, Nat.zero_add, Nat.add_zero, Nat.reduceAdd, Nat.reduceSub, Nat.reduceLeDiff, decide_eq_true_eq, Bool.not_eq_true', decide_eq_false_iff_not, Nat.sub_self, Option.some.injEq, exists_eq_left', exists_eq_left, x_pick, f_pr, f_qd, f_prT, f_qdT, x_pr0, x_pr1, x_qd0, x_qd1, x_qd2, x_qd3, g_pr, g_qd, l_pr, l_qd, l_prs, l_ti, l_li, c_eq_pr, c_ne_pr, c_eq_qd, c_ne_qd, i_pr, i_qd, i_prs, i_ti, i_li, true_and, and_true, sl0, sl1, sl2, sl3, sl4, sl5, sl6, sl7, sl8, sl9, sl10, sl11, sl12, sl13, sl14, mketa, wipe1, shE_cons, shE_nil, shS_sh, shS_ow, shS_none, eq_self, and_self, decide_true, decide_false, reduceCtorEq, false_and, and_false, true_implies, false_implies, implies_true, not_true_eq_false, Bool.not_true, Bool.not_false, Bool.true_and, Bool.false_and, Bool.and_true, Bool.and_false, Bool.or_true, Bool.true_or, Bool.or_false, Bool.false_or, Int.reduceLT, Int.reduceLE, Nat.reduceLT, x_ru0, x_ru1, c_ev, c_pa, g_ti, k_ti1, wipe2]
              split
              · rename_i l4
                rw [decide_eq_true l4, Bool.true_and] at hK
                exact ⟨by omega, hK⟩
              · rename_i l4
                rw [decide_eq_false l4, Bool.false_and] at hK
                exact hK
            · refine ⟨_, boolsP_map _ _, ?_⟩
              split
              · rename_i l4
                refine he fun z => ?_
                rw [chn_all.mpr z.2.2.2] at l4
                cases l4
              · rename_i l4
                refine hq (goodP_by (by omega) (by omega) hp (by omega) (chn_all.mp ?_))
                cases hb : List.all _ id with
                | true => rfl
                | false => exact absurd hb l4
        · rename_i l2
          exact he fun z => by have := z.2.1; omega
      · rename_i l1
        exact he fun z => by have := z.1; omega
    · simp only at hp
      subst hp
      have : ¬ goodP [0] := fun z => absurd (z.2.2.1 0 (List.mem_cons_self)).1 (by decide)
      rw [if_pos (by decide), if_pos (by decide)]
      refine ix_ti (by decide) (v := 0) rfl ?_
      simp only [wpS, wp, getV, getB, initE, endF, bindG, List.map_cons, List.map_nil, List.length_cons, List.length_nil, List.cons_append, List.nil_append, List.append_nil, List.getElem?_cons_zero, List.getElem?_cons_succ, List.set_cons_zero, List.set_cons_succ, partD, k_L, k_T, l_lenT, l_lenL, l_int, l_intB, l_abs, l_max2, l_max3, l_max4, l_min2, l_maxL, l_minL, l_sum, l_all, l_any, l_tupL, l_tupT, l_lisL, l_lisT, r_1, r_2, r_l, i_L, i_T, i_A, if_true, if_false, ite_true, ite_false, not_false_eq_true, not_true_eq_false, Bool.false_eq_true, ite_not, b_add, b_addT, b_addL, b_sub, b_subB, b_mul, b_mulT, b_mulL, b_fdiv, b_mod, b_pow, a_add, a_sub, a_mul, a_fdiv, c_lt, c_le, c_gt, c_ge, c_eqI, c_neI, c_eqB, c_neB, seqP, pysD, Option.map_some, List.replicate_zero, List.replicate_succ, Nat.zero_add, Nat.add_zero, Nat.reduceAdd, Nat.reduceSub, Nat.reduceLeDiff, decide_eq_true_eq, Bool.not_eq_true', decide_eq_false_iff_not, Nat.sub_self, Option.some.injEq, exists_eq_left', exists_eq_left, x_pick, f_pr, f_qd, f_prT, f_qdT, x_pr0, x_pr1, x_qd0, x_qd1, x_qd2, x_qd3, g_pr, g_qd, l_pr, l_qd, l_prs, l_ti, l_li, c_eq_pr, c_ne_pr, c_eq_qd, c_ne_qd, i_pr, i_qd, i_prs, i_ti, i_li, true_and, and_true, sl0, sl1, sl2, sl3, sl4, sl5, sl6, sl7, sl8, sl9, sl10, sl11, sl12, sl13, sl14, mketa, wipe1, shE_cons, shE_nil, shS_sh, shS_ow, shS_none, eq_self, and_self, decide_true, decide_false, reduceCtorEq, false_and, and_false, true_implies, false_implies, implies_true, not_true_eq_false, Bool.not_true, Bool.not_false, Bool.true_and, Bool.false_and, Bool.and_true, Bool.and_false, Bool.or_true, Bool.true_or, Bool.or_false, Bool.false_or, Int.reduceLT, Int.reduceLE, Nat.reduceLT, x_ru0, x_ru1, c_ev, c_pa, g_ti, k_ti1, wipe2]
      exact he this
theorem s_check_year {Φ : PhiT} (h_check_rule : Φ 136 = C_check_rule) (ds : List D) (Q : D → Prop) (E : Nat → Prop) (h : C_check_year ds Q E) : ds.length = 2 ∧ wpS Φ exName b_check_year (initE n_check_year ds) (endF Q E) := by
  obtain ⟨r, y, rfl, hs, hq, he⟩ := h
  refine ⟨rfl, ?_⟩
  simp only [wpS, wp, getV, getB, initE, endF, bindG, List.map_cons, List.map_nil, List.length_cons, List.length_nil, List.cons_append, List.nil_append, List.append_nil, List.getElem?_cons_zero, List.getElem?_cons_succ, List.set_cons_zero, List.set_cons_succ, partD, k_L, k_T, l_lenT, l_lenL, l_int, l_intB, l_abs, l_max2, l_max3, l_max4, l_min2, l_maxL, l_minL, l_sum, l_all, l_any, l_tupL, l_tupT, l_lisL, l_lisT, r_1, r_2, r_l, i_L, i_T, i_A, if_true, if_false, ite_true, ite_false, not_false_eq_true, not_true_eq_false, Bool.false_eq_true, ite_not, b_add, b_addT, b_addL, b_sub, b_subB, b_mul, b_mulT, b_mulL, b_fdiv, b_mod, b_pow, a_add, a_sub, a_mul, a_fdiv, c_lt, c_le, c_gt, c_ge, c_eqI, c_neI, c_eqB, c_neB, seqP, pysD, Option.map_some, List.replicate_zero, List.replicate_succ, Nat.zero_add, Nat.add_zero, Nat.reduceAdd, Nat.reduceSub, Nat.reduceLeDiff, decide_eq_true_eq, Bool.not_eq_true', decide_eq_false_iff_not, Nat.sub_self, Option.some.injEq, exists_eq_left', exists_eq_left, x_pick, f_pr, f_qd, f_prT, f_qdT, x_pr0, x_pr1, x_qd0, x_qd1, x_qd2, x_qd3, g_pr, g_qd, l_pr, l_qd, l_prs, l_ti, l_li, c_eq_pr, c_ne_pr, c_eq_qd, c_ne_qd, i_pr, i_qd, i_prs, i_ti, i_li, true_and, and_true, sl0, sl1, sl2, sl3, sl4, sl5, sl6, sl7, sl8, sl9, sl10, sl11, sl12, sl13, sl14, mketa, wipe1, shE_cons, shE_nil, shS_sh, shS_ow, shS_none, eq_self, and_self, decide_true, decide_false, reduceCtorEq, false_and, and_false, true_implies, false_implies, implies_true, not_true_eq_false, Bool.not_true, Bool.not_false, Bool.true_and, Bool.false_and, Bool.and_true, Bool.and_false, Bool.or_true, Bool.true_or, Bool.or_false, Bool.false_or, Int.reduceLT, Int.reduceLE, Nat.reduceLT, x_ru0, x_ru1, c_ev, c_pa, g_ti, k_ti1, wipe2, h_check_rule, p_check_rule, b_check_year, n_check_year]
  refine ⟨hs, fun hg => ?_, fun hg => he fun z => hg z.1⟩
  split
  · split
    · exact hq ⟨hg, by assumption, by assumption⟩
    · rename_i h; exact he fun z => h z.2.2
  · rename_i h; exact he fun z => h z.2.1
theorem inY_z {lo y : Int} (h0 : 0 ≤ lo) (h : inY lo y) : Z 80 y ∧ Z 80 (y - 1) := by
  obtain ⟨h1, h2⟩ := h
  exact ⟨(Z.at64 (by omega)).mono (by decide), (Z.at64 (by omega)).mono (by decide)⟩
theorem s_counted {Φ : PhiT}  (ds : List D) (Q : D → Prop) (E : Nat → Prop) (h : C_counted ds Q E) : ds.length = 2 ∧ wpS Φ exName b_counted (initE n_counted ds) (endF Q E) := by
  obtain ⟨r, y, rfl, hg, hz, hq⟩ := h
  refine ⟨rfl, ?_⟩
  simp only [wpS, wp, getV, getB, initE, endF, bindG, List.map_cons, List.map_nil, List.length_cons, List.length_nil, List.cons_append, List.nil_append, List.append_nil, List.getElem?_cons_zero, List.getElem?_cons_succ, List.set_cons_zero, List.set_cons_succ, partD, k_L, k_T, l_lenT, l_lenL, l_int, l_intB, l_abs, l_max2, l_max3, l_max4, l_min2, l_maxL, l_minL, l_sum, l_all, l_any, l_tupL, l_tupT, l_lisL, l_lisT, r_1, r_2, r_l, i_L, i_T, i_A, if_true, if_false, ite_true, ite_false, not_false_eq_true, not_true_eq_false, Bool.false_eq_true, ite_not, b_add, b_addT, b_addL, b_sub, b_subB, b_mul, b_mulT, b_mulL, b_fdiv, b_mod, b_pow, a_add, a_sub, a_mul, a_fdiv, c_lt, c_le, c_gt, c_ge, c_eqI, c_neI, c_eqB, c_neB, seqP, pysD, Option.map_some, List.replicate_zero, List.replicate_succ, Nat.zero_add, Nat.add_zero, Nat.reduceAdd, Nat.reduceSub, Nat.reduceLeDiff, decide_eq_true_eq, Bool.not_eq_true', decide_eq_false_iff_not, Nat.sub_self, Option.some.injEq, exists_eq_left', exists_eq_left, x_pick, f_pr, f_qd, f_prT, f_qdT, x_pr0, x_pr1, x_qd0, x_qd1, x_qd2, x_qd3, g_pr, g_qd, l_pr, l_qd, l_prs, l_ti, l_li, c_eq_pr, c_ne_pr, c_eq_qd, c_ne_qd, i_pr, i_qd, i_prs, i_ti, i_li, true_and, and_true, sl0, sl1, sl2, sl3, sl4, sl5, sl6, sl7, sl8, sl9, sl10, sl11, sl12, sl13, sl14, mketa, wipe1, shE_cons, shE_nil, shS_sh, shS_ow, shS_none, eq_self, and_self, decide_true, decide_false, reduceCtorEq, false_and, and_false, true_implies, false_implies, implies_true, not_true_eq_false, Bool.not_true, Bool.not_false, Bool.true_and, Bool.false_and, Bool.and_true, Bool.and_false, Bool.or_true, Bool.true_or, Bool.or_false, Bool.false_or, Int.reduceLT, Int.reduceLE, Nat.reduceLT, x_ru0, x_ru1, c_ev, c_pa, g_ti, k_ti1, wipe2, b_counted, n_counted]
  obtain ⟨w, ps⟩ := r
  have hs := goodR_sh hg
  cases w with
  | ev =>
    obtain ⟨l, n, s, e⟩ := hs.1 rfl
    simp only at e
    subst e
    rw [goodEv] at hg
    simp only [wpS, wp, getV, getB, initE, endF, bindG, List.map_cons, List.map_nil, List.length_cons, List.length_nil, List.cons_append, List.nil_append, List.append_nil, List.getElem?_cons_zero, List.getElem?_cons_succ, List.set_cons_zero, List.set_cons_succ, partD, k_L, k_T, l_lenT, l_lenL, l_int, l_intB, l_abs, l_max2, l_max3, l_max4, l_min2, l_maxL, l_minL, l_sum, l_all, l_any, l_tupL, l_tupT, l_lisL, l_lisT, r_1, r_2, r_l, i_L, i_T, i_A, if_true, if_false, ite_true, ite_false, not_false_eq_true, not_true_eq_false, Bool.false_eq_true, ite_not, b_add, b_addT, b_addL, b_sub, b_subB, b_mul, b_mulT, b_mulL, b_fdiv, b_mod, b_pow, a_add, a_sub, a_mul, a_fdiv, c_lt, c_le, c_gt, c_ge, c_eqI, c_neI, c_eqB, c_neB, seqP, pysD, Option.map_some, List.replicate_zero, List.replicate_succ, Nat.zero_add, Nat.add_zero, Nat.reduceAdd, Nat.reduceSub, Nat.reduceLeDiff, decide_eq_true_eq, Bool.not_eq_true', decide_eq_false_iff_not, Nat.sub_self, Option.some.injEq, exists_eq_left', exists_eq_left, x_pick, f_pr, f_qd, f_prT, f_qdT, x_pr0, x_pr1, x_qd0, x_qd1, x_qd2, x_qd3, g_pr, g_qd, l_pr, l_qd, l_prs, l_ti, l_li, c_eq_pr, c_ne_pr, c_eq_qd, c_ne_qd, i_pr, i_qd, i_prs, i_ti, i_li, true_and, and_true, sl0, sl1, sl2, sl3, sl4, sl5, sl6, sl7, sl8, sl9, sl10, sl11, sl12, sl13, sl14, mketa, wipe1, shE_cons, shE_nil, shS_sh, shS_ow, shS_none, eq_self, and_self, decide_true, decide_false, reduceCtorEq, false_and, and_false, true_implies, false_implies, implies_true, not_true_eq_false, Bool.not_true, Bool.not_false, Bool.true_and, Bool.false_and, Bool.and_true, Bool.and_false, Bool.or_true, Bool.true_or, Bool.or_false, Bool.false_or, Int.reduceLT, Int.reduceLE, Nat.reduceLT, x_ru0, x_ru1, c_ev, c_pa, g_ti, k_ti1, wipe2]
    have zl : Z 64 l := Z.at64 (by omega)
    exact ⟨cmz zl hz (by decide) (by decide), ⟨by omega, lgz (n := 64) (Z.at64 (by omega)) (by decide)⟩, hq⟩
  | no => exact absurd hg goodNo
  | pa =>
    rw [goodPa] at hg
    have hq : Q (.I (altC 1 ps y)) := hq
    simp only [wpS, wp, getV, getB, initE, endF, bindG, List.map_cons, List.map_nil, List.length_cons, List.length_nil, List.cons_append, List.nil_append, List.append_nil, List.getElem?_cons_zero, List.getElem?_cons_succ, List.set_cons_zero, List.set_cons_succ, partD, k_L, k_T, l_lenT, l_lenL, l_int, l_intB, l_abs, l_max2, l_max3, l_max4, l_min2, l_maxL, l_minL, l_sum, l_all, l_any, l_tupL, l_tupT, l_lisL, l_lisT, r_1, r_2, r_l, i_L, i_T, i_A, if_true, if_false, ite_true, ite_false, not_false_eq_true, not_true_eq_false, Bool.false_eq_true, ite_not, b_add, b_addT, b_addL, b_sub, b_subB, b_mul, b_mulT, b_mulL, b_fdiv, b_mod, b_pow, a_add, a_sub, a_mul, a_fdiv, c_lt, c_le, c_gt, c_ge, c_eqI, c_neI, c_eqB, c_neB, seqP, pysD, Option.map_some, List.replicate_zero, List.replicate_succ, Nat.zero_add, Nat.add_zero, Nat.reduceAdd, Nat.reduceSub, Nat.reduceLeDiff, decide_eq_true_eq, Bool.not_eq_true', decide_eq_false_iff_not, Nat.sub_self, Option.some.injEq, exists_eq_left', exists_eq_left, x_pick, f_pr, f_qd, f_prT, f_qdT, x_pr0, x_pr1, x_qd0, x_qd1, x_qd2, x_qd3, g_pr, g_qd, l_pr, l_qd, l_prs, l_ti, l_li, c_eq_pr, c_ne_pr, c_eq_qd, c_ne_qd, i_pr, i_qd, i_prs, i_ti, i_li, true_and, and_true, sl0, sl1, sl2, sl3, sl4, sl5, sl6, sl7, sl8, sl9, sl10, sl11, sl12, sl13, sl14, mketa, wipe1, shE_cons, shE_nil, shS_sh, shS_ow, shS_none, eq_self, and_self, decide_true, decide_false, reduceCtorEq, false_and, and_false, true_implies, false_implies, implies_true, not_true_eq_false, Bool.not_true, Bool.not_false, Bool.true_and, Bool.false_and, Bool.and_true, Bool.and_false, Bool.or_true, Bool.true_or, Bool.or_false, Bool.false_or, Int.reduceLT, Int.reduceLE, Nat.reduceLT, x_ru0, x_ru1, c_ev, c_pa, g_ti, k_ti1, wipe2]
    refine forW_rule (fun i ρ => ∃ (t g : Int) (s4 s5 s6 s7 : Option Sl), ρ = [some (.sh (.py (ru (.pa, ps)))), some (.sh (.I y)), some (.sh (.I t)), some (.sh (.I g)), s4, s5, s6, s7] ∧ (g = 1 ∨ g = -1) ∧ t + altC g (ps.drop i) y = altC 1 ps y) ⟨0, 1, _, _, _, _, rfl, .inl rfl, by rw [List.drop_zero]; omega⟩ ?_ ?_
    · rintro i d ρ K hd ⟨t, g, s4, s5, s6, s7, rfl, hg1, ht⟩ hK
      rw [List.getElem?_map] at hd
      obtain ⟨x, hx, rfl⟩ := Option.map_eq_some_iff.mp hd
      have hi : i < ps.length := by
        rcases Nat.lt_or_ge i ps.length with z | z
        · exact z
        · rw [List.getElem?_eq_none z] at hx; exact nomatch hx
      have hx' : ps[i] = x := by rw [List.getElem?_eq_getElem hi] at hx; exact Option.some.inj hx
      have hxm := hg.2.2.1 x (List.mem_of_getElem? hx)
      rw [List.drop_eq_getElem_cons hi, hx'] at ht
      have ht : t + (g * y.fdiv x + altC (-g) (ps.drop (i + 1)) y) = altC 1 ps y := ht
      simp only [wpS, wp, getV, getB, initE, endF, bindG, List.map_cons, List.map_nil, List.length_cons, List.length_nil, List.cons_append, List.nil_append, List.append_nil, List.getElem?_cons_zero, List.getElem?_cons_succ, List.set_cons_zero, List.set_cons_succ, partD, k_L, k_T, l_lenT, l_lenL, l_int, l_intB, l_abs, l_max2, l_max3, l_max4, l_min2, l_maxL, l_minL, l_sum, l_all, l_any, l_tupL, l_tupT, l_lisL, l_lisT, r_1, r_2, r_l, i_L, i_T, i_A, if_true, if_false, ite_true, ite_false, not_false_eq_true, not_true_eq_false, Bool.false_eq_true, ite_not, b_add, b_addT, b_addL, b_sub, b_subB, b_mul, b_mulT, b_mulL, b_fdiv, b_mod, b_pow, a_add, a_sub, a_mul, a_fdiv, c_lt, c_le, c_gt, c_ge, c_eqI, c_neI, c_eqB, c_neB, seqP, pysD, Option.map_some, List.replicate_zero, List.replicate_succ, Nat.zero_add, Nat.add_zero, Nat.reduceAdd, Nat.reduceSub, Nat.reduceLeDiff, decide_eq_true_eq, Bool.not_eq_true', decide_eq_false_iff_not, Nat.sub_self, Option.some.injEq, exists_eq_left', exists_eq_left, x_pick, f_pr, f_qd, f_prT, f_qdT, x_pr0, x_pr1, x_qd0, x_qd1, x_qd2, x_qd3, g_pr, g_qd, l_pr, l_qd, l_prs, l_ti, l_li, c_eq_pr, c_ne_pr, c_eq_qd, c_ne_qd, i_pr, i_qd, i_prs, i_ti, i_li, true_and, and_true, sl0, sl1, sl2, sl3, sl4, sl5, sl6, sl7, sl8, sl9, sl10, sl11, sl12, sl13, sl14, mketa, wipe1, shE_cons, shE_nil, shS_sh, shS_ow, shS_none, eq_self, and_self, decide_true, decide_false, reduceCtorEq, false_and, and_false, true_implies, false_implies, implies_true, not_true_eq_false, Bool.not_true, Bool.not_false, Bool.true_and, Bool.false_and, Bool.and_true, Bool.and_false, Bool.or_true, Bool.true_or, Bool.or_false, Bool.false_or, Int.reduceLT, Int.reduceLE, Nat.reduceLT, x_ru0, x_ru1, c_ev, c_pa, g_ti, k_ti1, wipe2]
      have zg : Z 64 g := Z.at64 (by omega)
      refine ⟨⟨by omega, lgz (n := 64) (Z.at64 (by omega)) (by decide)⟩, cmz zg (Z.fdiv hz) (by decide) (by decide), hK _ ⟨_, _, _, _, _, _, rfl, by omega, by omega⟩⟩
    · rintro ρ ⟨t, g, s4, s5, s6, s7, rfl, hg1, ht⟩
      rw [List.length_map, List.drop_length] at ht
      have ht : t + 0 = altC 1 ps y := ht
      rw [Int.add_zero] at ht
      simp only [wpS, wp, getV, getB, initE, endF, bindG, List.map_cons, List.map_nil, List.length_cons, List.length_nil, List.cons_append, List.nil_append, List.append_nil, List.getElem?_cons_zero, List.getElem?_cons_succ, List.set_cons_zero, List.set_cons_succ, partD, k_L, k_T, l_lenT, l_lenL, l_int, l_intB, l_abs, l_max2, l_max3, l_max4, l_min2, l_maxL, l_minL, l_sum, l_all, l_any, l_tupL, l_tupT, l_lisL, l_lisT, r_1, r_2, r_l, i_L, i_T, i_A, if_true, if_false, ite_true, ite_false, not_false_eq_true, not_true_eq_false, Bool.false_eq_true, ite_not, b_add, b_addT, b_addL, b_sub, b_subB, b_mul, b_mulT, b_mulL, b_fdiv, b_mod, b_pow, a_add, a_sub, a_mul, a_fdiv, c_lt, c_le, c_gt, c_ge, c_eqI, c_neI, c_eqB, c_neB, seqP, pysD, Option.map_some, List.replicate_zero, List.replicate_succ, Nat.zero_add, Nat.add_zero, Nat.reduceAdd, Nat.reduceSub, Nat.reduceLeDiff, decide_eq_true_eq, Bool.not_eq_true', decide_eq_false_iff_not, Nat.sub_self, Option.some.injEq, exists_eq_left', exists_eq_left, x_pick, f_pr, f_qd, f_prT, f_qdT, x_pr0, x_pr1, x_qd0, x_qd1, x_qd2, x_qd3, g_pr, g_qd, l_pr, l_qd, l_prs, l_ti, l_li, c_eq_pr, c_ne_pr, c_eq_qd, c_ne_qd, i_pr, i_qd, i_prs, i_ti, i_li, true_and, and_true, sl0, sl1, sl2, sl3, sl4, sl5, sl6, sl7, sl8, sl9, sl10, sl11, sl12, sl13, sl14, mketa, wipe1, shE_cons, shE_nil, shS_sh, shS_ow, shS_none, eq_self, and_self, decide_true, decide_false, reduceCtorEq, false_and, and_false, true_implies, false_implies, implies_true, not_true_eq_false, Bool.not_true, Bool.not_false, Bool.true_and, Bool.false_and, Bool.and_true, Bool.and_false, Bool.or_true, Bool.true_or, Bool.or_false, Bool.false_or, Int.reduceLT, Int.reduceLE, Nat.reduceLT, x_ru0, x_ru1, c_ev, c_pa, g_ti, k_ti1, wipe2]
      rw [ht]
      exact hq
theorem s_is_leap {Φ : PhiT} (h_check_year : Φ 137 = C_check_year) (h_counted : Φ 138 = C_counted) (ds : List D) (Q : D → Prop) (E : Nat → Prop) (h : C_is_leap ds Q E) : ds.length = 2 ∧ wpS Φ exName b_is_leap (initE n_is_leap ds) (endF Q E) := by
  obtain ⟨r, y, rfl, hs, hq, he⟩ := h
  refine ⟨rfl, ?_⟩
  simp only [wpS, wp, getV, getB, initE, endF, bindG, List.map_cons, List.map_nil, List.length_cons, List.length_nil, List.cons_append, List.nil_append, List.append_nil, List.getElem?_cons_zero, List.getElem?_cons_succ, List.set_cons_zero, List.set_cons_succ, partD, k_L, k_T, l_lenT, l_lenL, l_int, l_intB, l_abs, l_max2, l_max3, l_max4, l_min2, l_maxL, l_minL, l_sum, l_all, l_any, l_tupL, l_tupT, l_lisL, l_lisT, r_1, r_2, r_l, i_L, i_T, i_A, if_true, if_false, ite_true, ite_false, not_false_eq_true, not_true_eq_false, Bool.false_eq_true, ite_not, b_add, b_addT, b_addL, b_sub, b_subB, b_mul, b_mulT, b_mulL, b_fdiv, b_mod, b_pow, a_add, a_sub, a_mul, a_fdiv, c_lt, c_le, c_gt, c_ge, c_eqI, c_neI, c_eqB, c_neB, seqP, pysD, Option.map_some, List.replicate_zero, List.replicate_succ, Nat.zero_add, Nat.add_zero, Nat.reduceAdd, Nat.reduceSub, Nat.reduceLeDiff, decide_eq_true_eq, Bool.not_eq_true', decide_eq_false_iff_not, Nat.sub_self, Option.some.injEq, exists_eq_left', exists_eq_left, x_pick, f_pr, f_qd, f_prT, f_qdT, x_pr0, x_pr1, x_qd0, x_qd1, x_qd2, x_qd3, g_pr, g_qd, l_pr, l_qd, l_prs, l_ti, l_li, c_eq_pr, c_ne_pr, c_eq_qd, c_ne_qd, i_pr, i_qd, i_prs, i_ti, i_li, true_and, and_true, sl0, sl1, sl2, sl3, sl4, sl5, sl6, sl7, sl8, sl9, sl10, sl11, sl12, sl13, sl14, mketa, wipe1, shE_cons, shE_nil, shS_sh, shS_ow, shS_none, eq_self, and_self, decide_true, decide_false, reduceCtorEq, false_and, and_false, true_implies, false_implies, implies_true, not_true_eq_false, Bool.not_true, Bool.not_false, Bool.true_and, Bool.false_and, Bool.and_true, Bool.and_false, Bool.or_true, Bool.true_or, Bool.or_false, Bool.false_or, Int.reduceLT, Int.reduceLE, Nat.reduceLT, x_ru0, x_ru1, c_ev, c_pa, g_ti, k_ti1, wipe2, h_check_year, h_counted, p_check_year, p_counted, b_is_leap, n_is_leap]
  refine ⟨hs, fun hg => ?_, fun hg => he fun z => hg ⟨z.1, by have := z.2; unfold inY at *; omega⟩⟩
  have hy := hg.2
  have hzz := inY_z (by decide) hy
  split
  · rename_i h0
    exact he fun z => by have := z.2.1; omega
  · rename_i h0
    refine ⟨hg.1, hzz.1, hg.1, hzz.2, ?_⟩
    rw [← (goodR_cnt hg.1).1.leap_iff]
    exact hq ⟨hg.1, by unfold inY at *; omega⟩
theorem s_count_leaps {Φ : PhiT} (h_check_year : Φ 137 = C_check_year) (h_counted : Φ 138 = C_counted) (ds : List D) (Q : D → Prop) (E : Nat → Prop) (h : C_count_leaps ds Q E) : ds.length = 2 ∧ wpS Φ exName b_count_leaps (initE n_count_leaps ds) (endF Q E) := by
  obtain ⟨r, y, rfl, hs, hq, he⟩ := h
  refine ⟨rfl, ?_⟩
  simp only [wpS, wp, getV, getB, initE, endF, bindG, List.map_cons, List.map_nil, List.length_cons, List.length_nil, List.cons_append, List.nil_append, List.append_nil, List.getElem?_cons_zero, List.getElem?_cons_succ, List.set_cons_zero, List.set_cons_succ, partD, k_L, k_T, l_lenT, l_lenL, l_int, l_intB, l_abs, l_max2, l_max3, l_max4, l_min2, l_maxL, l_minL, l_sum, l_all, l_any, l_tupL, l_tupT, l_lisL, l_lisT, r_1, r_2, r_l, i_L, i_T, i_A, if_true, if_false, ite_true, ite_false, not_false_eq_true, not_true_eq_false, Bool.false_eq_true, ite_not, b_add, b_addT, b_addL, b_sub, b_subB, b_mul, b_mulT, b_mulL, b_fdiv, b_mod, b_pow, a_add, a_sub, a_mul, a_fdiv, c_lt, c_le, c_gt, c_ge, c_eqI, c_neI, c_eqB, c_neB, seqP, pysD, Option.map_some, List.replicate_zero, List.replicate_succ, Nat.zero_add, Nat.add_zero, Nat.reduceAdd, Nat.reduceSub, Nat.reduceLeDiff, decide_eq_true_eq, Bool.not_eq_true', decide_eq_false_iff_not, Nat.sub_self, Option.some.injEq, exists_eq_left', exists_eq_left, x_pick, f_pr, f_qd, f_prT, f_qdT, x_pr0, x_pr1, x_qd0, x_qd1, x_qd2, x_qd3, g_pr, g_qd, l_pr, l_qd, l_prs, l_ti, l_li, c_eq_pr, c_ne_pr, c_eq_qd, c_ne_qd, i_pr, i_qd, i_prs, i_ti, i_li, true_and, and_true, sl0, sl1, sl2, sl3, sl4, sl5, sl6, sl7, sl8, sl9, sl10, sl11, sl12, sl13, sl14, mketa, wipe1, shE_cons, shE_nil, shS_sh, shS_ow, shS_none, eq_self, and_self, decide_true, decide_false, reduceCtorEq, false_and, and_false, true_implies, false_implies, implies_true, not_true_eq_false, Bool.not_true, Bool.not_false, Bool.true_and, Bool.false_and, Bool.and_true, Bool.and_false, Bool.or_true, Bool.true_or, Bool.or_false, Bool.false_or, Int.reduceLT, Int.reduceLE, Nat.reduceLT, x_ru0, x_ru1, c_ev, c_pa, g_ti, k_ti1, wipe2, h_check_year, h_counted, p_check_year, p_counted, b_count_leaps, n_count_leaps]
  exact ⟨hs, fun hg => ⟨hg.1, (inY_z (by decide) hg.2).1, hq hg⟩, he⟩
theorem per_z {r : Ru} (hg : goodR r) : 1 ≤ per r ∧ per r ≤ 4000 := ⟨(goodR_cnt hg).1.p1, (goodR_cnt hg).2⟩
theorem s_mean {Φ : PhiT} (h_check_rule : Φ 136 = C_check_rule) (h_fraction : Φ 12 = C_fraction) (h_period : Φ 141 = C_period) (h_counted : Φ 138 = C_counted) (ds : List D) (Q : D → Prop) (E : Nat → Prop) (h : C_mean ds Q E) : ds.length = 1 ∧ wpS Φ exName b_mean (initE n_mean ds) (endF Q E) := by
  obtain ⟨r, rfl, hs, hq, he⟩ := h
  refine ⟨rfl, ?_⟩
  simp only [wpS, wp, getV, getB, initE, endF, bindG, List.map_cons, List.map_nil, List.length_cons, List.length_nil, List.cons_append, List.nil_append, List.append_nil, List.getElem?_cons_zero, List.getElem?_cons_succ, List.set_cons_zero, List.set_cons_succ, partD, k_L, k_T, l_lenT, l_lenL, l_int, l_intB, l_abs, l_max2, l_max3, l_max4, l_min2, l_maxL, l_minL, l_sum, l_all, l_any, l_tupL, l_tupT, l_lisL, l_lisT, r_1, r_2, r_l, i_L, i_T, i_A, if_true, if_false, ite_true, ite_false, not_false_eq_true, not_true_eq_false, Bool.false_eq_true, ite_not, b_add, b_addT, b_addL, b_sub, b_subB, b_mul, b_mulT, b_mulL, b_fdiv, b_mod, b_pow, a_add, a_sub, a_mul, a_fdiv, c_lt, c_le, c_gt, c_ge, c_eqI, c_neI, c_eqB, c_neB, seqP, pysD, Option.map_some, List.replicate_zero, List.replicate_succ, Nat.zero_add, Nat.add_zero, Nat.reduceAdd, Nat.reduceSub, Nat.reduceLeDiff, decide_eq_true_eq, Bool.not_eq_true', decide_eq_false_iff_not, Nat.sub_self, Option.some.injEq, exists_eq_left', exists_eq_left, x_pick, f_pr, f_qd, f_prT, f_qdT, x_pr0, x_pr1, x_qd0, x_qd1, x_qd2, x_qd3, g_pr, g_qd, l_pr, l_qd, l_prs, l_ti, l_li, c_eq_pr, c_ne_pr, c_eq_qd, c_ne_qd, i_pr, i_qd, i_prs, i_ti, i_li, true_and, and_true, sl0, sl1, sl2, sl3, sl4, sl5, sl6, sl7, sl8, sl9, sl10, sl11, sl12, sl13, sl14, mketa, wipe1, shE_cons, shE_nil, shS_sh, shS_ow, shS_none, eq_self, and_self, decide_true, decide_false, reduceCtorEq, false_and, and_false, true_implies, false_implies, implies_true, not_true_eq_false, Bool.not_true, Bool.not_false, Bool.true_and, Bool.false_and, Bool.and_true, Bool.and_false, Bool.or_true, Bool.true_or, Bool.or_false, Bool.false_or, Int.reduceLT, Int.reduceLE, Nat.reduceLT, x_ru0, x_ru1, c_ev, c_pa, g_ti, k_ti1, wipe2, h_check_rule, h_fraction, h_period, h_counted, p_check_rule, p_fraction, p_period, p_counted, b_mean, n_mean]
  refine ⟨hs, fun hg => ?_, he⟩
  have hp := per_z hg
  have zp : Z 80 (per r) := (Z.at64 (by omega)).mono (by decide)
  have c0 : cnt r 0 = 0 := (goodR_cnt hg).1.z
  refine ⟨hg, hg, zp, hg, by decide, hg, zp.big (by decide), fun z => by omega, fun _ => ?_⟩
  rw [c0, Int.sub_zero]
  exact hq hg
theorem s_spread {Φ : PhiT} (h_check_rule : Φ 136 = C_check_rule) (h_period : Φ 141 = C_period) (h_counted : Φ 138 = C_counted) (ds : List D) (Q : D → Prop) (E : Nat → Prop) (h : C_spread ds Q E) : ds.length = 1 ∧ wpS Φ exName b_spread (initE n_spread ds) (endF Q E) := by
  obtain ⟨r, rfl, hs, hq, he⟩ := h
  refine ⟨rfl, ?_⟩
  simp only [wpS, wp, getV, getB, initE, endF, bindG, List.map_cons, List.map_nil, List.length_cons, List.length_nil, List.cons_append, List.nil_append, List.append_nil, List.getElem?_cons_zero, List.getElem?_cons_succ, List.set_cons_zero, List.set_cons_succ, partD, k_L, k_T, l_lenT, l_lenL, l_int, l_intB, l_abs, l_max2, l_max3, l_max4, l_min2, l_maxL, l_minL, l_sum, l_all, l_any, l_tupL, l_tupT, l_lisL, l_lisT, r_1, r_2, r_l, i_L, i_T, i_A, if_true, if_false, ite_true, ite_false, not_false_eq_true, not_true_eq_false, Bool.false_eq_true, ite_not, b_add, b_addT, b_addL, b_sub, b_subB, b_mul, b_mulT, b_mulL, b_fdiv, b_mod, b_pow, a_add, a_sub, a_mul, a_fdiv, c_lt, c_le, c_gt, c_ge, c_eqI, c_neI, c_eqB, c_neB, seqP, pysD, Option.map_some, List.replicate_zero, List.replicate_succ, Nat.zero_add, Nat.add_zero, Nat.reduceAdd, Nat.reduceSub, Nat.reduceLeDiff, decide_eq_true_eq, Bool.not_eq_true', decide_eq_false_iff_not, Nat.sub_self, Option.some.injEq, exists_eq_left', exists_eq_left, x_pick, f_pr, f_qd, f_prT, f_qdT, x_pr0, x_pr1, x_qd0, x_qd1, x_qd2, x_qd3, g_pr, g_qd, l_pr, l_qd, l_prs, l_ti, l_li, c_eq_pr, c_ne_pr, c_eq_qd, c_ne_qd, i_pr, i_qd, i_prs, i_ti, i_li, true_and, and_true, sl0, sl1, sl2, sl3, sl4, sl5, sl6, sl7, sl8, sl9, sl10, sl11, sl12, sl13, sl14, mketa, wipe1, shE_cons, shE_nil, shS_sh, shS_ow, shS_none, eq_self, and_self, decide_true, decide_false, reduceCtorEq, false_and, and_false, true_implies, false_implies, implies_true, not_true_eq_false, Bool.not_true, Bool.not_false, Bool.true_and, Bool.false_and, Bool.and_true, Bool.and_false, Bool.or_true, Bool.true_or, Bool.or_false, Bool.false_or, Int.reduceLT, Int.reduceLE, Nat.reduceLT, x_ru0, x_ru1, c_ev, c_pa, g_ti, k_ti1, wipe2, h_check_rule, h_period, h_counted, p_check_rule, p_period, p_counted, b_spread, n_spread]
  refine ⟨hs, fun hg => ?_, he⟩
  have hp := per_z hg
  have hC := (goodR_cnt hg).1
  have c0 : cnt r 0 = 0 := hC.z
  have hq := hq hg
  have zp : Z 64 (per r) := Z.at64 (by omega)
  refine ⟨hg, cmz (n := 64) (by decide) zp (by decide) (by decide), by omega, ?_⟩
  rw [rng_yrs (by omega)]
  have ep : ((per r).toNat : Int) = per r := by omega
  have hC' : Cnt (cnt r) (leapL r) ((per r).toNat : Int) := by rw [ep]; exact hC
  have len := hC.len_ly (2 * (per r).toNat)
  have len2 : ((2 * (per r).toNat : Nat) : Int) = per r + per r := by omega
  rw [len2, hC.pe] at len
  have tw := two_leaps hC'
  generalize hn : 2 * (per r).toNat = n at *
  refine compW_filter (p := leapL r) (g := PyData.int) ?_ (fun x hx K' h1 h2 => ?_) ?_
  · show (List.map _ (List.range n)).length ≤ _
    rw [List.length_map, List.length_range, sl]
    omega
  · have hx := mem_yrs.mp hx
    have zx : Z 80 x := (Z.at64 (by omega)).mono (by decide)
    have zx1 : Z 80 (x - 1) := (Z.at64 (by omega)).mono (by decide)
    simp only [wpS, wp, getV, getB, initE, endF, bindG, List.map_cons, List.map_nil, List.length_cons, List.length_nil, List.cons_append, List.nil_append, List.append_nil, List.getElem?_cons_zero, List.getElem?_cons_succ, List.set_cons_zero, List.set_cons_succ, partD, k_L, k_T, l_lenT, l_lenL, l_int, l_intB, l_abs, l_max2, l_max3, l_max4, l_min2, l_maxL, l_minL, l_sum, l_all, l_any, l_tupL, l_tupT, l_lisL, l_lisT, r_1, r_2, r_l, i_L, i_T, i_A, if_true, if_false, ite_true, ite_false, not_false_eq_true, not_true_eq_false, Bool.false_eq_true, ite_not, b_add, b_addT, b_addL, b_sub, b_subB, b_mul, b_mulT, b_mulL, b_fdiv, b_mod, b_pow, a_add, a_sub, a_mul, a_fdiv, c_lt, c_le, c_gt, c_ge, c_eqI, c_neI, c_eqB, c_neB, seqP, pysD, Option.map_some, List.replicate_zero, List.replicate_succ, Nat.zero_add, Nat.add_zero, Nat.reduceAdd, Nat.reduceSub, Nat.reduceLeDiff, decide_eq_true_eq, Bool.not_eq_true', decide_eq_false_iff_not, Nat.sub_self, Option.some.injEq, exists_eq_left', exists_eq_left, x_pick, f_pr, f_qd, f_prT, f_qdT, x_pr0, x_pr1, x_qd0, x_qd1, x_qd2, x_qd3, g_pr, g_qd, l_pr, l_qd, l_prs, l_ti, l_li, c_eq_pr, c_ne_pr, c_eq_qd, c_ne_qd, i_pr, i_qd, i_prs, i_ti, i_li, true_and, and_true, sl0, sl1, sl2, sl3, sl4, sl5, sl6, sl7, sl8, sl9, sl10, sl11, sl12, sl13, sl14, mketa, wipe1, shE_cons, shE_nil, shS_sh, shS_ow, shS_none, eq_self, and_self, decide_true, decide_false, reduceCtorEq, false_and, and_false, true_implies, false_implies, implies_true, not_true_eq_false, Bool.not_true, Bool.not_false, Bool.true_and, Bool.false_and, Bool.and_true, Bool.and_false, Bool.or_true, Bool.true_or, Bool.or_false, Bool.false_or, Int.reduceLT, Int.reduceLE, Nat.reduceLT, x_ru0, x_ru1, c_ev, c_pa, g_ti, k_ti1, wipe2, h_check_rule, h_period, h_counted, p_check_rule, p_period, p_counted]
    refine ⟨hg, zx, hg, zx1, ?_⟩
    have e := hC.leap_iff x
    split
    · rename_i h
      rw [decide_eq_true h] at e
      exact h1 e
    · rename_i h
      rw [decide_eq_false h] at e
      exact h2 e
  · show compW _ _ _ _
    rw [cut1, ← List.map_drop, zip_int]
    show compW _ (((ly (leapL r) n).zip ((ly (leapL r) n).drop 1)).map _) _ _
    have hl : (ly (leapL r) n).length ≤ n := by
      unfold ly
      refine Nat.le_trans (List.length_filter_le _ _) ?_
      unfold yrs
      rw [List.length_map, List.length_range]
      exact Nat.le_refl _
    refine compW_map (g := fun x => PyData.int (x.2 - x.1)) ?_ (fun x hx K' hK => ?_) ?_
    · rw [List.length_zip, sl]
      omega
    · simp only [wpS, wp, getV, getB, initE, endF, bindG, List.map_cons, List.map_nil, List.length_cons, List.length_nil, List.cons_append, List.nil_append, List.append_nil, List.getElem?_cons_zero, List.getElem?_cons_succ, List.set_cons_zero, List.set_cons_succ, partD, k_L, k_T, l_lenT, l_lenL, l_int, l_intB, l_abs, l_max2, l_max3, l_max4, l_min2, l_maxL, l_minL, l_sum, l_all, l_any, l_tupL, l_tupT, l_lisL, l_lisT, r_1, r_2, r_l, i_L, i_T, i_A, if_true, if_false, ite_true, ite_false, not_false_eq_true, not_true_eq_false, Bool.false_eq_true, ite_not, b_add, b_addT, b_addL, b_sub, b_subB, b_mul, b_mulT, b_mulL, b_fdiv, b_mod, b_pow, a_add, a_sub, a_mul, a_fdiv, c_lt, c_le, c_gt, c_ge, c_eqI, c_neI, c_eqB, c_neB, seqP, pysD, Option.map_some, List.replicate_zero, List.replicate_succ, Nat.zero_add, Nat.add_zero, Nat.reduceAdd, Nat.reduceSub, Nat.reduceLeDiff, decide_eq_true_eq, Bool.not_eq_true', decide_eq_false_iff_not, Nat.sub_self, Option.some.injEq, exists_eq_left', exists_eq_left, x_pick, f_pr, f_qd, f_prT, f_qdT, x_pr0, x_pr1, x_qd0, x_qd1, x_qd2, x_qd3, g_pr, g_qd, l_pr, l_qd, l_prs, l_ti, l_li, c_eq_pr, c_ne_pr, c_eq_qd, c_ne_qd, i_pr, i_qd, i_prs, i_ti, i_li, true_and, and_true, sl0, sl1, sl2, sl3, sl4, sl5, sl6, sl7, sl8, sl9, sl10, sl11, sl12, sl13, sl14, mketa, wipe1, shE_cons, shE_nil, shS_sh, shS_ow, shS_none, eq_self, and_self, decide_true, decide_false, reduceCtorEq, false_and, and_false, true_implies, false_implies, implies_true, not_true_eq_false, Bool.not_true, Bool.not_false, Bool.true_and, Bool.false_and, Bool.and_true, Bool.and_false, Bool.or_true, Bool.true_or, Bool.or_false, Bool.false_or, Int.reduceLT, Int.reduceLE, Nat.reduceLT, x_ru0, x_ru1, c_ev, c_pa, g_ti, k_ti1, wipe2, h_check_rule, h_period, h_counted, p_check_rule, p_period, p_counted]
      exact hK
    · have eg : ((ly (leapL r) n).zip ((ly (leapL r) n).drop 1)).map (fun x => PyData.int (x.2 - x.1)) = (gapsL (ly (leapL r) n)).map PyData.int := by
        unfold gapsL
        rw [List.map_map]
        rfl
      rw [eg]
      show (if ((List.map PyData.int (ly (leapL r) n)).length : Int) = 0 then _ else _)
      rw [List.length_map]
      split
      · rename_i h
        exact hq.1 (by omega)
      · rename_i h
        have hq := hq.2 (by omega)
        have gl := gapsL_len (ly (leapL r) n)
        refine ⟨_, l_int', by omega, fun a ha ha2 => ⟨_, l_int', by omega, fun b hb hb2 => hq a b ⟨ha, ha2⟩ ⟨hb, hb2⟩⟩⟩
theorem s_leap_at {Φ : PhiT} (h_check_rule : Φ 136 = C_check_rule) (h_counted : Φ 138 = C_counted) (h_period : Φ 141 = C_period) (ds : List D) (Q : D → Prop) (E : Nat → Prop) (h : C_leap_at ds Q E) : ds.length = 2 ∧ wpS Φ exName b_leap_at (initE n_leap_at ds) (endF Q E) := by
  obtain ⟨r, k, rfl, hs, he, hq⟩ := h
  refine ⟨rfl, ?_⟩
  simp only [wpS, wp, getV, getB, initE, endF, bindG, List.map_cons, List.map_nil, List.length_cons, List.length_nil, List.cons_append, List.nil_append, List.append_nil, List.getElem?_cons_zero, List.getElem?_cons_succ, List.set_cons_zero, List.set_cons_succ, partD, k_L, k_T, l_lenT, l_lenL, l_int, l_intB, l_abs, l_max2, l_max3, l_max4, l_min2, l_maxL, l_minL, l_sum, l_all, l_any, l_tupL, l_tupT, l_lisL, l_lisT, r_1, r_2, r_l, i_L, i_T, i_A, if_true, if_false, ite_true, ite_false, not_false_eq_true, not_true_eq_false, Bool.false_eq_true, ite_not, b_add, b_addT, b_addL, b_sub, b_subB, b_mul, b_mulT, b_mulL, b_fdiv, b_mod, b_pow, a_add, a_sub, a_mul, a_fdiv, c_lt, c_le, c_gt, c_ge, c_eqI, c_neI, c_eqB, c_neB, seqP, pysD, Option.map_some, List.replicate_zero, List.replicate_succ, Nat.zero_add, Nat.add_zero, Nat.reduceAdd, Nat.reduceSub, Nat.reduceLeDiff, decide_eq_true_eq, Bool.not_eq_true', decide_eq_false_iff_not, Nat.sub_self, Option.some.injEq, exists_eq_left', exists_eq_left, x_pick, f_pr, f_qd, f_prT, f_qdT, x_pr0, x_pr1, x_qd0, x_qd1, x_qd2, x_qd3, g_pr, g_qd, l_pr, l_qd, l_prs, l_ti, l_li, c_eq_pr, c_ne_pr, c_eq_qd, c_ne_qd, i_pr, i_qd, i_prs, i_ti, i_li, true_and, and_true, sl0, sl1, sl2, sl3, sl4, sl5, sl6, sl7, sl8, sl9, sl10, sl11, sl12, sl13, sl14, mketa, wipe1, shE_cons, shE_nil, shS_sh, shS_ow, shS_none, eq_self, and_self, decide_true, decide_false, reduceCtorEq, false_and, and_false, true_implies, false_implies, implies_true, not_true_eq_false, Bool.not_true, Bool.not_false, Bool.true_and, Bool.false_and, Bool.and_true, Bool.and_false, Bool.or_true, Bool.true_or, Bool.or_false, Bool.false_or, Int.reduceLT, Int.reduceLE, Nat.reduceLT, x_ru0, x_ru1, c_ev, c_pa, g_ti, k_ti1, wipe2, h_check_rule, h_counted, h_period, p_check_rule, p_counted, p_period, b_leap_at, n_leap_at]
  refine ⟨hs, fun hg => ?_, fun hg => he fun z => hg z.1⟩
  split
  · rename_i k1
    split
    · rename_i k2
      have hp := per_z hg
      have hC := (goodR_cnt hg).1
      have c0 : cnt r 0 = 0 := hC.z
      have zp : Z 80 (per r) := (Z.at64 (by omega)).mono (by decide)
      have hq := hq ⟨hg, k1, k2⟩
      refine ⟨hg, hg, zp, hg, by decide, ?_⟩
      rw [c0, Int.sub_zero]
      split
      · rename_i h
        exact hq.1 h
      · rename_i h
        have hq2 := hq.2 h
        clear hq
        have m0 := hC.mono (a := 0) (b := per r) (by omega)
        rw [c0] at m0
        generalize hm : cnt r (per r) = m at *
        have hm1 : 1 ≤ m := by omega
        have d1 : (k - 1).fdiv m = (k - 1) / m := Int.fdiv_eq_ediv_of_nonneg _ (by omega)
        have d2 := Int.mul_ediv_add_emod (k - 1) m
        have d3 := Int.emod_nonneg (k - 1) (show m ≠ 0 by omega)
        have d4 := Int.emod_lt_of_pos (k - 1) (show 0 < m by omega)
        have d5 : 0 ≤ (k - 1) / m := Int.ediv_nonneg (by omega) (by omega)
        have d6 : (k - 1) / m ≤ k - 1 := Int.ediv_le_self _ (by omega)
        rw [d1]
        generalize (k - 1) / m = q at *
        have zq : Z 64 q := Z.at64 (by omega)
        have zm : Z 64 m := Z.at64 (by omega)
        refine ⟨⟨by omega, lgz zm (by decide)⟩, cmz zq zm (by decide) (by decide), hg, by decide, ?_⟩
        rw [Int.add_zero]
        obtain ⟨rest, hrest⟩ : ∃ rest, rest = k - q * m := ⟨_, rfl⟩
        have er : rest = (k - 1) % m + 1 := by rw [hrest, Int.mul_comm]; omega
        have er1 : 1 ≤ rest ∧ rest ≤ m := by omega
        rw [← hrest]
        refine while_rule (fun v ρ => ∃ y : Int, ρ = [some (.sh (.py (ru r))), some (.sh (.I k)), some (.sh (.I m)), some (.sh (.I q)), some (.sh (.I rest)), some (.sh (.I y))] ∧ 1 ≤ y ∧ y ≤ per r ∧ cnt r (y - 1) < rest ∧ v = (per r - y).toNat) (per r - 1).toNat ⟨1, rfl, by omega, by omega, by rw [Int.sub_self, c0]; omega, by omega⟩ ?_
        rintro v ρ K ⟨y, rfl, y1, y2, y3, rfl⟩ hK
        have zy : Z 80 y := (Z.at64 (by omega)).mono (by decide)
        simp only [wpS, wp, getV, getB, initE, endF, bindG, List.map_cons, List.map_nil, List.length_cons, List.length_nil, List.cons_append, List.nil_append, List.append_nil, List.getElem?_cons_zero, List.getElem?_cons_succ, List.set_cons_zero, List.set_cons_succ, partD, k_L, k_T, l_lenT, l_lenL, l_int, l_intB, l_abs, l_max2, l_max3, l_max4, l_min2, l_maxL, l_minL, l_sum, l_all, l_any, l_tupL, l_tupT, l_lisL, l_lisT, r_1, r_2, r_l, i_L, i_T, i_A, if_true, if_false, ite_true, ite_false, not_false_eq_true, not_true_eq_false, Bool.false_eq_true, ite_not, b_add, b_addT, b_addL, b_sub, b_subB, b_mul, b_mulT, b_mulL, b_fdiv, b_mod, b_pow, a_add, a_sub, a_mul, a_fdiv, c_lt, c_le, c_gt, c_ge, c_eqI, c_neI, c_eqB, c_neB, seqP, pysD, Option.map_some, List.replicate_zero, List.replicate_succ, Nat.zero_add, Nat.add_zero, Nat.reduceAdd, Nat.reduceSub, Nat.reduceLeDiff, decide_eq_true_eq, Bool.not_eq_true', decide_eq_false_iff_not, Nat.sub_self, Option.some.injEq, exists_eq_left', exists_eq_left, x_pick, f_pr, f_qd, f_prT, f_qdT, x_pr0, x_pr1, x_qd0, x_qd1, x_qd2, x_qd3, g_pr, g_qd, l_pr, l_qd, l_prs, l_ti, l_li, c_eq_pr, c_ne_pr, c_eq_qd, c_ne_qd, i_pr, i_qd, i_prs, i_ti, i_li, true_and, and_true, sl0, sl1, sl2, sl3, sl4, sl5, sl6, sl7, sl8, sl9, sl10, sl11, sl12, sl13, sl14, mketa, wipe1, shE_cons, shE_nil, shS_sh, shS_ow, shS_none, eq_self, and_self, decide_true, decide_false, reduceCtorEq, false_and, and_false, true_implies, false_implies, implies_true, not_true_eq_false, Bool.not_true, Bool.not_false, Bool.true_and, Bool.false_and, Bool.and_true, Bool.and_false, Bool.or_true, Bool.true_or, Bool.or_false, Bool.false_or, Int.reduceLT, Int.reduceLE, Nat.reduceLT, x_ru0, x_ru1, c_ev, c_pa, g_ti, k_ti1, wipe2, h_check_rule, h_counted, h_period, p_check_rule, p_counted, p_period]
        refine ⟨hg, zy, ?_⟩
        split
        · rename_i h2
          have : y ≠ per r := fun z => by rw [z, hm] at h2; omega
          exact hK _ _ (by omega) ⟨_, rfl, by omega, by omega, by rw [Int.add_sub_cancel]; exact h2, rfl⟩
        · rename_i h2
          refine ⟨hg, cmz zq zp (by decide) (by decide), ?_⟩
          have f1 := hC.first (k := rest) (by omega) y y1 y3 (by omega)
          have n0 : 0 ≤ q * per r := Int.mul_nonneg d5 (by omega)
          refine hq2 _ (by omega) ?_ ?_ ?_
          · exact Z.mono (Z.add (n := 64) (m := 76) (Z.at64 (by omega)) (Z.mono (Z.mul zq (show Z 12 (per r) by unfold Z; omega)) (by decide))) (by decide)
          · rw [hC.roundsI y q d5, f1.1, hm]
            omega
          · rw [hC.leap_r y q d5]
            exact f1.2
    · rename_i h; exact he fun z => h z.2.2
  · rename_i h; exact he fun z => h z.2.1
end Y

/-! part SP0 -/
set_option Elab.async false
set_option linter.all false
set_option maxHeartbeats 1000000
/-! SP0: columns of pixels and lines, plain. -/
namespace Y
def cl (l : List Int) (i : Int) : Int := l.getD i.toNat 0
def Rf (l : List Int) (s a b : Int) : Prop := 1 ≤ s ∧ 0 ≤ a ∧ 0 ≤ b ∧ a + s < l.length ∧ b + s < l.length ∧ cl l (a + s) - cl l a + 2 ≤ cl l (b + s) - cl l b
instance {l : List Int} {s a b : Int} : Decidable (Rf l s a b) := inferInstanceAs (Decidable (_ ∧ _ ∧ _ ∧ _ ∧ _ ∧ _))
def bal (l : List Int) : Prop := ∀ s a b, ¬ Rf l s a b
def In (l : List Int) (i j : Int) : Prop := 0 ≤ i ∧ i < j ∧ j < l.length
theorem bal_win {l : List Int} (h : bal l) : ∀ (n : Nat) (i p k q : Int), p + q ≤ n → 1 ≤ p → 1 ≤ q → 0 ≤ i → i + p < l.length → 0 ≤ k → k + q < l.length → (cl l (i + p) - cl l i - 1) * q < (cl l (k + q) - cl l k + 1) * p := by
  intro n
  induction n with
  | zero => intro i p k q h1 h2 h3; omega
  | succ n ih =>
    intro i p k q h1 hp hq hi hi2 hk hk2
    rcases Int.lt_trichotomy p q with z | z | z
    · -- the second is longer
      have g := h p k i
      have g : cl l (i + p) - cl l i < cl l (k + p) - cl l k + 2 := by
        rcases Int.lt_or_le (cl l (i + p) - cl l i) (cl l (k + p) - cl l k + 2) with y | y
        · exact y
        · exact absurd ⟨hp, hk, hi, by omega, hi2, y⟩ g
      have e := ih i p (k + p) (q - p) (by omega) hp (by omega) hi hi2 (by omega) (by omega)
      rw [show k + p + (q - p) = k + q by omega] at e
      generalize cl l (i + p) - cl l i = r1 at *
      generalize cl l (k + p) = x at *
      generalize cl l (k + q) = y at *
      generalize cl l k = w at *
      have a1 : (r1 - 1) * p ≤ (x - w) * p := Int.mul_le_mul_of_nonneg_right (by omega) (by omega)
      have e1 : (r1 - 1) * q = (r1 - 1) * p + (r1 - 1) * (q - p) := by grind
      have e2 : (y - w + 1) * p = (x - w) * p + (y - x + 1) * p := by grind
      omega
    · subst z
      have g := h p k i
      have g : cl l (i + p) - cl l i < cl l (k + p) - cl l k + 2 := by
        rcases Int.lt_or_le (cl l (i + p) - cl l i) (cl l (k + p) - cl l k + 2) with y | y
        · exact y
        · exact absurd ⟨hp, hk, hi, hk2, hi2, y⟩ g
      exact Int.mul_lt_mul_of_pos_right (by omega) (by omega)
    · have g := h q k i
      have g : cl l (i + q) - cl l i < cl l (k + q) - cl l k + 2 := by
        rcases Int.lt_or_le (cl l (i + q) - cl l i) (cl l (k + q) - cl l k + 2) with y | y
        · exact y
        · exact absurd ⟨hq, hk, hi, hk2, by omega, y⟩ g
      have e := ih (i + q) (p - q) k q (by omega) (by omega) hq (by omega) (by omega) hk hk2
      rw [show i + q + (p - q) = i + p by omega] at e
      generalize cl l (k + q) - cl l k = r2 at *
      generalize cl l (i + q) = x at *
      generalize cl l (i + p) = y at *
      generalize cl l i = w at *
      have a1 : (x - w) * q ≤ (r2 + 1) * q := Int.mul_le_mul_of_nonneg_right (by omega) (by omega)
      have e1 : (y - w - 1) * q = (x - w) * q + (y - x - 1) * q := by grind
      have e2 : (r2 + 1) * p = (r2 + 1) * q + (r2 + 1) * (p - q) := by grind
      omega
theorem bal_cross {l : List Int} (h : bal l) {i j k m : Int} (a : In l i j) (b : In l k m) : (cl l j - cl l i - 1) * (m - k) < (cl l m - cl l k + 1) * (j - i) := by
  obtain ⟨a1, a2, a3⟩ := a
  obtain ⟨b1, b2, b3⟩ := b
  have e := bal_win h ((j - i) + (m - k)).toNat i (j - i) k (m - k) (by omega) (by omega) (by omega) a1 (by omega) b1 (by omega)
  rw [show i + (j - i) = j by omega, show k + (m - k) = m by omega] at e
  exact e
theorem okF_parts {f : Int × Int} (h : okF f = true) : 1 ≤ f.2 ∧ Int.gcd f.1 f.2 = 1 := by
  unfold okF at h
  rw [Bool.and_eq_true] at h
  exact ⟨of_decide_eq_true h.1, of_decide_eq_true h.2⟩
theorem okF_of {f : Int × Int} (h1 : 1 ≤ f.2) (h2 : Int.gcd f.1 f.2 = 1) : okF f = true := by
  unfold okF
  rw [decide_eq_true h1, decide_eq_true h2]; rfl
theorem dvd_cop {k m n : Int} (h : Int.gcd m k = 1) (d : k ∣ m * n) : k ∣ n := by
  rw [← Int.natAbs_dvd_natAbs] at d ⊢
  rw [Int.natAbs_mul] at d
  have c : Nat.Coprime k.natAbs m.natAbs := by
    show Nat.gcd k.natAbs m.natAbs = 1
    rw [Nat.gcd_comm]
    exact h
  exact Nat.Coprime.dvd_of_dvd_mul_left c d
theorem red_eq {f g : Int × Int} (hf : okF f = true) (hg : okF g = true) (e : f.1 * g.2 = g.1 * f.2) : f = g := by
  obtain ⟨f1, cf⟩ := okF_parts hf
  obtain ⟨g1, cg⟩ := okF_parts hg
  have d1 : f.2 ∣ g.2 := dvd_cop cf ⟨g.1, by rw [e, Int.mul_comm]⟩
  have d2 : g.2 ∣ f.2 := dvd_cop cg ⟨f.1, by rw [← e, Int.mul_comm]⟩
  have h1 := Int.le_of_dvd (by omega) d1
  have h2 := Int.le_of_dvd (by omega) d2
  have eq2 : f.2 = g.2 := by omega
  have eq1 : f.1 = g.1 := by
    rw [eq2] at e
    exact Int.eq_of_mul_eq_mul_right (by omega) e
  exact Prod.ext eq1 eq2
/-- the greatest of some fractions v i / w i; the least -/
def Mx (P : α → Prop) (v w : α → Int) (f : Int × Int) : Prop := okF f = true ∧ (∃ x, P x ∧ f.1 * w x = v x * f.2) ∧ ∀ x, P x → v x * f.2 ≤ f.1 * w x
def Mn (P : α → Prop) (v w : α → Int) (f : Int × Int) : Prop := okF f = true ∧ (∃ x, P x ∧ f.1 * w x = v x * f.2) ∧ ∀ x, P x → f.1 * w x ≤ v x * f.2
theorem cross_le {f1 f2 g1 g2 v w : Int} (hw : 0 < w) (hf : 0 < f2) (hg : 0 < g2) (e : f1 * w = v * f2) (h : v * g2 ≤ g1 * w) : f1 * g2 ≤ g1 * f2 := by
  have h1 : (f1 * g2) * w ≤ (g1 * f2) * w := by
    have a : (f1 * g2) * w = (v * g2) * f2 := by
      have : (f1 * g2) * w = (f1 * w) * g2 := by grind
      rw [this, e]; grind
    have b : (v * g2) * f2 ≤ (g1 * w) * f2 := Int.mul_le_mul_of_nonneg_right h (by omega)
    have c : (g1 * f2) * w = (g1 * w) * f2 := by grind
    omega
  exact Int.le_of_mul_le_mul_right h1 hw
theorem cross_ge {f1 f2 g1 g2 v w : Int} (hw : 0 < w) (hf : 0 < f2) (hg : 0 < g2) (e : f1 * w = v * f2) (h : g1 * w ≤ v * g2) : g1 * f2 ≤ f1 * g2 := by
  have h1 : (g1 * f2) * w ≤ (f1 * g2) * w := by
    have a : (f1 * g2) * w = (v * g2) * f2 := by
      have : (f1 * g2) * w = (f1 * w) * g2 := by grind
      rw [this, e]; grind
    have b : (g1 * w) * f2 ≤ (v * g2) * f2 := Int.mul_le_mul_of_nonneg_right h (by omega)
    have c : (g1 * f2) * w = (g1 * w) * f2 := by grind
    omega
  exact Int.le_of_mul_le_mul_right h1 hw
theorem Mx.uniq {α : Type} {P : α → Prop} {v w : α → Int} {f g : Int × Int} (hw : ∀ x, P x → 0 < w x) (h : Mx P v w f) (h' : Mx P v w g) : f = g := by
  obtain ⟨f0, ⟨x, hx, ex⟩, hf⟩ := h
  obtain ⟨g0, ⟨y, hy, ey⟩, hg⟩ := h'
  have f1 := (okF_parts f0).1
  have g1 := (okF_parts g0).1
  have a := cross_le (hw x hx) (by omega) (by omega) ex (hg x hx)
  have b := cross_le (hw y hy) (by omega) (by omega) ey (hf y hy)
  exact red_eq f0 g0 (by omega)
theorem Mn.uniq {α : Type} {P : α → Prop} {v w : α → Int} {f g : Int × Int} (hw : ∀ x, P x → 0 < w x) (h : Mn P v w f) (h' : Mn P v w g) : f = g := by
  obtain ⟨f0, ⟨x, hx, ex⟩, hf⟩ := h
  obtain ⟨g0, ⟨y, hy, ey⟩, hg⟩ := h'
  have f1 := (okF_parts f0).1
  have g1 := (okF_parts g0).1
  have a := cross_ge (hw x hx) (by omega) (by omega) ex (hg x hx)
  have b := cross_ge (hw y hy) (by omega) (by omega) ey (hf y hy)
  exact red_eq f0 g0 (by omega)
/-- a reduced fraction's lower number is no greater than any -/
theorem den_le {f : Int × Int} {v w : Int} (hf : okF f = true) (hw : 0 < w) (e : f.1 * w = v * f.2) : f.2 ≤ w :=
  Int.le_of_dvd hw (dvd_cop (okF_parts hf).2 ⟨v, by rw [e, Int.mul_comm]⟩)
def InP (l : List Int) (x : Int × Int) : Prop := In l x.1 x.2
def IsLo (l : List Int) : Int × Int → Prop := Mx (InP l) (fun x => cl l x.2 - cl l x.1 - 1) fun x => x.2 - x.1
def IsHi (l : List Int) : Int × Int → Prop := Mn (InP l) (fun x => cl l x.2 - cl l x.1 + 1) fun x => x.2 - x.1
theorem inP_pos {l : List Int} (x : Int × Int) (h : InP l x) : 0 < x.2 - x.1 := by have := h.2.1; omega
theorem lo_lt_hi {l : List Int} (h : bal l) {lo hi : Int × Int} (a : IsLo l lo) (b : IsHi l hi) : lo.1 * hi.2 < hi.1 * lo.2 := by
  obtain ⟨a0, ⟨x, hx, ex⟩, _⟩ := a
  obtain ⟨b0, ⟨y, hy, ey⟩, _⟩ := b
  have a1 := (okF_parts a0).1
  have b1 := (okF_parts b0).1
  have c := bal_cross h hx hy
  have hp := inP_pos x hx
  have hq := inP_pos y hy
  dsimp only at ex ey
  generalize cl l x.2 - cl l x.1 - 1 = u at *
  generalize cl l y.2 - cl l y.1 + 1 = v at *
  generalize x.2 - x.1 = p at *
  generalize y.2 - y.1 = q at *
  have k : (lo.1 * hi.2) * (p * q) < (hi.1 * lo.2) * (p * q) := by
    have e1 : (lo.1 * hi.2) * (p * q) = (u * q) * (lo.2 * hi.2) := by
      have : (lo.1 * hi.2) * (p * q) = (lo.1 * p) * (hi.2 * q) := by grind
      rw [this, ex]; grind
    have e2 : (hi.1 * lo.2) * (p * q) = (v * p) * (lo.2 * hi.2) := by
      have : (hi.1 * lo.2) * (p * q) = (hi.1 * q) * (lo.2 * p) := by grind
      rw [this, ey]; grind
    rw [e1, e2]
    exact Int.mul_lt_mul_of_pos_right c (Int.mul_pos (by omega) (by omega))
  exact Int.lt_of_mul_lt_mul_right k (Int.le_of_lt (Int.mul_pos hp hq))
theorem not_lt_of {l : List Int} {s a b : Int} (h : Rf l s a b) {lo hi : Int × Int} (hl : IsLo l lo) (hh : IsHi l hi) : hi.1 * lo.2 ≤ lo.1 * hi.2 := by
  obtain ⟨h1, h2, h3, h4, h5, h6⟩ := h
  have g1 := hl.2.2 (b, b + s) ⟨h3, by show b < b + s; omega, h5⟩
  have g2 := hh.2.2 (a, a + s) ⟨h2, by show a < a + s; omega, h4⟩
  have a1 := (okF_parts hl.1).1
  have b1 := (okF_parts hh.1).1
  dsimp only at g1 g2
  rw [show b + s - b = s by omega] at g1
  rw [show a + s - a = s by omega] at g2
  have g3 : (cl l (a + s) - cl l a + 1) * hi.2 ≤ (cl l (b + s) - cl l b - 1) * hi.2 := Int.mul_le_mul_of_nonneg_right (by omega) (by omega)
  generalize cl l (b + s) - cl l b - 1 = u at *
  generalize cl l (a + s) - cl l a + 1 = v at *
  have k : (hi.1 * lo.2) * s ≤ (lo.1 * hi.2) * s := by
    have e1 : (hi.1 * s) * lo.2 ≤ (u * hi.2) * lo.2 := Int.mul_le_mul_of_nonneg_right (by omega) (by omega)
    have e2 : (u * lo.2) * hi.2 ≤ (lo.1 * s) * hi.2 := Int.mul_le_mul_of_nonneg_right g1 (by omega)
    have e3 : (hi.1 * lo.2) * s = (hi.1 * s) * lo.2 := by grind
    have e4 : (lo.1 * hi.2) * s = (lo.1 * s) * hi.2 := by grind
    have e5 : (u * hi.2) * lo.2 = (u * lo.2) * hi.2 := by grind
    omega
  exact Int.le_of_mul_le_mul_right k (by omega)
/-! ### shifts -/
def InK (l : List Int) (k : Int) : Prop := 0 ≤ k ∧ k < l.length
def IsSl (l : List Int) (s : Int × Int) : Int × Int → Prop := Mx (InK l) (fun k => cl l k * s.2 - k * s.1) fun _ => s.2
def IsSh (l : List Int) (s : Int × Int) : Int × Int → Prop := Mn (InK l) (fun k => cl l k * s.2 - k * s.1 + s.2) fun _ => s.2
theorem shift_lt {l : List Int} {lo hi s f g : Int × Int} (hl : IsLo l lo) (hh : IsHi l hi) (s1 : 1 ≤ s.2) (h1 : lo.1 * s.2 < s.1 * lo.2) (h2 : s.1 * hi.2 < hi.1 * s.2) (hf : IsSl l s f) (hg : IsSh l s g) : f.1 * g.2 < g.1 * f.2 := by
  obtain ⟨f0, ⟨k, hk, ek⟩, _⟩ := hf
  obtain ⟨g0, ⟨m, hm, em⟩, _⟩ := hg
  have f1 := (okF_parts f0).1
  have g1 := (okF_parts g0).1
  have a1 := (okF_parts hl.1).1
  have b1 := (okF_parts hh.1).1
  dsimp only at ek em
  have key : cl l k * s.2 - k * s.1 < cl l m * s.2 - m * s.1 + s.2 := by
    rcases Int.lt_trichotomy k m with z | z | z
    · have c := hh.2.2 (k, m) ⟨hk.1, z, hm.2⟩
      dsimp only at c
      have e1 : (s.1 * (m - k)) * hi.2 < ((cl l m - cl l k + 1) * s.2) * hi.2 := by
        have p1 : (s.1 * hi.2) * (m - k) < (hi.1 * s.2) * (m - k) := Int.mul_lt_mul_of_pos_right h2 (by omega)
        have p2 : (hi.1 * (m - k)) * s.2 ≤ ((cl l m - cl l k + 1) * hi.2) * s.2 := Int.mul_le_mul_of_nonneg_right c (by omega)
        have p3 : (s.1 * (m - k)) * hi.2 = (s.1 * hi.2) * (m - k) := by grind
        have p4 : (hi.1 * s.2) * (m - k) = (hi.1 * (m - k)) * s.2 := by grind
        have p5 : ((cl l m - cl l k + 1) * s.2) * hi.2 = ((cl l m - cl l k + 1) * hi.2) * s.2 := by grind
        omega
      have := Int.lt_of_mul_lt_mul_right e1 (by omega)
      grind
    · subst z; omega
    · have c := hl.2.2 (m, k) ⟨hm.1, z, hk.2⟩
      dsimp only at c
      have e1 : ((cl l k - cl l m - 1) * s.2) * lo.2 < (s.1 * (k - m)) * lo.2 := by
        have p1 : (lo.1 * s.2) * (k - m) < (s.1 * lo.2) * (k - m) := Int.mul_lt_mul_of_pos_right h1 (by omega)
        have p2 : ((cl l k - cl l m - 1) * lo.2) * s.2 ≤ (lo.1 * (k - m)) * s.2 := Int.mul_le_mul_of_nonneg_right c (by omega)
        have p3 : (s.1 * (k - m)) * lo.2 = (s.1 * lo.2) * (k - m) := by grind
        have p4 : (lo.1 * s.2) * (k - m) = (lo.1 * (k - m)) * s.2 := by grind
        have p5 : ((cl l k - cl l m - 1) * s.2) * lo.2 = ((cl l k - cl l m - 1) * lo.2) * s.2 := by grind
        omega
      have := Int.lt_of_mul_lt_mul_right e1 (by omega)
      grind
  generalize cl l k * s.2 - k * s.1 = u at *
  generalize cl l m * s.2 - m * s.1 + s.2 = v at *
  have k2 : (f.1 * g.2) * s.2 < (g.1 * f.2) * s.2 := by
    have e1 : (f.1 * g.2) * s.2 = u * (f.2 * g.2) := by
      have : (f.1 * g.2) * s.2 = (f.1 * s.2) * g.2 := by grind
      rw [this, ek]; grind
    have e2 : (g.1 * f.2) * s.2 = v * (f.2 * g.2) := by
      have : (g.1 * f.2) * s.2 = (g.1 * s.2) * f.2 := by grind
      rw [this, em]; grind
    rw [e1, e2]
    exact Int.mul_lt_mul_of_pos_right key (Int.mul_pos (by omega) (by omega))
  exact Int.lt_of_mul_lt_mul_right k2 (by omega)
/-! ### the simplest fraction between -/
def Bt (lo hi : Int × Int) (p q : Int) : Prop := 1 ≤ q ∧ lo.1 * q < p * lo.2 ∧ p * hi.2 < hi.1 * q
def IsSimp (lo hi r : Int × Int) : Prop := Bt lo hi r.1 r.2 ∧ ∀ p q, Bt lo hi p q → r.2 ≤ q ∧ (r.2 = q → r.1 ≤ p)
theorem IsSimp.uniq {lo hi r t : Int × Int} (h : IsSimp lo hi r) (h' : IsSimp lo hi t) : r = t := by
  have a := h.2 _ _ h'.1
  have b := h'.2 _ _ h.1
  have e : r.2 = t.2 := by omega
  exact Prod.ext (by have := a.2 e; have := b.2 e.symm; omega) e
theorem mediant {lo hi : Int × Int} (h1 : 1 ≤ lo.2) (h2 : 1 ≤ hi.2) (h : lo.1 * hi.2 < hi.1 * lo.2) : Bt lo hi (lo.1 + hi.1) (lo.2 + hi.2) := by
  refine ⟨by omega, ?_, ?_⟩
  · have : (lo.1 + hi.1) * lo.2 - lo.1 * (lo.2 + hi.2) = hi.1 * lo.2 - lo.1 * hi.2 := by grind
    omega
  · have : hi.1 * (lo.2 + hi.2) - (lo.1 + hi.1) * hi.2 = hi.1 * lo.2 - lo.1 * hi.2 := by grind
    omega
theorem IsSimp.ok {lo hi r : Int × Int} (h1 : 1 ≤ lo.2) (h2 : 1 ≤ hi.2) (h : IsSimp lo hi r) : okF r = true := by
  obtain ⟨⟨r1, r2, r3⟩, hm⟩ := h
  refine okF_of r1 ?_
  obtain ⟨p, hp⟩ : ((Int.gcd r.1 r.2 : Nat) : Int) ∣ r.1 := Int.gcd_dvd_left _ _
  obtain ⟨q, hq⟩ : ((Int.gcd r.1 r.2 : Nat) : Int) ∣ r.2 := Int.gcd_dvd_right _ _
  generalize Int.gcd r.1 r.2 = g at *
  have g0 : 0 < (g : Int) := by
    rcases Nat.eq_zero_or_pos g with z | z
    · subst z
      simp at hq
      omega
    · omega
  have q1 : 1 ≤ q := by
    rcases Int.lt_or_le 0 q with z | z
    · omega
    · have : (g : Int) * q ≤ 0 := Int.mul_nonpos_of_nonneg_of_nonpos (by omega) z
      omega
  rw [hp, hq] at r2 r3
  have b : Bt lo hi p q := by
    refine ⟨q1, ?_, ?_⟩
    · have : (lo.1 * q) * g < (p * lo.2) * g := by
        have e1 : lo.1 * (g * q) = (lo.1 * q) * g := by grind
        have e2 : (g * p) * lo.2 = (p * lo.2) * g := by grind
        omega
      exact Int.lt_of_mul_lt_mul_right this (by omega)
    · have : (p * hi.2) * g < (hi.1 * q) * g := by
        have e1 : hi.1 * (g * q) = (hi.1 * q) * g := by grind
        have e2 : (g * p) * hi.2 = (p * hi.2) * g := by grind
        omega
      exact Int.lt_of_mul_lt_mul_right this (by omega)
  have k := (hm p q b).1
  have : (g : Int) ≤ 1 := by
    rcases Int.lt_or_le 1 (g : Int) with z | z
    · have : 2 * q ≤ (g : Int) * q := Int.mul_le_mul_of_nonneg_right (by omega) (by omega)
      omega
    · exact z
  omega
theorem simp_int {lo hi : Int × Int} (h1 : 1 ≤ lo.2) (h : (lo.1 / lo.2 + 1) * hi.2 < hi.1) : IsSimp lo hi (lo.1 / lo.2 + 1, 1) := by
  have e := Int.emod_add_ediv_mul lo.1 lo.2
  have m := Int.emod_lt_of_pos lo.1 (show 0 < lo.2 by omega)
  have m0 := Int.emod_nonneg lo.1 (show lo.2 ≠ 0 by omega)
  generalize lo.1 / lo.2 = w at *
  refine ⟨⟨Int.le_refl 1, ?_, ?_⟩, fun p q b => ⟨b.1, fun e1 => ?_⟩⟩
  · show lo.1 * 1 < (w + 1) * lo.2
    have : (w + 1) * lo.2 = w * lo.2 + lo.2 := by grind
    omega
  · show (w + 1) * hi.2 < hi.1 * 1
    omega
  · obtain ⟨b1, b2, b3⟩ := b
    have e1 : q = 1 := e1.symm
    subst e1
    show w + 1 ≤ p
    rcases Int.lt_or_le w p with z | z
    · exact z
    · have : p * lo.2 ≤ w * lo.2 := Int.mul_le_mul_of_nonneg_right z (by omega)
      omega
theorem simp_zero {lo hi : Int × Int} {w : Int} (h1 : 1 ≤ lo.2) (h2 : 1 ≤ hi.2) (e : lo.1 = w * lo.2) (c1 : 1 ≤ hi.1 - w * hi.2) : IsSimp lo hi (w * (hi.2 / (hi.1 - w * hi.2) + 1) + 1, hi.2 / (hi.1 - w * hi.2) + 1) := by
  have k : ∀ p q : Int, 1 ≤ q → (lo.1 * q < p * lo.2 ↔ 1 ≤ p - w * q) := fun p q hq => by
    rw [e, show w * lo.2 * q = (w * q) * lo.2 by grind]
    constructor
    · intro z
      have := Int.lt_of_mul_lt_mul_right z (by omega)
      omega
    · intro z
      exact Int.mul_lt_mul_of_pos_right (by omega) (by omega)
  have k2 : ∀ p q : Int, p * hi.2 < hi.1 * q ↔ (p - w * q) * hi.2 < (hi.1 - w * hi.2) * q := fun p q => by
    have : (hi.1 - w * hi.2) * q - (p - w * q) * hi.2 = hi.1 * q - p * hi.2 := by grind
    omega
  generalize hi.1 - w * hi.2 = c at *
  have d0 := Int.ediv_nonneg (show 0 ≤ hi.2 by omega) (show 0 ≤ c by omega)
  have m := Int.emod_lt_of_pos hi.2 (show 0 < c by omega)
  have e3 := Int.emod_add_ediv_mul hi.2 c
  have k3 : ∀ q : Int, 1 ≤ q → hi.2 < c * q → hi.2 / c + 1 ≤ q := fun q hq z => by
    rcases Int.lt_or_le (hi.2 / c) q with y | y
    · exact y
    · have : c * q ≤ c * (hi.2 / c) := Int.mul_le_mul_of_nonneg_left y (by omega)
      have m0 := Int.emod_nonneg hi.2 (show c ≠ 0 by omega)
      rw [Int.mul_comm c (hi.2 / c)] at this
      omega
  refine ⟨⟨by show 1 ≤ hi.2 / c + 1; omega, ?_, ?_⟩, fun p q b => ?_⟩
  · rw [k _ _ (by show 1 ≤ hi.2 / c + 1; omega)]
    dsimp only
    omega
  · rw [k2]
    dsimp only
    rw [show w * (hi.2 / c + 1) + 1 - w * (hi.2 / c + 1) = 1 by omega, Int.one_mul, Int.mul_add, Int.mul_one, Int.mul_comm c]
    omega
  · obtain ⟨b1, b2, b3⟩ := b
    have p1 := (k p q b1).mp b2
    have p2 := (k2 p q).mp b3
    have p3 : 1 * hi.2 ≤ (p - w * q) * hi.2 := Int.mul_le_mul_of_nonneg_right p1 (by omega)
    refine ⟨k3 q b1 (by omega), fun z => ?_⟩
    dsimp only at z ⊢
    rw [z]
    omega
theorem simp_turn {lo hi : Int × Int} {w one other : Int} (h1 : 1 ≤ lo.2) (h2 : 1 ≤ hi.2) (f0 : 0 ≤ lo.1 - w * lo.2) (c1 : 1 ≤ hi.1 - w * hi.2) (h : IsSimp (hi.2, hi.1 - w * hi.2) (lo.2, lo.1 - w * lo.2) (one, other)) : IsSimp lo hi (w * one + other, one) := by
  have k1 : ∀ p q : Int, lo.1 * q < p * lo.2 ↔ q * (lo.1 - w * lo.2) < lo.2 * (p - w * q) := fun p q => by
    have : lo.2 * (p - w * q) - q * (lo.1 - w * lo.2) = p * lo.2 - lo.1 * q := by grind
    omega
  have k2 : ∀ p q : Int, p * hi.2 < hi.1 * q ↔ hi.2 * (p - w * q) < q * (hi.1 - w * hi.2) := fun p q => by
    have : q * (hi.1 - w * hi.2) - hi.2 * (p - w * q) = hi.1 * q - p * hi.2 := by grind
    omega
  generalize lo.1 - w * lo.2 = f at *
  generalize hi.1 - w * hi.2 = c at *
  obtain ⟨⟨r1, r2, r3⟩, hm⟩ := h
  dsimp only at r1 r2 r3 hm
  have o1 : 1 ≤ one := by
    rcases Int.lt_or_le 0 one with z | z
    · omega
    · have a : one * c ≤ 0 := Int.mul_nonpos_of_nonpos_of_nonneg z (by omega)
      have b : 0 < hi.2 * other := Int.mul_pos (by omega) (by omega)
      omega
  have to : ∀ p q : Int, Bt lo hi p q → Bt (hi.2, c) (lo.2, f) q (p - w * q) := fun p q b => by
    obtain ⟨b1, b2, b3⟩ := b
    have g1 := (k1 p q).mp b2
    have g2 := (k2 p q).mp b3
    refine ⟨?_, g2, g1⟩
    rcases Int.lt_or_le 0 (p - w * q) with z | z
    · omega
    · have a : lo.2 * (p - w * q) ≤ 0 := Int.mul_nonpos_of_nonneg_of_nonpos (by omega) z
      have b : 0 ≤ q * f := Int.mul_nonneg (by omega) f0
      omega
  refine ⟨⟨o1, (k1 _ _).mpr ?_, (k2 _ _).mpr ?_⟩, fun p q b => ?_⟩
  · dsimp only
    rw [show w * one + other - w * one = other by omega]
    exact r3
  · dsimp only
    rw [show w * one + other - w * one = other by omega]
    exact r2
  · have b' := to p q b
    obtain ⟨m1, m2⟩ := hm q (p - w * q) b'
    obtain ⟨b1, b2, b3⟩ := b'
    dsimp only at b1 b2 b3 ⊢
    have le : one ≤ q := by
      rcases (show other = p - w * q ∨ other < p - w * q by omega) with z | z
      · exact m2 z
      · rcases Int.lt_or_le q one with y | y
        · have q1 : 1 ≤ q := b.1
          have x1 : hi.2 * other ≤ hi.2 * (p - w * q) := Int.mul_le_mul_of_nonneg_left (by omega) (by omega)
          have x2 : q * f ≤ one * f := Int.mul_le_mul_of_nonneg_right (by omega) f0
          exact (hm q other ⟨r1, by dsimp only; omega, by dsimp only; omega⟩).2 rfl
        · exact y
    exact ⟨le, fun z => by rw [z]; omega⟩
end Y

/-! part SM0 -/
set_option Elab.async false
set_option linter.all false
set_option maxRecDepth 100000
set_option maxHeartbeats 2000000
/-! SM0: limited parts, plain. -/
namespace Y
def mulL (n p : Int) : List Int := ((List.range (n - p).toNat).map fun (k : Nat) => p + 1 + (k : Int)).filter fun m => decide (m.fmod p = 0)
def mulP (n p : Int) : List Int := (List.range ((n + 1 - 2 * p + p - 1) / p).toNat).map fun (k : Nat) => 2 * p + (k : Int) * p
theorem mul_alike : ∀ n < 61, ∀ p < 60, mulP (n : Nat) (1 + (p : Nat)) = mulL n (1 + p) := by decide +kernel
def growC (n : Int) (r : List Int) : List (List Int) := (mulL n (las r)).map fun m => r ++ [m]
def levelC (n : Int) : Nat → List (List Int)
  | 0 => (List.range n.toNat).map fun (k : Nat) => [1 + (k : Int)]
  | j + 1 => (levelC n j).flatMap (growC n)
def chainsC (n : Int) : Nat → List (List Int)
  | 0 => []
  | m + 1 => chainsC n m ++ levelC n m
theorem las_snocC : ∀ {r : List Int} {m : Int}, las (r ++ [m]) = m
  | [], _ => rfl
  | [_], _ => rfl
  | x :: y :: r, m => las_snocC (r := y :: r)
theorem chn_snocC : ∀ {r : List Int} {m : Int}, r ≠ [] → chn r → las r < m → m.fmod (las r) = 0 → chn (r ++ [m])
  | [x], m, _, _, h1, h2 => ⟨⟨h1, h2⟩, trivial⟩
  | x :: y :: r, m, _, h, h1, h2 => ⟨h.1, chn_snocC (r := y :: r) (List.cons_ne_nil _ _) h.2 h1 h2⟩
def goodL (n : Int) (j : Nat) (r : List Int) : Prop := r.length = j + 1 ∧ (∀ q ∈ r, 1 ≤ q) ∧ chn r ∧ las r ≤ n
theorem goodL.ne {n : Int} {j : Nat} {r : List Int} (h : goodL n j r) : r ≠ [] := by
  intro z
  rw [z] at h
  exact absurd h.1 (by show ¬ 0 = j + 1; omega)
theorem goodL.las1 {n : Int} {j : Nat} {r : List Int} (h : goodL n j r) : 1 ≤ las r := h.2.1 _ (las_mem h.ne)
theorem goodL.le {n : Int} {j : Nat} {r : List Int} (h : goodL n j r) {q : Int} (hq : q ∈ r) : q ≤ las r := Int.le_of_dvd (by have := h.las1; omega) (las_dvd h.2.2.1 h.2.1 q hq)
theorem mem_mulL {n p m : Int} (h : m ∈ mulL n p) : p < m ∧ m ≤ n ∧ m.fmod p = 0 := by
  obtain ⟨h1, h2⟩ := List.mem_filter.mp h
  obtain ⟨k, hk, rfl⟩ := List.mem_map.mp h1
  have hk := List.mem_range.mp hk
  exact ⟨by omega, by omega, of_decide_eq_true h2⟩
theorem level_good {n : Int} : ∀ (j : Nat), ∀ r ∈ levelC n j, goodL n j r
  | 0, r, hr => by
    obtain ⟨k, hk, rfl⟩ := List.mem_map.mp hr
    have hk := List.mem_range.mp hk
    exact ⟨rfl, fun q hq => by rw [List.mem_singleton.mp hq]; omega, trivial, by show 1 + (k : Int) ≤ n; omega⟩
  | j + 1, r, hr => by
    obtain ⟨s, hs, hr⟩ := List.mem_flatMap.mp hr
    obtain ⟨m, hm, rfl⟩ := List.mem_map.mp hr
    have g := level_good j s hs
    obtain ⟨m1, m2, m3⟩ := mem_mulL hm
    have l1 := g.las1
    refine ⟨by rw [List.length_append, g.1]; rfl, fun q hq => ?_, chn_snocC g.ne g.2.2.1 m1 m3, by rw [las_snocC]; exact m2⟩
    rcases List.mem_append.mp hq with z | z
    · exact g.2.1 q z
    · rw [List.mem_singleton.mp z]; omega
theorem chains_good {n : Int} {m : Nat} {r : List Int} (h : r ∈ chainsC n m) : ∃ j, j < m ∧ goodL n j r := by
  induction m with
  | zero => cases h
  | succ m ih =>
    rcases List.mem_append.mp h with z | z
    · obtain ⟨j, h1, h2⟩ := ih z
      exact ⟨j, by omega, h2⟩
    · exact ⟨m, by omega, level_good m r z⟩
theorem grow_len {n : Int} (hn : n ≤ 60) {r : List Int} (h : 1 ≤ las r) : (growC n r).length ≤ 60 := by
  unfold growC mulL
  rw [List.length_map]
  refine Nat.le_trans (List.length_filter_le _ _) ?_
  rw [List.length_map, List.length_range]
  omega
theorem flat_len {α β : Type} {g : α → List β} {c : Nat} : ∀ {l : List α}, (∀ x ∈ l, (g x).length ≤ c) → (l.flatMap g).length ≤ c * l.length
  | [], _ => Nat.le_refl _
  | x :: l, h => by
    rw [List.flatMap_cons, List.length_append, List.length_cons, Nat.mul_succ]
    have := h x (List.mem_cons_self ..)
    have := flat_len (l := l) fun y hy => h y (List.mem_cons_of_mem _ hy)
    omega
theorem level_len {n : Int} (hn : n ≤ 60) : ∀ j, (levelC n j).length ≤ 60 ^ (j + 1)
  | 0 => by show (List.map _ _).length ≤ 60; rw [List.length_map, List.length_range]; omega
  | j + 1 => by
    have := flat_len (l := levelC n j) (g := growC n) (c := 60) fun r hr => grow_len hn (level_good j r hr).las1
    have ih := level_len hn j
    show ((levelC n j).flatMap (growC n)).length ≤ 60 ^ (j + 1) * 60
    omega
theorem chains_len {n : Int} (hn : n ≤ 60) : ∀ m, 59 * (chainsC n m).length + 60 ≤ 60 * 60 ^ m
  | 0 => by show 59 * 0 + 60 ≤ 60 * 60 ^ 0; decide
  | m + 1 => by
    have ih := chains_len hn m
    have := level_len hn m
    show 59 * (chainsC n m ++ levelC n m).length + 60 ≤ 60 * (60 ^ m * 60)
    rw [List.length_append]
    rw [Nat.pow_succ] at this
    omega
theorem chains_len4 {n : Int} (hn : n ≤ 60) {m : Nat} (hm : m ≤ 4) : (chainsC n m).length ≤ 13179660 ∧ (levelC n m).length ≤ 60 ^ 5 := by
  have := chains_len hn m
  have h2 : 60 ^ m ≤ 60 ^ 4 := Nat.pow_le_pow_right (by decide) hm
  have h3 := level_len hn m
  have h4 : 60 ^ (m + 1) ≤ 60 ^ 5 := Nat.pow_le_pow_right (by decide) (by omega)
  constructor <;> omega
theorem chains_few {n : Int} {k : Nat} : ∀ m, (chainsC n m).filter (fun r => decide ((r.length : Int) ≤ (k : Int))) = chainsC n (min m k)
  | 0 => by rw [Nat.zero_min]; rfl
  | m + 1 => by
    show (chainsC n m ++ levelC n m).filter _ = _
    rw [List.filter_append, chains_few m]
    by_cases h : m < k
    · rw [show min (m + 1) k = m + 1 by omega, show min m k = m by omega]
      show _ = chainsC n m ++ levelC n m
      rw [List.filter_eq_self.mpr]
      intro r hr
      have := (level_good m r hr).1
      exact decide_eq_true (by omega)
    · rw [show min (m + 1) k = k by omega, show min m k = k by omega, List.filter_eq_nil_iff.mpr, List.append_nil]
      intro r hr z
      have := (level_good m r hr).1
      have := of_decide_eq_true z
      omega
/-! ### means -/
theorem altC_neg : ∀ (s : Int) (l : List Int) (y : Int), altC (-s) l y = - altC s l y
  | _, [], _ => rfl
  | s, q :: r, y => by
    show -s * y.fdiv q + altC (- -s) r y = -(s * y.fdiv q + altC (-s) r y)
    rw [altC_neg (-s) r y, Int.neg_mul]
    omega
theorem altC_b {L : Int} (hL : 0 ≤ L) : ∀ (l : List Int), (∀ q ∈ l, 1 ≤ q) → -(l.length * L) ≤ altC 1 l L ∧ altC 1 l L ≤ l.length * L
  | [], _ => by show -(((0 : Nat) : Int) * L) ≤ 0 ∧ (0 : Int) ≤ ((0 : Nat) : Int) * L; omega
  | q :: r, h => by
    have ih := altC_b hL r fun t ht => h t (List.mem_cons_of_mem _ ht)
    have hq := h q List.mem_cons_self
    show _ ≤ 1 * L.fdiv q + altC (-1) r L ∧ 1 * L.fdiv q + altC (-1) r L ≤ _
    rw [altC_neg 1 r L, Int.one_mul, Int.fdiv_eq_ediv_of_nonneg _ (by omega)]
    have h1 : 0 ≤ L / q := Int.ediv_nonneg hL (by omega)
    have h2 : L / q ≤ L := Int.ediv_le_self _ hL
    have e : (((q :: r).length : Nat) : Int) * L = (r.length : Int) * L + L := by
      rw [List.length_cons]
      have : ((r.length + 1 : Nat) : Int) = r.length + 1 := by omega
      rw [this, Int.add_mul, Int.one_mul]
    omega
def cmC : List Int → Int × Int
  | [] => (0, 1)
  | p :: r => addF (1, p) (mulF (-1, 1) (cmC r))
/-- a fraction f is a / b -/
def Is (f : Int × Int) (a b : Int) : Prop := okF f = true ∧ f.1 * b = a * f.2
theorem cmC_is {L : Int} (hL : 1 ≤ L) : ∀ (r : List Int), (∀ q ∈ r, 1 ≤ q ∧ q ∣ L) → Is (cmC r) (altC 1 r L) L
  | [], _ => ⟨by decide, by show (0 : Int) * L = 0 * 1; omega⟩
  | p :: r, h => by
    obtain ⟨o, e⟩ := cmC_is hL r fun t ht => h t (List.mem_cons_of_mem _ ht)
    obtain ⟨hp, hd⟩ := h p List.mem_cons_self
    have t2 := (okF_parts o).1
    generalize ht : cmC r = t at *
    have m0 : 1 * t.2 ≠ 0 := by omega
    have mo : okF (mulF (-1, 1) t) = true := frac_ok (a := -1 * t.1) (b := 1 * t.2) (by omega)
    have me : (mulF (-1, 1) t).1 * (1 * t.2) = (-1 * t.1) * (mulF (-1, 1) t).2 := frac_cross m0
    have m2 := (okF_parts mo).1
    have ce : cmC (p :: r) = addF (1, p) (mulF (-1, 1) t) := by rw [← ht]; rfl
    rw [ce]
    generalize mulF (-1, 1) t = m at *
    have a0 : 0 < p * m.2 := Int.mul_pos (by omega) (by omega)
    have ao : okF (addF (1, p) m) = true := frac_ok (a := 1 * m.2 + m.1 * p) (b := p * m.2) a0
    have ae : (addF (1, p) m).1 * (p * m.2) = (1 * m.2 + m.1 * p) * (addF (1, p) m).2 := frac_cross (show p * m.2 ≠ 0 by omega)
    refine ⟨ao, ?_⟩
    generalize addF (1, p) m = c at *
    show c.1 * L = (1 * L.fdiv p + altC (-1) r L) * c.2
    rw [altC_neg 1 r L, Int.fdiv_eq_ediv_of_nonneg _ (by omega)]
    obtain ⟨k, rfl⟩ := hd
    rw [Int.mul_ediv_cancel_left _ (show p ≠ 0 by omega)]
    generalize altC 1 r (p * k) = v at *
    have x1 : m.1 * (p * k) = -v * m.2 := by
      have : (m.1 * (p * k)) * t.2 = (-v * m.2) * t.2 := by
        have a1 : (m.1 * (p * k)) * t.2 = (m.1 * (1 * t.2)) * (p * k) := by grind
        rw [a1, me]
        have a2 : -1 * t.1 * m.2 * (p * k) = -(t.1 * (p * k)) * m.2 := by grind
        rw [a2, e]
        grind
      exact Int.eq_of_mul_eq_mul_right (by omega) this
    have : (c.1 * (p * k)) * (p * m.2) = ((1 * k + -v) * c.2) * (p * m.2) := by
      have b1 : (c.1 * (p * k)) * (p * m.2) = (c.1 * (p * m.2)) * (p * k) := by grind
      rw [b1, ae]
      have b2 : (1 * m.2 + m.1 * p) * c.2 * (p * k) = (m.2 * (p * k) + (m.1 * (p * k)) * p) * c.2 := by grind
      rw [b2, x1]
      grind
    exact Int.eq_of_mul_eq_mul_right (by omega) this
theorem Is.z {f : Int × Int} {a b : Int} (h : Is f a b) (hb : 1 ≤ b ∧ b ≤ 100000) (ha : -1000000000 ≤ a ∧ a ≤ 1000000000) : ZF 64 f := by
  obtain ⟨o, e⟩ := h
  have f2 := (okF_parts o).1
  have d := den_le o (show 0 < b by omega) e
  have h1 : -100000000000000 ≤ f.1 := by
    rcases Int.lt_or_le f.1 (-100000000000000) with z | z
    · have a1 : f.1 * b ≤ -100000000000001 * b := Int.mul_le_mul_of_nonneg_right (by omega) (by omega)
      have a2 : -1000000000 * f.2 ≤ a * f.2 := Int.mul_le_mul_of_nonneg_right (by omega) (by omega)
      omega
    · exact z
  have h2 : f.1 ≤ 100000000000000 := by
    rcases Int.lt_or_le 100000000000000 f.1 with z | z
    · have a1 : 100000000000001 * b ≤ f.1 * b := Int.mul_le_mul_of_nonneg_right (by omega) (by omega)
      have a2 : a * f.2 ≤ 1000000000 * f.2 := Int.mul_le_mul_of_nonneg_right (by omega) (by omega)
      omega
    · exact z
  exact ⟨Z.at64 (by omega), Z.at64 (by omega)⟩
def exC (e : Int × Int) : Prop := okF e = true ∧ 0 ≤ e.1 ∧ e.1 ≤ e.2
instance {e : Int × Int} : Decidable (exC e) := inferInstanceAs (Decidable (_ ∧ _ ∧ _))
/-- how far the mean of parts is off, not reduced; the program's way -/
def offL (r : List Int) (e : Int × Int) : Int × Int := (((altC 1 r (las r) * e.2 - e.1 * las r).natAbs : Int), las r * e.2)
def offP (r : List Int) (e : Int × Int) : Int × Int := absF (addF (cmC r) (mulF (-1, 1) e))
theorem absF_ok {f : Int × Int} (h : okF f = true) : okF (absF f) = true := by
  obtain ⟨h1, h2⟩ := okF_parts h
  refine okF_of h1 ?_
  show Int.gcd (f.1.natAbs : Int) f.2 = 1
  rw [← h2]
  show Nat.gcd ((f.1.natAbs : Int)).natAbs f.2.natAbs = Nat.gcd f.1.natAbs f.2.natAbs
  rw [Int.natAbs_natCast]
theorem off_is {r : List Int} {e : Int × Int} (h1 : 1 ≤ las r) (h : ∀ q ∈ r, 1 ≤ q ∧ q ∣ las r) (he : okF e = true) : Is (offP r e) (offL r e).1 (offL r e).2 := by
  obtain ⟨co, ce⟩ := cmC_is h1 r h
  have c2 := (okF_parts co).1
  have e2 := (okF_parts he).1
  unfold offP offL
  generalize cmC r = c at *
  generalize altC 1 r (las r) = v at *
  generalize las r = L at *
  have mo : okF (mulF (-1, 1) e) = true := frac_ok (a := -1 * e.1) (b := 1 * e.2) (by omega)
  have me : (mulF (-1, 1) e).1 * (1 * e.2) = (-1 * e.1) * (mulF (-1, 1) e).2 := frac_cross (by omega)
  have m2 := (okF_parts mo).1
  generalize mulF (-1, 1) e = m at *
  have a0 : 0 < c.2 * m.2 := Int.mul_pos (by omega) (by omega)
  have ao : okF (addF c m) = true := frac_ok (a := c.1 * m.2 + m.1 * c.2) (b := c.2 * m.2) a0
  have ae : (addF c m).1 * (c.2 * m.2) = (c.1 * m.2 + m.1 * c.2) * (addF c m).2 := frac_cross (by omega)
  have g2 := (okF_parts ao).1
  generalize addF c m = g at *
  refine ⟨absF_ok ao, ?_⟩
  have x : g.1 * (L * e.2) = (v * e.2 - e.1 * L) * g.2 := by
    have : (g.1 * (L * e.2)) * (c.2 * m.2) = ((v * e.2 - e.1 * L) * g.2) * (c.2 * m.2) := by
      have b1 : (g.1 * (L * e.2)) * (c.2 * m.2) = (g.1 * (c.2 * m.2)) * (L * e.2) := by grind
      rw [b1, ae]
      have b2 : (c.1 * m.2 + m.1 * c.2) * g.2 * (L * e.2) = ((c.1 * L) * m.2 * e.2 + (m.1 * (1 * e.2)) * c.2 * L) * g.2 := by grind
      rw [b2, ce, me]
      grind
    exact Int.eq_of_mul_eq_mul_right (by omega) this
  show (g.1.natAbs : Int) * (L * e.2) = ((v * e.2 - e.1 * L).natAbs : Int) * g.2
  have y := congrArg Int.natAbs x
  rw [Int.natAbs_mul g.1, Int.natAbs_mul (v * e.2 - e.1 * L)] at y
  have l0 : 0 ≤ L * e.2 := Int.mul_nonneg (by omega) (by omega)
  have z1 : ((L * e.2).natAbs : Int) = L * e.2 := Int.natAbs_of_nonneg l0
  have z2 : (g.2.natAbs : Int) = g.2 := Int.natAbs_of_nonneg (by omega)
  rw [← z1, ← z2]
  exact_mod_cast y
theorem Is.lt {f g : Int × Int} {a b c d : Int} (h : Is f a b) (k : Is g c d) (hb : 0 < b) (hd : 0 < d) : f.1 * g.2 < g.1 * f.2 ↔ a * d < c * b := by
  obtain ⟨o, e⟩ := h
  obtain ⟨p, q⟩ := k
  have f2 := (okF_parts o).1
  have g2 := (okF_parts p).1
  have e1 : (f.1 * g.2) * (b * d) = (a * d) * (f.2 * g.2) := by
    have : (f.1 * g.2) * (b * d) = (f.1 * b) * (g.2 * d) := by grind
    rw [this, e]; grind
  have e2 : (g.1 * f.2) * (b * d) = (c * b) * (f.2 * g.2) := by
    have : (g.1 * f.2) * (b * d) = (g.1 * d) * (f.2 * b) := by grind
    rw [this, q]; grind
  have hp : 0 < b * d := Int.mul_pos hb hd
  have hq : 0 < f.2 * g.2 := Int.mul_pos (by omega) (by omega)
  constructor
  · intro z
    have : (f.1 * g.2) * (b * d) < (g.1 * f.2) * (b * d) := Int.mul_lt_mul_of_pos_right z hp
    rw [e1, e2] at this
    exact Int.lt_of_mul_lt_mul_right this (by omega)
  · intro z
    have : (a * d) * (f.2 * g.2) < (c * b) * (f.2 * g.2) := Int.mul_lt_mul_of_pos_right z hq
    rw [← e1, ← e2] at this
    exact Int.lt_of_mul_lt_mul_right this (by omega)
/-- the first of the best -/
def betC (e : Int × Int) : Option (List Int) → List Int → Option (List Int)
  | none, r => some r
  | some b, r => if (offL r e).1 * (offL b e).2 < (offL b e).1 * (offL r e).2 then some r else some b
def bestC (e : Int × Int) (l : List (List Int)) : Option (List Int) := l.foldl (betC e) none
theorem bet_some {e : Int × Int} : ∀ (l : List (List Int)) (b : List Int), ∃ c, l.foldl (betC e) (some b) = some c ∧ (c = b ∨ c ∈ l)
  | [], b => ⟨b, rfl, .inl rfl⟩
  | x :: l, b => by
    rw [List.foldl_cons]
    have e2 : betC e (some b) x = if (offL x e).1 * (offL b e).2 < (offL b e).1 * (offL x e).2 then some x else some b := rfl
    rw [e2]
    split
    · obtain ⟨c, h1, h2⟩ := bet_some l x
      exact ⟨c, h1, .inr (h2.elim (fun z => by rw [z]; exact List.mem_cons_self ..) fun z => List.mem_cons_of_mem _ z)⟩
    · obtain ⟨c, h1, h2⟩ := bet_some l b
      exact ⟨c, h1, h2.imp id fun z => List.mem_cons_of_mem _ z⟩
theorem best_some {e : Int × Int} {l : List (List Int)} (h : l ≠ []) : ∃ c ∈ l, bestC e l = some c := by
  cases l with
  | nil => exact absurd rfl h
  | cons x l =>
    obtain ⟨c, h1, h2⟩ := bet_some (e := e) l x
    exact ⟨c, h2.elim (fun z => by rw [z]; exact List.mem_cons_self ..) fun z => List.mem_cons_of_mem _ z, h1⟩
theorem chains_ne {n : Int} (hn : 1 ≤ n) : ∀ {m : Nat}, 1 ≤ m → chainsC n m ≠ []
  | 1, _ => by
    intro z
    have z : (([] : List (List Int)) ++ (List.range n.toNat).map fun (k : Nat) => [1 + (k : Int)]) = [] := z
    have := congrArg List.length z
    rw [List.nil_append, List.length_map, List.length_range, List.length_nil] at this
    omega
  | m + 2, _ => by
    intro z
    have z : chainsC n (m + 1) ++ levelC n (m + 1) = [] := z
    exact chains_ne hn (m := m + 1) (by omega) (List.append_eq_nil_iff.mp z).1
theorem snoc_fold {α : Type} : ∀ (l b : List α), l.foldl (fun b x => b ++ [x]) b = b ++ l
  | [], b => by rw [List.append_nil]; rfl
  | x :: l, b => by rw [List.foldl_cons, snoc_fold l, List.append_assoc]; rfl
theorem fold_len {α β : Type} {g : List β → α → List β} {c : Nat} (P : α → Prop) (h : ∀ b x, P x → (g b x).length ≤ b.length + c) : ∀ (l : List α) (b : List β), (∀ x ∈ l, P x) → (l.foldl g b).length ≤ b.length + c * l.length
  | [], b, _ => Nat.le_refl _
  | x :: l, b, hl => by
    rw [List.foldl_cons, List.length_cons, Nat.mul_succ]
    have := fold_len P h l (g b x) fun y hy => hl y (List.mem_cons_of_mem _ hy)
    have := h b x (hl x (List.mem_cons_self ..))
    omega
theorem flat_fold {α β : Type} {g : α → List β} : ∀ (l : List α) (b : List β), l.foldl (fun b r => b ++ g r) b = b ++ l.flatMap g
  | [], b => by rw [List.flatMap_nil, List.append_nil]; rfl
  | x :: l, b => by rw [List.foldl_cons, flat_fold l, List.flatMap_cons, List.append_assoc]
theorem cm_fold : ∀ (l : List Int), l.foldl (fun t p => addF (1, p) (mulF (-1, 1) t)) (0, 1) = cmC l.reverse := by
  have go : ∀ (l s : List Int), l.foldl (fun t p => addF (1, p) (mulF (-1, 1) t)) (cmC s) = cmC (l.reverse ++ s) := by
    intro l
    induction l with
    | nil => intro s; rfl
    | cons x l ih =>
      intro s
      rw [List.foldl_cons, List.reverse_cons, List.append_assoc]
      exact ih (x :: s)
  intro l
  have := go l []
  rw [List.append_nil] at this
  exact this
end Y

/-! part SM -/
set_option Elab.async false
set_option linter.all false
set_option maxRecDepth 100000
set_option maxHeartbeats 2000000
set_option exponentiation.threshold 10000
/-! SM: limited parts: the defs. -/
namespace Y
open PySem PySem.Spec
def n_law_chains : List Str := ["most", "limit", "found", "line", "turn", "longer", "row", "one", "more"]
/-- law_chains: number 154 -/
def b_law_chains : S := (.seq (.asg 2 (.comp [("one", 7)] (.tup (.cons (.var 7) .nil)) (.var 7) (.rng (.cons (.lit (.int 1)) (.cons (.bin .add (.var 1) (.lit (.int 1))) .nil))) (.lit (.bool true)))) (.seq (.asg 3 (.bi .list (.cons (.var 2) .nil))) (.seq (.for_ (.var 4) (.rng (.cons (.bin .sub (.var 0) (.lit (.int 1))) .nil)) (.seq (.asgL 5 (.lst (.nil))) (.seq (.for_ (.var 6) (.var 3) (.seq (.ext 5 (.comp [("more", 8)] (.bin .add (.var 6) (.tup (.cons (.var 8) .nil))) (.var 8) (.rng (.cons (.bin .add (.ix (.var 6) (.neg (.lit (.int 1)))) (.lit (.int 1))) (.cons (.bin .add (.var 1) (.lit (.int 1))) .nil))) (.cmp .Eq (.bin .mod (.bi .int (.cons (.var 8) .nil)) (.ix (.var 6) (.neg (.lit (.int 1))))) (.lit (.int 0))))) .nil)) (.seq (.asg 2 (.bin .add (.var 2) (.bvar 5))) (.seq (.frz 5) (.seq (.asg 3 (.var 5)) .nil)))))) (.seq (.ret (.var 2)) .nil))))
def n_law_mean : List Str := ["parts", "top", "k"]
/-- law_mean: number 155 -/
def b_law_mean : S := (.seq (.asg 1 (.lit (.int 0))) (.seq (.for_ (.var 2) (.rng (.cons (.bi .len (.cons (.var 0) .nil)) .nil)) (.seq (.asg 1 (.bin .add (.var 1) (.bin .mul (.ix (.lst (.cons (.lit (.int 1)) (.cons (.neg (.lit (.int 1))) .nil))) (.bin .mod (.bi .int (.cons (.var 2) .nil)) (.lit (.int 2)))) (.bin .fdiv (.ix (.var 0) (.neg (.lit (.int 1)))) (.ix (.var 0) (.var 2)))))) .nil)) (.seq (.ret (.tup (.cons (.var 1) (.cons (.ix (.var 0) (.neg (.lit (.int 1)))) .nil)))) .nil)))
def n_law_off : List Str := ["parts", "excess", "top", "below"]
/-- law_off: number 156 -/
def b_law_off : S := (.seq (.unp (.tup (.cons (.var 2) (.cons (.var 3) .nil))) (.call 155 (.cons (.var 0) .nil))) (.seq (.ret (.call 22 (.cons (.tup (.cons (.bin .sub (.bin .mul (.var 2) (.ix (.var 1) (.lit (.int 1)))) (.bin .mul (.ix (.var 1) (.lit (.int 0))) (.var 3))) (.cons (.bin .mul (.var 3) (.ix (.var 1) (.lit (.int 1)))) .nil))) .nil))) .nil))
def n_check_excess : List Str := ["excess"]
/-- check_excess: number 157 -/
def b_check_excess : S := (.seq (.ite (.or (.not (.call 15 (.cons (.var 0) .nil))) (.not (.chain .LtE .LtE (.lit (.int 0)) (.ix (.var 0) (.lit (.int 0))) (.ix (.var 0) (.lit (.int 1)))))) (.seq (.raise 0 .nil) .nil) .nil) .nil)
def n_chains : List Str := ["most", "limit", "found", "line", "_", "one", "row", "more"]
/-- chains: number 158 -/
def b_chains : S := (.seq (.asg 2 (.comp [("one", 5)] (.tup (.cons (.var 5) .nil)) (.var 5) (.rng (.cons (.lit (.int 1)) (.cons (.bin .add (.var 1) (.lit (.int 1))) .nil))) (.lit (.bool true)))) (.seq (.asg 3 (.var 2)) (.seq (.for_ (.var 4) (.rng (.cons (.bin .sub (.var 0) (.lit (.int 1))) .nil)) (.seq (.asg 3 (.comp2 [("row", 6), ("more", 7)] [7] (.tup (.star (.var 6) (.cons (.var 7) .nil))) (.var 6) (.var 3) (.lit (.bool true)) (.var 7) (.rng (.cons (.bin .mul (.lit (.int 2)) (.ix (.var 6) (.neg (.lit (.int 1))))) (.cons (.bin .add (.var 1) (.lit (.int 1))) (.cons (.ix (.var 6) (.neg (.lit (.int 1)))) .nil)))) (.lit (.bool true)))) (.seq (.asg 2 (.bin .add (.var 2) (.var 3))) .nil))) (.seq (.ret (.var 2)) .nil))))
def n_chain_mean : List Str := ["parts", "total", "part"]
/-- chain_mean: number 160 -/
def b_chain_mean : S := (.seq (.asg 1 (.tup (.cons (.lit (.int 0)) (.cons (.lit (.int 1)) .nil)))) (.seq (.for_ (.var 2) (.rev (.var 0)) (.seq (.asg 1 (.call 13 (.cons (.tup (.cons (.lit (.int 1)) (.cons (.var 2) .nil))) (.cons (.call 159 (.cons (.tup (.cons (.neg (.lit (.int 1))) (.cons (.lit (.int 1)) .nil))) (.cons (.var 1) .nil))) .nil)))) .nil)) (.seq (.ret (.var 1)) .nil)))
def n_near_parts : List Str := ["excess", "bound", "limit", "parts"]
/-- near_parts: number 161 -/
def b_near_parts : S := (.seq (.expr (.call 157 (.cons (.var 0) .nil))) (.seq (.ite (.or (.not (.call 15 (.cons (.var 1) .nil))) (.or (.cmp .Lt (.ix (.var 1) (.lit (.int 0))) (.lit (.int 0))) (.not (.chain .LtE .LtE (.lit (.int 1)) (.var 2) (.glob (.int 60)))))) (.seq (.raise 0 .nil) .nil) .nil) (.seq (.for_ (.var 3) (.call 158 (.cons (.glob (.int 4)) (.cons (.var 2) .nil))) (.seq (.ite (.not (.call 27 (.cons (.var 1) (.cons (.call 25 (.cons (.call 13 (.cons (.call 160 (.cons (.var 3) .nil)) (.cons (.call 159 (.cons (.tup (.cons (.neg (.lit (.int 1))) (.cons (.lit (.int 1)) .nil))) (.cons (.var 0) .nil))) .nil))) .nil)) .nil)))) (.seq (.ret (.var 3)) .nil) .nil) .nil)) (.seq (.raise 2 .nil) .nil))))
def n_best_parts : List Str := ["excess", "most", "limit", "best", "parts", "off"]
/-- best_parts: number 162 -/
def b_best_parts : S := (.seq (.expr (.call 157 (.cons (.var 0) .nil))) (.seq (.ite (.or (.not (.chain .LtE .LtE (.lit (.int 1)) (.var 1) (.glob (.int 4)))) (.not (.chain .LtE .LtE (.lit (.int 1)) (.var 2) (.glob (.int 60))))) (.seq (.raise 0 .nil) .nil) .nil) (.seq (.asg 3 (.lit .none)) (.seq (.for_ (.var 4) (.call 158 (.cons (.var 1) (.cons (.var 2) .nil))) (.seq (.asg 5 (.call 25 (.cons (.call 13 (.cons (.call 160 (.cons (.var 4) .nil)) (.cons (.call 159 (.cons (.tup (.cons (.neg (.lit (.int 1))) (.cons (.lit (.int 1)) .nil))) (.cons (.var 0) .nil))) .nil))) .nil))) (.seq (.ite (.or (.cmp .Is (.var 3) (.lit .none)) (.call 27 (.cons (.var 5) (.cons (.ix (.var 3) (.lit (.int 0))) .nil)))) (.seq (.asg 3 (.tup (.cons (.var 5) (.cons (.var 4) .nil)))) .nil) .nil) .nil))) (.seq (.ret (.ix (.var 3) (.lit (.int 1)))) .nil)))))
def goodC (r : List Int) : Prop := ∃ j, j < 4 ∧ goodL 60 j r
def C_law_chains : Ct := fun ds Q E => ∃ (m : Int) (n : Int), ds = [.I m, .I n] ∧ ((1 ≤ m ∧ m ≤ 4) ∧ (1 ≤ n ∧ n ≤ 60) ∧ Q (.py (.list ((chainsC n m.toNat).map ti))))
theorem p_law_chains {m : Int} {n : Int} {Q : D → Prop} {E : Nat → Prop} : C_law_chains [.I m, .I n] Q E ↔ ((1 ≤ m ∧ m ≤ 4) ∧ (1 ≤ n ∧ n ≤ 60) ∧ Q (.py (.list ((chainsC n m.toNat).map ti)))) := ⟨fun ⟨m', n', e, h⟩ => by simp only [List.cons.injEq, D.py.injEq, PyData.int.injEq, PyData.bool.injEq, PyData.str.injEq, pr_inj, qd_inj, prs_inj, ti_inj, li_inj, and_true, true_and, ru_inj] at e; obtain ⟨rfl, rfl⟩ := e; exact h, fun h => ⟨_, _, rfl, h⟩⟩
def C_chains : Ct := fun ds Q E => ∃ (m : Int) (n : Int), ds = [.I m, .I n] ∧ ((1 ≤ m ∧ m ≤ 4) ∧ (1 ≤ n ∧ n ≤ 60) ∧ Q (.py (.list ((chainsC n m.toNat).map ti))))
theorem p_chains {m : Int} {n : Int} {Q : D → Prop} {E : Nat → Prop} : C_chains [.I m, .I n] Q E ↔ ((1 ≤ m ∧ m ≤ 4) ∧ (1 ≤ n ∧ n ≤ 60) ∧ Q (.py (.list ((chainsC n m.toNat).map ti)))) := ⟨fun ⟨m', n', e, h⟩ => by simp only [List.cons.injEq, D.py.injEq, PyData.int.injEq, PyData.bool.injEq, PyData.str.injEq, pr_inj, qd_inj, prs_inj, ti_inj, li_inj, and_true, true_and, ru_inj] at e; obtain ⟨rfl, rfl⟩ := e; exact h, fun h => ⟨_, _, rfl, h⟩⟩
def C_law_mean : Ct := fun ds Q E => ∃ (r : List Int), ds = [.py (ti r)] ∧ (goodC r ∧ Q (.py (pr (altC 1 r (las r), las r))))
theorem p_law_mean {r : List Int} {Q : D → Prop} {E : Nat → Prop} : C_law_mean [.py (ti r)] Q E ↔ (goodC r ∧ Q (.py (pr (altC 1 r (las r), las r)))) := ⟨fun ⟨r', e, h⟩ => by simp only [List.cons.injEq, D.py.injEq, PyData.int.injEq, PyData.bool.injEq, PyData.str.injEq, pr_inj, qd_inj, prs_inj, ti_inj, li_inj, and_true, true_and, ru_inj] at e; obtain rfl := e; exact h, fun h => ⟨_, rfl, h⟩⟩
def C_law_off : Ct := fun ds Q E => ∃ (r : List Int) (e : Int × Int), ds = [.py (ti r), .py (pr e)] ∧ (goodC r ∧ exC e ∧ e.2 ≤ 1000 ∧ Q (.py (pr (offL r e))))
theorem p_law_off {r : List Int} {e : Int × Int} {Q : D → Prop} {E : Nat → Prop} : C_law_off [.py (ti r), .py (pr e)] Q E ↔ (goodC r ∧ exC e ∧ e.2 ≤ 1000 ∧ Q (.py (pr (offL r e)))) := ⟨fun ⟨r', e', e, h⟩ => by simp only [List.cons.injEq, D.py.injEq, PyData.int.injEq, PyData.bool.injEq, PyData.str.injEq, pr_inj, qd_inj, prs_inj, ti_inj, li_inj, and_true, true_and, ru_inj] at e; obtain ⟨rfl, rfl⟩ := e; exact h, fun h => ⟨_, _, rfl, h⟩⟩
def C_check_excess : Ct := fun ds Q E => ∃ (e : Int × Int), ds = [.py (pr e)] ∧ ((¬ exC e → E 0) ∧ (exC e → Q .N))
theorem p_check_excess {e : Int × Int} {Q : D → Prop} {E : Nat → Prop} : C_check_excess [.py (pr e)] Q E ↔ ((¬ exC e → E 0) ∧ (exC e → Q .N)) := ⟨fun ⟨e', e, h⟩ => by simp only [List.cons.injEq, D.py.injEq, PyData.int.injEq, PyData.bool.injEq, PyData.str.injEq, pr_inj, qd_inj, prs_inj, ti_inj, li_inj, and_true, true_and, ru_inj] at e; obtain rfl := e; exact h, fun h => ⟨_, rfl, h⟩⟩
def C_chain_mean : Ct := fun ds Q E => ∃ (r : List Int), ds = [.py (ti r)] ∧ (goodC r ∧ Q (.py (pr (cmC r))))
theorem p_chain_mean {r : List Int} {Q : D → Prop} {E : Nat → Prop} : C_chain_mean [.py (ti r)] Q E ↔ (goodC r ∧ Q (.py (pr (cmC r)))) := ⟨fun ⟨r', e, h⟩ => by simp only [List.cons.injEq, D.py.injEq, PyData.int.injEq, PyData.bool.injEq, PyData.str.injEq, pr_inj, qd_inj, prs_inj, ti_inj, li_inj, and_true, true_and, ru_inj] at e; obtain rfl := e; exact h, fun h => ⟨_, rfl, h⟩⟩
def C_best_parts : Ct := fun ds Q E => ∃ (e : Int × Int) (m : Int) (n : Int), ds = [.py (pr e), .I m, .I n] ∧ ((¬ exC e → E 0) ∧ (exC e → (¬ ((1 ≤ m ∧ m ≤ 4) ∧ 1 ≤ n ∧ n ≤ 60) → E 0) ∧ ((1 ≤ m ∧ m ≤ 4) ∧ 1 ≤ n ∧ n ≤ 60 → e.2 ≤ 1000 ∧ ∀ r, bestC e (chainsC n m.toNat) = some r → Q (.py (ti r)))))
theorem p_best_parts {e : Int × Int} {m : Int} {n : Int} {Q : D → Prop} {E : Nat → Prop} : C_best_parts [.py (pr e), .I m, .I n] Q E ↔ ((¬ exC e → E 0) ∧ (exC e → (¬ ((1 ≤ m ∧ m ≤ 4) ∧ 1 ≤ n ∧ n ≤ 60) → E 0) ∧ ((1 ≤ m ∧ m ≤ 4) ∧ 1 ≤ n ∧ n ≤ 60 → e.2 ≤ 1000 ∧ ∀ r, bestC e (chainsC n m.toNat) = some r → Q (.py (ti r))))) := ⟨fun ⟨e', m', n', e, h⟩ => by simp only [List.cons.injEq, D.py.injEq, PyData.int.injEq, PyData.bool.injEq, PyData.str.injEq, pr_inj, qd_inj, prs_inj, ti_inj, li_inj, and_true, true_and, ru_inj] at e; obtain ⟨rfl, rfl, rfl⟩ := e; exact h, fun h => ⟨_, _, _, rfl, h⟩⟩
def C_near_parts : Ct := fun ds Q E => ∃ (e : Int × Int) (b : Int × Int) (n : Int), ds = [.py (pr e), .py (pr b), .I n] ∧ ((¬ exC e → E 0) ∧ (exC e → (¬ (okF b = true ∧ 0 ≤ b.1 ∧ 1 ≤ n ∧ n ≤ 60) → E 0) ∧ (okF b = true ∧ 0 ≤ b.1 ∧ 1 ≤ n ∧ n ≤ 60 → e.2 ≤ 1000 ∧ ZF 64 b ∧ (∀ r s, (chainsC n 4).filter (fun r => !decide (b.1 * (offL r e).2 < (offL r e).1 * b.2)) = r :: s → Q (.py (ti r))) ∧ ((chainsC n 4).filter (fun r => !decide (b.1 * (offL r e).2 < (offL r e).1 * b.2)) = [] → E 2))))
theorem p_near_parts {e : Int × Int} {b : Int × Int} {n : Int} {Q : D → Prop} {E : Nat → Prop} : C_near_parts [.py (pr e), .py (pr b), .I n] Q E ↔ ((¬ exC e → E 0) ∧ (exC e → (¬ (okF b = true ∧ 0 ≤ b.1 ∧ 1 ≤ n ∧ n ≤ 60) → E 0) ∧ (okF b = true ∧ 0 ≤ b.1 ∧ 1 ≤ n ∧ n ≤ 60 → e.2 ≤ 1000 ∧ ZF 64 b ∧ (∀ r s, (chainsC n 4).filter (fun r => !decide (b.1 * (offL r e).2 < (offL r e).1 * b.2)) = r :: s → Q (.py (ti r))) ∧ ((chainsC n 4).filter (fun r => !decide (b.1 * (offL r e).2 < (offL r e).1 * b.2)) = [] → E 2)))) := ⟨fun ⟨e', b', n', e, h⟩ => by simp only [List.cons.injEq, D.py.injEq, PyData.int.injEq, PyData.bool.injEq, PyData.str.injEq, pr_inj, qd_inj, prs_inj, ti_inj, li_inj, and_true, true_and, ru_inj] at e; obtain ⟨rfl, rfl, rfl⟩ := e; exact h, fun h => ⟨_, _, _, rfl, h⟩⟩
section
variable {Φ : PhiT} {exN : Nat → Str} {ρ : Ev} {r : Y.S} {Dn : En}
theorem w_forq {tg src : C} {body : Y.S} : wpS Φ exN (.seq (.for_ tg src body) r) ρ Dn = wpS Φ exN (.for_ tg src body) ρ { Dn with nx := fun ρ1 => wpS Φ exN r ρ1 Dn } := rfl
end
theorem rng1 {n : Int} : rangeD 1 (n + 1) = (List.range n.toNat).map fun (k : Nat) => D.I (1 + (k : Int)) := by
  unfold rangeD
  rw [show (n + 1 - 1).toNat = n.toNat by omega]
theorem goodC_d {r : List Int} (h : goodC r) : (1 ≤ las r ∧ las r ≤ 60) ∧ (∀ q ∈ r, 1 ≤ q ∧ q ∣ las r) ∧ 1 ≤ r.length ∧ r.length ≤ 4 ∧ ∀ q ∈ r, q ≤ 60 := by
  obtain ⟨j, hj, g⟩ := h
  have l1 := g.las1
  refine ⟨⟨l1, g.2.2.2⟩, fun q hq => ⟨g.2.1 q hq, las_dvd g.2.2.1 g.2.1 q hq⟩, by have := g.1; omega, by have := g.1; omega, fun q hq => ?_⟩
  have := g.le hq
  have := g.2.2.2
  omega
theorem chains_goodC {n : Int} (hn : n ≤ 60) {m : Nat} (hm : m ≤ 4) {r : List Int} (h : r ∈ chainsC n m) : goodC r := by
  obtain ⟨j, hj, g1, g2, g3, g4⟩ := chains_good h
  exact ⟨j, by omega, g1, g2, g3, by omega⟩
/-- a comprehension that begins with some items -/
theorem compW_from {α : Type} {step : D → (List PyData → Prop) → Prop} {K : List PyData → Prop} {f : α → D} {g : α → PyData} : ∀ {l : List α} {acc : List PyData}, acc.length + l.length ≤ sizeLine →
    (∀ x ∈ l, ∀ K', K' [g x] → step (f x) K') → K (acc ++ l.map g) → compW step (l.map f) acc K
  | [], acc, _, _, h => by rw [List.map_nil, List.append_nil] at h; exact h
  | x :: l, acc, hz, hs, h => by
    rw [List.length_cons] at hz
    refine hs x (List.mem_cons_self ..) _ ⟨by show acc.length + 1 ≤ sizeLine; omega, ?_⟩
    refine compW_from (l := l) (by rw [List.length_append]; show acc.length + 1 + l.length ≤ sizeLine; omega) (fun y hy => hs y (List.mem_cons_of_mem _ hy)) ?_
    rw [List.append_assoc]
    exact h
/-- a comprehension with two sources -/
theorem compA_flat {α : Type} {step : D → List PyData → (List PyData → Prop) → Prop} {K : List PyData → Prop} {l : List α} {f : α → D} {g : α → List PyData}
    (hs : ∀ l1 x l2, l = l1 ++ x :: l2 → ∀ K', K' (l1.flatMap g ++ g x) → step (f x) (l1.flatMap g) K') (hn : K (l.flatMap g)) : compA step (l.map f) [] K := by
  have go : ∀ (l2 l1 : List α), l = l1 ++ l2 → compA step (l2.map f) (l1.flatMap g) K := by
    intro l2
    induction l2 with
    | nil => intro l1 e; rw [List.append_nil] at e; subst e; exact hn
    | cons x l2 ih =>
      intro l1 e
      refine hs l1 x l2 e _ ?_
      have := ih (l1 ++ [x]) (by rw [e, List.append_assoc]; rfl)
      rw [List.flatMap_append, List.flatMap_cons, List.flatMap_nil, List.append_nil] at this
      exact this
  exact go l [] rfl
theorem off_b {r : List Int} {e : Int × Int} (hg : goodC r) (he : exC e) (h2 : e.2 ≤ 1000) : (0 ≤ (offL r e).1 ∧ (offL r e).1 ≤ 300000) ∧ 1 ≤ (offL r e).2 ∧ (offL r e).2 ≤ 60000 := by
  obtain ⟨hL, hd, h1, h4, h60⟩ := goodC_d hg
  have e2 := (okF_parts he.1).1
  have e1 := he.2
  have ab := altC_b (L := las r) (by omega) r fun q hq => (hd q hq).1
  have a1 : (r.length : Int) * las r ≤ 4 * 60 := Int.mul_le_mul (by omega) (by omega) (by omega) (by decide)
  unfold offL
  generalize altC 1 r (las r) = v at *
  generalize las r = L at *
  have b1 : v * e.2 ≤ 240 * 1000 := by
    have : v * e.2 ≤ 240 * e.2 := Int.mul_le_mul_of_nonneg_right (by omega) (by omega)
    omega
  have b2 : -(240 * 1000) ≤ v * e.2 := by
    have : -240 * e.2 ≤ v * e.2 := Int.mul_le_mul_of_nonneg_right (by omega) (by omega)
    omega
  have b3 : e.1 * L ≤ 1000 * 60 := Int.mul_le_mul (by omega) (by omega) (by omega) (by decide)
  have b4 : 0 ≤ e.1 * L := Int.mul_nonneg (by omega) (by omega)
  have b5 : L * e.2 ≤ 60 * 1000 := Int.mul_le_mul (by omega) (by omega) (by omega) (by decide)
  have b6 : 0 < L * e.2 := Int.mul_pos (by omega) (by omega)
  dsimp only
  omega
theorem cm_z {r : List Int} (hg : goodC r) {s : List Int} (h : ∀ q ∈ s, q ∈ r) (hs : s.length ≤ 4) : ZF 64 (cmC s) := by
  obtain ⟨hL, hd, h1, h4, h60⟩ := goodC_d hg
  have is := cmC_is hL.1 s fun q hq => hd q (h q hq)
  have ab := altC_b (L := las r) (by omega) s fun q hq => (hd q (h q hq)).1
  have a1 : (s.length : Int) * las r ≤ 4 * 60 := Int.mul_le_mul (by omega) (by omega) (by omega) (by decide)
  exact is.z (by omega) (by omega)
theorem s_check_excess {Φ : PhiT} (h_is_fraction : Φ 15 = C_is_fraction) (ds : List D) (Q : D → Prop) (E : Nat → Prop) (h : C_check_excess ds Q E) : ds.length = 1 ∧ wpS Φ exName b_check_excess (initE n_check_excess ds) (endF Q E) := by
  obtain ⟨e, rfl, he, hq⟩ := h
  refine ⟨rfl, ?_⟩
  simp only [wpS, wp, getV, getB, initE, endF, bindG, List.map_cons, List.map_nil, List.length_cons, List.length_nil, List.cons_append, List.nil_append, List.append_nil, List.getElem?_cons_zero, List.getElem?_cons_succ, List.set_cons_zero, List.set_cons_succ, partD, k_L, k_T, l_lenT, l_lenL, l_int, l_intB, l_abs, l_max2, l_max3, l_max4, l_min2, l_maxL, l_minL, l_sum, l_all, l_any, l_tupL, l_tupT, l_lisL, l_lisT, r_1, r_2, r_l, i_L, i_T, i_A, if_true, if_false, ite_true, ite_false, not_false_eq_true, not_true_eq_false, Bool.false_eq_true, ite_not, b_add, b_addT, b_addL, b_sub, b_subB, b_mul, b_mulT, b_mulL, b_fdiv, b_mod, b_pow, a_add, a_sub, a_mul, a_fdiv, c_lt, c_le, c_gt, c_ge, c_eqI, c_neI, c_eqB, c_neB, seqP, pysD, Option.map_some, List.replicate_zero, List.replicate_succ, Nat.zero_add, Nat.add_zero, Nat.reduceAdd, Nat.reduceSub, Nat.reduceLeDiff, decide_eq_true_eq, Bool.not_eq_true', decide_eq_false_iff_not, Nat.sub_self, Option.some.injEq, exists_eq_left', exists_eq_left, x_pick, f_pr, f_qd, f_prT, f_qdT, x_pr0, x_pr1, x_qd0, x_qd1, x_qd2, x_qd3, g_pr, g_qd, l_pr, l_qd, l_prs, l_ti, l_li, c_eq_pr, c_ne_pr, c_eq_qd, c_ne_qd, i_pr, i_qd, i_prs, i_ti, i_li, true_and, and_true, sl0, sl1, sl2, sl3, sl4, sl5, sl6, sl7, sl8, sl9, sl10, sl11, sl12, sl13, sl14, mketa, wipe1, shE_cons, shE_nil, shS_sh, shS_ow, shS_none, eq_self, and_self, decide_true, decide_false, reduceCtorEq, false_and, and_false, true_implies, false_implies, implies_true, not_true_eq_false, Bool.not_true, Bool.not_false, Bool.true_and, Bool.false_and, Bool.and_true, Bool.and_false, Bool.or_true, Bool.true_or, Bool.or_false, Bool.false_or, Int.reduceLT, Int.reduceLE, Nat.reduceLT, x_ru0, x_ru1, c_ev, c_pa, g_ti, k_ti1, wipe2, h_is_fraction, p_is_fraction, b_check_excess, n_check_excess]
  unfold exC at he hq
  cases h : okF e with
  | false => exact he fun z => by rw [h] at z; cases z.1
  | true =>
    rw [if_neg (by decide)]
    split
    · rename_i g
      split
      · rename_i g2
        exact hq ⟨h, g, g2⟩
      · rename_i g2
        exact he fun z => g2 z.2.2
    · rename_i g
      exact he fun z => g z.2.1
theorem s_law_mean {Φ : PhiT}  (ds : List D) (Q : D → Prop) (E : Nat → Prop) (h : C_law_mean ds Q E) : ds.length = 1 ∧ wpS Φ exName b_law_mean (initE n_law_mean ds) (endF Q E) := by
  obtain ⟨r, rfl, hg, hq⟩ := h
  refine ⟨rfl, ?_⟩
  simp only [wpS, wp, getV, getB, initE, endF, bindG, List.map_cons, List.map_nil, List.length_cons, List.length_nil, List.cons_append, List.nil_append, List.append_nil, List.getElem?_cons_zero, List.getElem?_cons_succ, List.set_cons_zero, List.set_cons_succ, partD, k_L, k_T, l_lenT, l_lenL, l_int, l_intB, l_abs, l_max2, l_max3, l_max4, l_min2, l_maxL, l_minL, l_sum, l_all, l_any, l_tupL, l_tupT, l_lisL, l_lisT, r_1, r_2, r_l, i_L, i_T, i_A, if_true, if_false, ite_true, ite_false, not_false_eq_true, not_true_eq_false, Bool.false_eq_true, ite_not, b_add, b_addT, b_addL, b_sub, b_subB, b_mul, b_mulT, b_mulL, b_fdiv, b_mod, b_pow, a_add, a_sub, a_mul, a_fdiv, c_lt, c_le, c_gt, c_ge, c_eqI, c_neI, c_eqB, c_neB, seqP, pysD, Option.map_some, List.replicate_zero, List.replicate_succ, Nat.zero_add, Nat.add_zero, Nat.reduceAdd, Nat.reduceSub, Nat.reduceLeDiff, decide_eq_true_eq, Bool.not_eq_true', decide_eq_false_iff_not, Nat.sub_self, Option.some.injEq, exists_eq_left', exists_eq_left, x_pick, f_pr, f_qd, f_prT, f_qdT, x_pr0, x_pr1, x_qd0, x_qd1, x_qd2, x_qd3, g_pr, g_qd, l_pr, l_qd, l_prs, l_ti, l_li, c_eq_pr, c_ne_pr, c_eq_qd, c_ne_qd, i_pr, i_qd, i_prs, i_ti, i_li, true_and, and_true, sl0, sl1, sl2, sl3, sl4, sl5, sl6, sl7, sl8, sl9, sl10, sl11, sl12, sl13, sl14, mketa, wipe1, shE_cons, shE_nil, shS_sh, shS_ow, shS_none, eq_self, and_self, decide_true, decide_false, reduceCtorEq, false_and, and_false, true_implies, false_implies, implies_true, not_true_eq_false, Bool.not_true, Bool.not_false, Bool.true_and, Bool.false_and, Bool.and_true, Bool.and_false, Bool.or_true, Bool.true_or, Bool.or_false, Bool.false_or, Int.reduceLT, Int.reduceLE, Nat.reduceLT, x_ru0, x_ru1, c_ev, c_pa, g_ti, k_ti1, wipe2, b_law_mean, n_law_mean]
  obtain ⟨hL, hd, h1, h4, h60⟩ := goodC_d hg
  have hne : r ≠ [] := List.length_pos_iff.mp (by omega)
  refine ⟨by omega, ?_⟩
  refine forW_rule (fun i ρ => ∃ (t : Int) (s2 : Option Sl), ρ = [some (.sh (.py (ti r))), some (.sh (.I t)), s2] ∧ t + altC (if i % 2 = 0 then 1 else -1) (r.drop i) (las r) = altC 1 r (las r)) ⟨0, _, rfl, by rw [List.drop_zero]; simp⟩ ?_ ?_
  · rintro i d ρ K hd' ⟨t, s2, rfl, ht⟩ hK
    obtain ⟨rfl, hi⟩ := rangeD_get hd'
    have hi : i < r.length := by omega
    have hxm := hd r[i] (List.getElem_mem hi)
    have hx6 := h60 r[i] (List.getElem_mem hi)
    rw [List.drop_eq_getElem_cons hi] at ht
    have ht : t + ((if i % 2 = 0 then 1 else -1) * (las r).fdiv r[i] + altC (-(if i % 2 = 0 then 1 else -1)) (r.drop (i + 1)) (las r)) = altC 1 r (las r) := ht
    simp only [wpS, wp, getV, getB, initE, endF, bindG, List.map_cons, List.map_nil, List.length_cons, List.length_nil, List.cons_append, List.nil_append, List.append_nil, List.getElem?_cons_zero, List.getElem?_cons_succ, List.set_cons_zero, List.set_cons_succ, partD, k_L, k_T, l_lenT, l_lenL, l_int, l_intB, l_abs, l_max2, l_max3, l_max4, l_min2, l_maxL, l_minL, l_sum, l_all, l_any, l_tupL, l_tupT, l_lisL, l_lisT, r_1, r_2, r_l, i_L, i_T, i_A, if_true, if_false, ite_true, ite_false, not_false_eq_true, not_true_eq_false, Bool.false_eq_true, ite_not, b_add, b_addT, b_addL, b_sub, b_subB, b_mul, b_mulT, b_mulL, b_fdiv, b_mod, b_pow, a_add, a_sub, a_mul, a_fdiv, c_lt, c_le, c_gt, c_ge, c_eqI, c_neI, c_eqB, c_neB, seqP, pysD, Option.map_some, List.replicate_zero, List.replicate_succ, Nat.zero_add, Nat.add_zero, Nat.reduceAdd, Nat.reduceSub, Nat.reduceLeDiff, decide_eq_true_eq, Bool.not_eq_true', decide_eq_false_iff_not, Nat.sub_self, Option.some.injEq, exists_eq_left', exists_eq_left, x_pick, f_pr, f_qd, f_prT, f_qdT, x_pr0, x_pr1, x_qd0, x_qd1, x_qd2, x_qd3, g_pr, g_qd, l_pr, l_qd, l_prs, l_ti, l_li, c_eq_pr, c_ne_pr, c_eq_qd, c_ne_qd, i_pr, i_qd, i_prs, i_ti, i_li, true_and, and_true, sl0, sl1, sl2, sl3, sl4, sl5, sl6, sl7, sl8, sl9, sl10, sl11, sl12, sl13, sl14, mketa, wipe1, shE_cons, shE_nil, shS_sh, shS_ow, shS_none, eq_self, and_self, decide_true, decide_false, reduceCtorEq, false_and, and_false, true_implies, false_implies, implies_true, not_true_eq_false, Bool.not_true, Bool.not_false, Bool.true_and, Bool.false_and, Bool.and_true, Bool.and_false, Bool.or_true, Bool.true_or, Bool.or_false, Bool.false_or, Int.reduceLT, Int.reduceLE, Nat.reduceLT, x_ru0, x_ru1, c_ev, c_pa, g_ti, k_ti1, wipe2]
    refine ⟨by decide, ?_⟩
    have en : -(if i % 2 = 0 then (1 : Int) else -1) = (if (i + 1) % 2 = 0 then 1 else -1) := by
      by_cases o : i % 2 = 0
      · rw [if_pos o, if_neg (by omega)]
      · rw [if_neg o, if_pos (by omega)]; rfl
    rw [en] at ht
    have e0 : (0 + (i : Int)) = i := by omega
    rw [e0]
    have fin : ∀ g : Int, (g = if i % 2 = 0 then 1 else -1) → ixD (D.py (ti r)) (D.I (-1)) fun x_1 => ixD (D.py (ti r)) (D.I (i : Int)) fun y => binD BO.fdiv x_1 y fun y_2 => binD BO.mul (D.I g) y_2 fun y_3 => binD BO.add (D.I t) y_3 fun d_6 => K [some (.sh (.py (ti r))), some (.sh d_6), some (.sh (.I (i : Int)))] := by
      intro g hg2
      refine ix_las hne ?_
      refine ix_ti (by omega) (v := r[i]) (by rw [show ((i : Int)).toNat = i by omega]; exact List.getElem?_eq_getElem hi) ?_
      simp only [wpS, wp, getV, getB, initE, endF, bindG, List.map_cons, List.map_nil, List.length_cons, List.length_nil, List.cons_append, List.nil_append, List.append_nil, List.getElem?_cons_zero, List.getElem?_cons_succ, List.set_cons_zero, List.set_cons_succ, partD, k_L, k_T, l_lenT, l_lenL, l_int, l_intB, l_abs, l_max2, l_max3, l_max4, l_min2, l_maxL, l_minL, l_sum, l_all, l_any, l_tupL, l_tupT, l_lisL, l_lisT, r_1, r_2, r_l, i_L, i_T, i_A, if_true, if_false, ite_true, ite_false, not_false_eq_true, not_true_eq_false, Bool.false_eq_true, ite_not, b_add, b_addT, b_addL, b_sub, b_subB, b_mul, b_mulT, b_mulL, b_fdiv, b_mod, b_pow, a_add, a_sub, a_mul, a_fdiv, c_lt, c_le, c_gt, c_ge, c_eqI, c_neI, c_eqB, c_neB, seqP, pysD, Option.map_some, List.replicate_zero, List.replicate_succ, Nat.zero_add, Nat.add_zero, Nat.reduceAdd, Nat.reduceSub, Nat.reduceLeDiff, decide_eq_true_eq, Bool.not_eq_true', decide_eq_false_iff_not, Nat.sub_self, Option.some.injEq, exists_eq_left', exists_eq_left, x_pick, f_pr, f_qd, f_prT, f_qdT, x_pr0, x_pr1, x_qd0, x_qd1, x_qd2, x_qd3, g_pr, g_qd, l_pr, l_qd, l_prs, l_ti, l_li, c_eq_pr, c_ne_pr, c_eq_qd, c_ne_qd, i_pr, i_qd, i_prs, i_ti, i_li, true_and, and_true, sl0, sl1, sl2, sl3, sl4, sl5, sl6, sl7, sl8, sl9, sl10, sl11, sl12, sl13, sl14, mketa, wipe1, shE_cons, shE_nil, shS_sh, shS_ow, shS_none, eq_self, and_self, decide_true, decide_false, reduceCtorEq, false_and, and_false, true_implies, false_implies, implies_true, not_true_eq_false, Bool.not_true, Bool.not_false, Bool.true_and, Bool.false_and, Bool.and_true, Bool.and_false, Bool.or_true, Bool.true_or, Bool.or_false, Bool.false_or, Int.reduceLT, Int.reduceLE, Nat.reduceLT, x_ru0, x_ru1, c_ev, c_pa, g_ti, k_ti1, wipe2]
      have zg : Z 64 g := Z.at64 (by split at hg2 <;> omega)
      refine ⟨⟨by omega, lgz (n := 64) (Z.at64 (by omega)) (by decide)⟩, cmz zg (Z.fdiv (n := 64) (Z.at64 (by omega))) (by decide) (by decide), hK _ ⟨_, some (Sl.sh (D.I (i : Int))), rfl, ?_⟩⟩
      rw [hg2]
      omega
    by_cases o : i % 2 = 0
    · have : (i : Int).fmod 2 = 0 := by rw [Int.fmod_eq_emod_of_nonneg _ (by omega)]; omega
      rw [this]
      exact ixL_of (by decide) (p := .int 1) rfl (fin 1 (by rw [if_pos o]))
    · have : (i : Int).fmod 2 = 1 := by rw [Int.fmod_eq_emod_of_nonneg _ (by omega)]; omega
      rw [this]
      exact ixL_of (by decide) (p := .int (-1)) rfl (fin (-1) (by rw [if_neg o]))
  · rintro ρ ⟨t, s2, rfl, ht⟩
    have hn : (rangeD 0 (r.length : Int)).length = r.length := by
      unfold rangeD
      rw [List.length_map, List.length_range]
      omega
    rw [hn, List.drop_length] at ht
    have ht : t + 0 = altC 1 r (las r) := ht
    rw [Int.add_zero] at ht
    simp only [wpS, wp, getV, getB, initE, endF, bindG, List.map_cons, List.map_nil, List.length_cons, List.length_nil, List.cons_append, List.nil_append, List.append_nil, List.getElem?_cons_zero, List.getElem?_cons_succ, List.set_cons_zero, List.set_cons_succ, partD, k_L, k_T, l_lenT, l_lenL, l_int, l_intB, l_abs, l_max2, l_max3, l_max4, l_min2, l_maxL, l_minL, l_sum, l_all, l_any, l_tupL, l_tupT, l_lisL, l_lisT, r_1, r_2, r_l, i_L, i_T, i_A, if_true, if_false, ite_true, ite_false, not_false_eq_true, not_true_eq_false, Bool.false_eq_true, ite_not, b_add, b_addT, b_addL, b_sub, b_subB, b_mul, b_mulT, b_mulL, b_fdiv, b_mod, b_pow, a_add, a_sub, a_mul, a_fdiv, c_lt, c_le, c_gt, c_ge, c_eqI, c_neI, c_eqB, c_neB, seqP, pysD, Option.map_some, List.replicate_zero, List.replicate_succ, Nat.zero_add, Nat.add_zero, Nat.reduceAdd, Nat.reduceSub, Nat.reduceLeDiff, decide_eq_true_eq, Bool.not_eq_true', decide_eq_false_iff_not, Nat.sub_self, Option.some.injEq, exists_eq_left', exists_eq_left, x_pick, f_pr, f_qd, f_prT, f_qdT, x_pr0, x_pr1, x_qd0, x_qd1, x_qd2, x_qd3, g_pr, g_qd, l_pr, l_qd, l_prs, l_ti, l_li, c_eq_pr, c_ne_pr, c_eq_qd, c_ne_qd, i_pr, i_qd, i_prs, i_ti, i_li, true_and, and_true, sl0, sl1, sl2, sl3, sl4, sl5, sl6, sl7, sl8, sl9, sl10, sl11, sl12, sl13, sl14, mketa, wipe1, shE_cons, shE_nil, shS_sh, shS_ow, shS_none, eq_self, and_self, decide_true, decide_false, reduceCtorEq, false_and, and_false, true_implies, false_implies, implies_true, not_true_eq_false, Bool.not_true, Bool.not_false, Bool.true_and, Bool.false_and, Bool.and_true, Bool.and_false, Bool.or_true, Bool.true_or, Bool.or_false, Bool.false_or, Int.reduceLT, Int.reduceLE, Nat.reduceLT, x_ru0, x_ru1, c_ev, c_pa, g_ti, k_ti1, wipe2]
    refine ix_las hne ⟨_, rfl, by show 2 ≤ sizeLine; decide, ?_⟩
    rw [ht]
    exact hq
theorem s_law_off {Φ : PhiT} (h_law_mean : Φ 155 = C_law_mean) (h_law_size : Φ 22 = C_law_size) (ds : List D) (Q : D → Prop) (E : Nat → Prop) (h : C_law_off ds Q E) : ds.length = 2 ∧ wpS Φ exName b_law_off (initE n_law_off ds) (endF Q E) := by
  obtain ⟨r, e, rfl, hg, hx, hs, hq⟩ := h
  refine ⟨rfl, ?_⟩
  simp only [wpS, wp, getV, getB, initE, endF, bindG, List.map_cons, List.map_nil, List.length_cons, List.length_nil, List.cons_append, List.nil_append, List.append_nil, List.getElem?_cons_zero, List.getElem?_cons_succ, List.set_cons_zero, List.set_cons_succ, partD, k_L, k_T, l_lenT, l_lenL, l_int, l_intB, l_abs, l_max2, l_max3, l_max4, l_min2, l_maxL, l_minL, l_sum, l_all, l_any, l_tupL, l_tupT, l_lisL, l_lisT, r_1, r_2, r_l, i_L, i_T, i_A, if_true, if_false, ite_true, ite_false, not_false_eq_true, not_true_eq_false, Bool.false_eq_true, ite_not, b_add, b_addT, b_addL, b_sub, b_subB, b_mul, b_mulT, b_mulL, b_fdiv, b_mod, b_pow, a_add, a_sub, a_mul, a_fdiv, c_lt, c_le, c_gt, c_ge, c_eqI, c_neI, c_eqB, c_neB, seqP, pysD, Option.map_some, List.replicate_zero, List.replicate_succ, Nat.zero_add, Nat.add_zero, Nat.reduceAdd, Nat.reduceSub, Nat.reduceLeDiff, decide_eq_true_eq, Bool.not_eq_true', decide_eq_false_iff_not, Nat.sub_self, Option.some.injEq, exists_eq_left', exists_eq_left, x_pick, f_pr, f_qd, f_prT, f_qdT, x_pr0, x_pr1, x_qd0, x_qd1, x_qd2, x_qd3, g_pr, g_qd, l_pr, l_qd, l_prs, l_ti, l_li, c_eq_pr, c_ne_pr, c_eq_qd, c_ne_qd, i_pr, i_qd, i_prs, i_ti, i_li, true_and, and_true, sl0, sl1, sl2, sl3, sl4, sl5, sl6, sl7, sl8, sl9, sl10, sl11, sl12, sl13, sl14, mketa, wipe1, shE_cons, shE_nil, shS_sh, shS_ow, shS_none, eq_self, and_self, decide_true, decide_false, reduceCtorEq, false_and, and_false, true_implies, false_implies, implies_true, not_true_eq_false, Bool.not_true, Bool.not_false, Bool.true_and, Bool.false_and, Bool.and_true, Bool.and_false, Bool.or_true, Bool.true_or, Bool.or_false, Bool.false_or, Int.reduceLT, Int.reduceLE, Nat.reduceLT, x_ru0, x_ru1, c_ev, c_pa, g_ti, k_ti1, wipe2, h_law_mean, h_law_size, p_law_mean, p_law_size, b_law_off, n_law_off]
  obtain ⟨hL, hd, h1, h4, h60⟩ := goodC_d hg
  have e2 := (okF_parts hx.1).1
  have e1 := hx.2
  have ab := altC_b (L := las r) (by omega) r fun q hq => (hd q hq).1
  have a1 : (r.length : Int) * las r ≤ 4 * 60 := Int.mul_le_mul (by omega) (by omega) (by omega) (by decide)
  exact ⟨hg, cmz (n := 64) (m := 64) (Z.at64 (by omega)) (Z.at64 (by omega)) (by decide) (by decide), cmz (n := 64) (m := 64) (Z.at64 (by omega)) (Z.at64 (by omega)) (by decide) (by decide), cmz (n := 64) (m := 64) (Z.at64 (by omega)) (Z.at64 (by omega)) (by decide) (by decide), hq⟩
theorem s_chain_mean {Φ : PhiT} (h_added : Φ 13 = C_added) (h_times2 : Φ 159 = C_times2) (ds : List D) (Q : D → Prop) (E : Nat → Prop) (h : C_chain_mean ds Q E) : ds.length = 1 ∧ wpS Φ exName b_chain_mean (initE n_chain_mean ds) (endF Q E) := by
  obtain ⟨r, rfl, hg, hq⟩ := h
  refine ⟨rfl, ?_⟩
  simp only [wpS, wp, getV, getB, initE, endF, bindG, List.map_cons, List.map_nil, List.length_cons, List.length_nil, List.cons_append, List.nil_append, List.append_nil, List.getElem?_cons_zero, List.getElem?_cons_succ, List.set_cons_zero, List.set_cons_succ, partD, k_L, k_T, l_lenT, l_lenL, l_int, l_intB, l_abs, l_max2, l_max3, l_max4, l_min2, l_maxL, l_minL, l_sum, l_all, l_any, l_tupL, l_tupT, l_lisL, l_lisT, r_1, r_2, r_l, i_L, i_T, i_A, if_true, if_false, ite_true, ite_false, not_false_eq_true, not_true_eq_false, Bool.false_eq_true, ite_not, b_add, b_addT, b_addL, b_sub, b_subB, b_mul, b_mulT, b_mulL, b_fdiv, b_mod, b_pow, a_add, a_sub, a_mul, a_fdiv, c_lt, c_le, c_gt, c_ge, c_eqI, c_neI, c_eqB, c_neB, seqP, pysD, Option.map_some, List.replicate_zero, List.replicate_succ, Nat.zero_add, Nat.add_zero, Nat.reduceAdd, Nat.reduceSub, Nat.reduceLeDiff, decide_eq_true_eq, Bool.not_eq_true', decide_eq_false_iff_not, Nat.sub_self, Option.some.injEq, exists_eq_left', exists_eq_left, x_pick, f_pr, f_qd, f_prT, f_qdT, x_pr0, x_pr1, x_qd0, x_qd1, x_qd2, x_qd3, g_pr, g_qd, l_pr, l_qd, l_prs, l_ti, l_li, c_eq_pr, c_ne_pr, c_eq_qd, c_ne_qd, i_pr, i_qd, i_prs, i_ti, i_li, true_and, and_true, sl0, sl1, sl2, sl3, sl4, sl5, sl6, sl7, sl8, sl9, sl10, sl11, sl12, sl13, sl14, mketa, wipe1, shE_cons, shE_nil, shS_sh, shS_ow, shS_none, eq_self, and_self, decide_true, decide_false, reduceCtorEq, false_and, and_false, true_implies, false_implies, implies_true, not_true_eq_false, Bool.not_true, Bool.not_false, Bool.true_and, Bool.false_and, Bool.and_true, Bool.and_false, Bool.or_true, Bool.true_or, Bool.or_false, Bool.false_or, Int.reduceLT, Int.reduceLE, Nat.reduceLT, x_ru0, x_ru1, c_ev, c_pa, g_ti, k_ti1, wipe2, h_added, h_times2, p_added, p_times2, b_chain_mean, n_chain_mean]
  obtain ⟨hL, hd, h1, h4, h60⟩ := goodC_d hg
  show forW _ _ (List.map D.py (r.map PyData.int).reverse) _
  rw [← List.map_reverse, List.map_map]
  refine forW_fold (l := r.reverse) (f := D.py ∘ PyData.int) (b0 := ((0 : Int), (1 : Int))) (g := fun t p => addF (1, p) (mulF (-1, 1) t)) (fun t ρ => ∃ s2, ρ = [some (.sh (.py (ti r))), some (.sh (.py (pr t))), s2]) ⟨none, rfl⟩ ?_ ?_
  · rintro l1 x l2 ρ K hl ⟨s2, rfl⟩ hK
    have et := cm_fold l1
    have hs : r = l2.reverse ++ x :: l1.reverse := by
      have := congrArg List.reverse hl
      rw [List.reverse_reverse] at this
      rw [this]; simp
    have sub : ∀ q ∈ l1.reverse, q ∈ r := fun q hq => by rw [hs]; exact List.mem_append_right _ (List.mem_cons_of_mem _ hq)
    have xm : x ∈ r := by rw [hs]; exact List.mem_append_right _ (List.mem_cons_self ..)
    have ln : l1.reverse.length ≤ 4 := by
      have := congrArg List.length hs
      rw [List.length_append, List.length_cons] at this
      omega
    have zt := cm_z hg sub ln
    have t2 := (okF_parts (cmC_is hL.1 l1.reverse fun q hq => hd q (sub q hq)).1).1
    rw [← et] at zt t2
    generalize List.foldl (fun t p => addF (1, p) (mulF (-1, 1) t)) (0, 1) l1 = t at *
    have x1 := (hd x xm).1
    have x6 := h60 x xm
    rw [Function.comp_apply]
    simp only [wpS, wp, getV, getB, initE, endF, bindG, List.map_cons, List.map_nil, List.length_cons, List.length_nil, List.cons_append, List.nil_append, List.append_nil, List.getElem?_cons_zero, List.getElem?_cons_succ, List.set_cons_zero, List.set_cons_succ, partD, k_L, k_T, l_lenT, l_lenL, l_int, l_intB, l_abs, l_max2, l_max3, l_max4, l_min2, l_maxL, l_minL, l_sum, l_all, l_any, l_tupL, l_tupT, l_lisL, l_lisT, r_1, r_2, r_l, i_L, i_T, i_A, if_true, if_false, ite_true, ite_false, not_false_eq_true, not_true_eq_false, Bool.false_eq_true, ite_not, b_add, b_addT, b_addL, b_sub, b_subB, b_mul, b_mulT, b_mulL, b_fdiv, b_mod, b_pow, a_add, a_sub, a_mul, a_fdiv, c_lt, c_le, c_gt, c_ge, c_eqI, c_neI, c_eqB, c_neB, seqP, pysD, Option.map_some, List.replicate_zero, List.replicate_succ, Nat.zero_add, Nat.add_zero, Nat.reduceAdd, Nat.reduceSub, Nat.reduceLeDiff, decide_eq_true_eq, Bool.not_eq_true', decide_eq_false_iff_not, Nat.sub_self, Option.some.injEq, exists_eq_left', exists_eq_left, x_pick, f_pr, f_qd, f_prT, f_qdT, x_pr0, x_pr1, x_qd0, x_qd1, x_qd2, x_qd3, g_pr, g_qd, l_pr, l_qd, l_prs, l_ti, l_li, c_eq_pr, c_ne_pr, c_eq_qd, c_ne_qd, i_pr, i_qd, i_prs, i_ti, i_li, true_and, and_true, sl0, sl1, sl2, sl3, sl4, sl5, sl6, sl7, sl8, sl9, sl10, sl11, sl12, sl13, sl14, mketa, wipe1, shE_cons, shE_nil, shS_sh, shS_ow, shS_none, eq_self, and_self, decide_true, decide_false, reduceCtorEq, false_and, and_false, true_implies, false_implies, implies_true, not_true_eq_false, Bool.not_true, Bool.not_false, Bool.true_and, Bool.false_and, Bool.and_true, Bool.and_false, Bool.or_true, Bool.true_or, Bool.or_false, Bool.false_or, Int.reduceLT, Int.reduceLE, Nat.reduceLT, x_ru0, x_ru1, c_ev, c_pa, g_ti, k_ti1, wipe2, h_added, h_times2, p_added, p_times2]
    refine ⟨by decide, ⟨zt.1.mono (by decide), zt.2.mono (by decide)⟩, fun z => by omega, fun _ => ?_⟩
    have m2 : 1 ≤ (mulF (-1, 1) t).2 := (okF_parts (frac_ok (a := -1 * t.1) (b := 1 * t.2) (by omega))).1
    have zm : ZF 66 (mulF (-1, 1) t) := by
      have := ZF.frac (n := 66) (m := 65) (a := -1 * t.1) (b := 1 * t.2) ((Z.mul (n := 2) (by decide) zt.1).mono (by decide)) ((Z.mul (n := 1) (by decide) zt.2).mono (by decide))
      exact this
    have zx : Z 900 x := (Z.at64 (i := x) (by omega)).mono (by decide)
    have ne : x * (mulF (-1, 1) t).2 ≠ 0 := Int.mul_ne_zero (by omega) (by omega)
    exact ⟨⟨(by show Z 900 (1 : Int); decide), zx⟩, ⟨zm.1.mono (by decide), zm.2.mono (by decide)⟩, fun z => absurd z ne, fun _ => hK _ ⟨some (Sl.sh (D.I x)), rfl⟩⟩
  · rintro ρ ⟨s2, rfl⟩
    rw [cm_fold, List.reverse_reverse]
    exact hq
theorem pys_mapM : ∀ {l : List Int}, pysD (l.map D.I) = some (l.map PyData.int) := by
  intro l
  induction l with
  | nil => rfl
  | cons x l ih =>
    rw [List.map_cons]
    show (pysD (l.map D.I)).map (PyData.int x :: ·) = _
    rw [ih]; rfl
theorem pys_snocM {l : List Int} {x : Int} : pysD (l.map D.I ++ [.I x]) = some ((l ++ [x]).map PyData.int) := by
  have e : l.map D.I ++ [.I x] = (l ++ [x]).map D.I := by rw [List.map_append]; rfl
  rw [e, pys_mapM]
theorem c_isN {p : PyData} {Q : D → Prop} : cmpD .Is (.py p) (.py .none) Q = Q (.B (isNone p)) := rfl
/-- what the two ways share: the off of a row -/
theorem off_z {r : List Int} {e : Int × Int} (hg : goodC r) (he : exC e) (h2 : e.2 ≤ 1000) : ZF 64 (cmC r) ∧ 1 ≤ (cmC r).2 ∧ ZF 66 (mulF (-1, 1) e) ∧ 1 ≤ (mulF (-1, 1) e).2 ∧ ZF 64 e ∧ 1 ≤ e.2 ∧ ZF 64 (offP r e) ∧ Is (offP r e) (offL r e).1 (offL r e).2 := by
  obtain ⟨hL, hd, h1, h4, h60⟩ := goodC_d hg
  have e2 := (okF_parts he.1).1
  have e1 := he.2
  have ob := off_b hg he h2
  have is := off_is hL.1 hd he.1
  have ze : ZF 64 e := ⟨Z.at64 (by omega), Z.at64 (by omega)⟩
  refine ⟨cm_z hg (fun _ h => h) h4, (okF_parts (cmC_is hL.1 r hd).1).1, ?_, (okF_parts (frac_ok (a := -1 * e.1) (b := 1 * e.2) (by omega))).1, ze, e2, is.z (by omega) (by omega), is⟩
  exact ZF.frac (n := 66) (m := 65) (a := -1 * e.1) (b := 1 * e.2) ((Z.mul (n := 2) (by decide) ze.1).mono (by decide)) ((Z.mul (n := 1) (by decide) ze.2).mono (by decide))
def bD (e : Int × Int) : Option (List Int) → PyData
  | none => .none
  | some c => .tuple [pr (offP c e), ti c]
theorem one_all {n : Int} : ((List.range n.toNat).map fun (k : Nat) => PyData.tuple [.int (1 + (k : Int))]) = (chainsC n 1).map ti := by
  show _ = (([] : List (List Int)) ++ (List.range n.toNat).map fun (k : Nat) => [1 + (k : Int)]).map ti
  rw [List.nil_append, List.map_map]
  rfl
theorem ix_lasT {r : List Int} {Q : D → Prop} (h : r ≠ []) (hq : Q (.I (las r))) : ixD (.py (ti r)) (.py (.int (-1))) Q := ix_las h hq
theorem grow_out {n : Int} {r : List Int} : (((List.range (n - las r).toNat).filter fun (k : Nat) => decide ((las r + 1 + (k : Int)).fmod (las r) = 0)).map fun (k : Nat) => ti (r ++ [las r + 1 + (k : Int)])) = (growC n r).map ti := by
  unfold growC mulL
  rw [List.filter_map, List.map_map, List.map_map]
  rfl
theorem pow_b {i : Nat} (h : i ≤ 2) : 60 ^ (i + 1) ≤ 216000 := Nat.le_trans (Nat.pow_le_pow_right (by decide) (show i + 1 ≤ 3 by omega)) (by decide)
theorem s_law_chains {Φ : PhiT}  (ds : List D) (Q : D → Prop) (E : Nat → Prop) (h : C_law_chains ds Q E) : ds.length = 2 ∧ wpS Φ exName b_law_chains (initE n_law_chains ds) (endF Q E) := by
  obtain ⟨m, n, rfl, hm, hn, hq⟩ := h
  refine ⟨rfl, ?_⟩
  simp only [w_nil, w_asg, w_asgL, w_unp, w_par, w_par3, w_aug, w_app, w_ext, w_seti, w_frz, w_expr, w_ret, w_raise, w_brk, w_cont, w_pass, wp, getV, getB, initE, endF, bindG, List.map_cons, List.map_nil, List.length_cons, List.length_nil, List.cons_append, List.nil_append, List.append_nil, List.getElem?_cons_zero, List.getElem?_cons_succ, List.set_cons_zero, List.set_cons_succ, partD, k_L, k_T, l_lenT, l_lenL, l_int, l_intB, l_abs, l_max2, l_max3, l_max4, l_min2, l_maxL, l_minL, l_sum, l_all, l_any, l_tupL, l_tupT, l_lisL, l_lisT, r_1, r_2, r_l, i_L, i_T, i_A, if_true, if_false, ite_true, ite_false, not_false_eq_true, not_true_eq_false, Bool.false_eq_true, ite_not, b_add, b_addT, b_addL, b_sub, b_subB, b_mul, b_mulT, b_mulL, b_fdiv, b_mod, b_pow, a_add, a_sub, a_mul, a_fdiv, c_lt, c_le, c_gt, c_ge, c_eqI, c_neI, c_eqB, c_neB, seqP, pysD, Option.map_some, List.replicate_zero, List.replicate_succ, Nat.zero_add, Nat.add_zero, Nat.reduceAdd, Nat.reduceSub, Nat.reduceLeDiff, decide_eq_true_eq, Bool.not_eq_true', decide_eq_false_iff_not, Nat.sub_self, Option.some.injEq, exists_eq_left', exists_eq_left, x_pick, f_pr, f_qd, f_prT, f_qdT, x_pr0, x_pr1, x_qd0, x_qd1, x_qd2, x_qd3, g_pr, g_qd, l_pr, l_qd, l_prs, l_ti, l_li, c_eq_pr, c_ne_pr, c_eq_qd, c_ne_qd, i_pr, i_qd, i_prs, i_ti, i_li, true_and, and_true, sl0, sl1, sl2, sl3, sl4, sl5, sl6, sl7, sl8, sl9, sl10, sl11, sl12, sl13, sl14, mketa, wipe1, shE_cons, shE_nil, shS_sh, shS_ow, shS_none, eq_self, and_self, decide_true, decide_false, reduceCtorEq, false_and, and_false, true_implies, false_implies, implies_true, not_true_eq_false, Bool.not_true, Bool.not_false, Bool.true_and, Bool.false_and, Bool.and_true, Bool.and_false, Bool.or_true, Bool.true_or, Bool.or_false, Bool.false_or, Int.reduceLT, Int.reduceLE, Nat.reduceLT, x_ru0, x_ru1, c_ev, c_pa, g_ti, k_ti1, wipe2, b_law_chains, n_law_chains]
  refine ⟨by omega, ?_⟩
  rw [rng1]
  refine compW_map (f := fun (k : Nat) => D.I (1 + (k : Int))) (g := fun (k : Nat) => PyData.tuple [.int (1 + (k : Int))]) (Nat.le_trans (show (List.range n.toNat).length ≤ 60 by rw [List.length_range]; omega) (by decide)) (fun k hk K' hK' => ⟨_, rfl, by show 1 ≤ sizeLine; decide, hK'⟩) ?_
  rw [one_all, w_forq, w_for]
  simp only [w_nil, w_asg, w_asgL, w_unp, w_par, w_par3, w_aug, w_app, w_ext, w_seti, w_frz, w_expr, w_ret, w_raise, w_brk, w_cont, w_pass, wp, getV, getB, initE, endF, bindG, List.map_cons, List.map_nil, List.length_cons, List.length_nil, List.cons_append, List.nil_append, List.append_nil, List.getElem?_cons_zero, List.getElem?_cons_succ, List.set_cons_zero, List.set_cons_succ, partD, k_L, k_T, l_lenT, l_lenL, l_int, l_intB, l_abs, l_max2, l_max3, l_max4, l_min2, l_maxL, l_minL, l_sum, l_all, l_any, l_tupL, l_tupT, l_lisL, l_lisT, r_1, r_2, r_l, i_L, i_T, i_A, if_true, if_false, ite_true, ite_false, not_false_eq_true, not_true_eq_false, Bool.false_eq_true, ite_not, b_add, b_addT, b_addL, b_sub, b_subB, b_mul, b_mulT, b_mulL, b_fdiv, b_mod, b_pow, a_add, a_sub, a_mul, a_fdiv, c_lt, c_le, c_gt, c_ge, c_eqI, c_neI, c_eqB, c_neB, seqP, pysD, Option.map_some, List.replicate_zero, List.replicate_succ, Nat.zero_add, Nat.add_zero, Nat.reduceAdd, Nat.reduceSub, Nat.reduceLeDiff, decide_eq_true_eq, Bool.not_eq_true', decide_eq_false_iff_not, Nat.sub_self, Option.some.injEq, exists_eq_left', exists_eq_left, x_pick, f_pr, f_qd, f_prT, f_qdT, x_pr0, x_pr1, x_qd0, x_qd1, x_qd2, x_qd3, g_pr, g_qd, l_pr, l_qd, l_prs, l_ti, l_li, c_eq_pr, c_ne_pr, c_eq_qd, c_ne_qd, i_pr, i_qd, i_prs, i_ti, i_li, true_and, and_true, sl0, sl1, sl2, sl3, sl4, sl5, sl6, sl7, sl8, sl9, sl10, sl11, sl12, sl13, sl14, mketa, wipe1, shE_cons, shE_nil, shS_sh, shS_ow, shS_none, eq_self, and_self, decide_true, decide_false, reduceCtorEq, false_and, and_false, true_implies, false_implies, implies_true, not_true_eq_false, Bool.not_true, Bool.not_false, Bool.true_and, Bool.false_and, Bool.and_true, Bool.and_false, Bool.or_true, Bool.true_or, Bool.or_false, Bool.false_or, Int.reduceLT, Int.reduceLE, Nat.reduceLT, x_ru0, x_ru1, c_ev, c_pa, g_ti, k_ti1, wipe2]
  refine ⟨by omega, ?_⟩
  rw [i_rng, List.map_map]
  refine forW_rule (fun i ρ => ∃ s4 s5 s6 s7 s8 : Option Sl, ρ = [some (.sh (.I m)), some (.sh (.I n)), some (.sh (.L ((chainsC n (i + 1)).map ti))), some (.sh (.L ((levelC n i).map ti))), s4, s5, s6, s7, s8]) ⟨_, _, _, _, _, rfl⟩ ?_ ?_
  · rintro i d ρ K hd ⟨s4, s5, s6, s7, s8, rfl⟩ hK
    have hi : i < (m - 1 - 0).toNat := by
      have := (List.getElem?_eq_some_iff.mp hd).1
      rw [List.length_map, List.length_range] at this
      exact this
    have i2 : i ≤ 2 := by omega
    simp only [w_nil, w_asg, w_asgL, w_unp, w_par, w_par3, w_aug, w_app, w_ext, w_seti, w_frz, w_expr, w_ret, w_raise, w_brk, w_cont, w_pass, wp, getV, getB, initE, endF, bindG, List.map_cons, List.map_nil, List.length_cons, List.length_nil, List.cons_append, List.nil_append, List.append_nil, List.getElem?_cons_zero, List.getElem?_cons_succ, List.set_cons_zero, List.set_cons_succ, partD, k_L, k_T, l_lenT, l_lenL, l_int, l_intB, l_abs, l_max2, l_max3, l_max4, l_min2, l_maxL, l_minL, l_sum, l_all, l_any, l_tupL, l_tupT, l_lisL, l_lisT, r_1, r_2, r_l, i_L, i_T, i_A, if_true, if_false, ite_true, ite_false, not_false_eq_true, not_true_eq_false, Bool.false_eq_true, ite_not, b_add, b_addT, b_addL, b_sub, b_subB, b_mul, b_mulT, b_mulL, b_fdiv, b_mod, b_pow, a_add, a_sub, a_mul, a_fdiv, c_lt, c_le, c_gt, c_ge, c_eqI, c_neI, c_eqB, c_neB, seqP, pysD, Option.map_some, List.replicate_zero, List.replicate_succ, Nat.zero_add, Nat.add_zero, Nat.reduceAdd, Nat.reduceSub, Nat.reduceLeDiff, decide_eq_true_eq, Bool.not_eq_true', decide_eq_false_iff_not, Nat.sub_self, Option.some.injEq, exists_eq_left', exists_eq_left, x_pick, f_pr, f_qd, f_prT, f_qdT, x_pr0, x_pr1, x_qd0, x_qd1, x_qd2, x_qd3, g_pr, g_qd, l_pr, l_qd, l_prs, l_ti, l_li, c_eq_pr, c_ne_pr, c_eq_qd, c_ne_qd, i_pr, i_qd, i_prs, i_ti, i_li, true_and, and_true, sl0, sl1, sl2, sl3, sl4, sl5, sl6, sl7, sl8, sl9, sl10, sl11, sl12, sl13, sl14, mketa, wipe1, shE_cons, shE_nil, shS_sh, shS_ow, shS_none, eq_self, and_self, decide_true, decide_false, reduceCtorEq, false_and, and_false, true_implies, false_implies, implies_true, not_true_eq_false, Bool.not_true, Bool.not_false, Bool.true_and, Bool.false_and, Bool.and_true, Bool.and_false, Bool.or_true, Bool.true_or, Bool.or_false, Bool.false_or, Int.reduceLT, Int.reduceLE, Nat.reduceLT, x_ru0, x_ru1, c_ev, c_pa, g_ti, k_ti1, wipe2]
    rw [w_forq, w_for]
    simp only [w_nil, w_asg, w_asgL, w_unp, w_par, w_par3, w_aug, w_app, w_ext, w_seti, w_frz, w_expr, w_ret, w_raise, w_brk, w_cont, w_pass, wp, getV, getB, initE, endF, bindG, List.map_cons, List.map_nil, List.length_cons, List.length_nil, List.cons_append, List.nil_append, List.append_nil, List.getElem?_cons_zero, List.getElem?_cons_succ, List.set_cons_zero, List.set_cons_succ, partD, k_L, k_T, l_lenT, l_lenL, l_int, l_intB, l_abs, l_max2, l_max3, l_max4, l_min2, l_maxL, l_minL, l_sum, l_all, l_any, l_tupL, l_tupT, l_lisL, l_lisT, r_1, r_2, r_l, i_L, i_T, i_A, if_true, if_false, ite_true, ite_false, not_false_eq_true, not_true_eq_false, Bool.false_eq_true, ite_not, b_add, b_addT, b_addL, b_sub, b_subB, b_mul, b_mulT, b_mulL, b_fdiv, b_mod, b_pow, a_add, a_sub, a_mul, a_fdiv, c_lt, c_le, c_gt, c_ge, c_eqI, c_neI, c_eqB, c_neB, seqP, pysD, Option.map_some, List.replicate_zero, List.replicate_succ, Nat.zero_add, Nat.add_zero, Nat.reduceAdd, Nat.reduceSub, Nat.reduceLeDiff, decide_eq_true_eq, Bool.not_eq_true', decide_eq_false_iff_not, Nat.sub_self, Option.some.injEq, exists_eq_left', exists_eq_left, x_pick, f_pr, f_qd, f_prT, f_qdT, x_pr0, x_pr1, x_qd0, x_qd1, x_qd2, x_qd3, g_pr, g_qd, l_pr, l_qd, l_prs, l_ti, l_li, c_eq_pr, c_ne_pr, c_eq_qd, c_ne_qd, i_pr, i_qd, i_prs, i_ti, i_li, true_and, and_true, sl0, sl1, sl2, sl3, sl4, sl5, sl6, sl7, sl8, sl9, sl10, sl11, sl12, sl13, sl14, mketa, wipe1, shE_cons, shE_nil, shS_sh, shS_ow, shS_none, eq_self, and_self, decide_true, decide_false, reduceCtorEq, false_and, and_false, true_implies, false_implies, implies_true, not_true_eq_false, Bool.not_true, Bool.not_false, Bool.true_and, Bool.false_and, Bool.and_true, Bool.and_false, Bool.or_true, Bool.true_or, Bool.or_false, Bool.false_or, Int.reduceLT, Int.reduceLE, Nat.reduceLT, x_ru0, x_ru1, c_ev, c_pa, g_ti, k_ti1, wipe2]
    rw [List.map_map]
    refine forW_fold (l := levelC n i) (f := D.py ∘ ti) (b0 := ([] : List (List Int))) (g := fun b r => b ++ growC n r) (fun b ρ => ∃ s4 s6 s7 s8 : Option Sl, ρ = [some (.sh (.I m)), some (.sh (.I n)), some (.sh (.L ((chainsC n (i + 1)).map ti))), some (.sh (.L ((levelC n i).map ti))), s4, some (.ow (b.map ti)), s6, s7, s8]) ⟨_, _, _, _, rfl⟩ ?_ ?_
    · rintro l1 r l2 ρ K2 hl ⟨s4, s6, s7, s8, rfl⟩ hK2
      have hr : r ∈ levelC n i := by rw [hl]; exact List.mem_append_right _ (List.mem_cons_self ..)
      have g := level_good i r hr
      have l1' := g.las1
      have l6 := g.2.2.2
      have ll := level_len hn.2 i
      have pb := pow_b i2
      have ln1 : l1.length ≤ 216000 := by
        have := congrArg List.length hl
        rw [List.length_append] at this
        omega
      have bl := fold_len (g := fun b r => b ++ growC n r) (c := 60) (fun r => 1 ≤ las r) (fun b r h => by rw [List.length_append]; exact Nat.add_le_add_left (grow_len hn.2 h) _) l1 [] (fun x hx => (level_good i x (by rw [hl]; exact List.mem_append_left _ hx)).las1)
      rw [List.length_nil] at bl
      generalize List.foldl (fun b r => b ++ growC n r) [] l1 = b at *
      rw [Function.comp_apply]
      simp only [w_nil, w_asg, w_asgL, w_unp, w_par, w_par3, w_aug, w_app, w_ext, w_seti, w_frz, w_expr, w_ret, w_raise, w_brk, w_cont, w_pass, wp, getV, getB, initE, endF, bindG, List.map_cons, List.map_nil, List.length_cons, List.length_nil, List.cons_append, List.nil_append, List.append_nil, List.getElem?_cons_zero, List.getElem?_cons_succ, List.set_cons_zero, List.set_cons_succ, partD, k_L, k_T, l_lenT, l_lenL, l_int, l_intB, l_abs, l_max2, l_max3, l_max4, l_min2, l_maxL, l_minL, l_sum, l_all, l_any, l_tupL, l_tupT, l_lisL, l_lisT, r_1, r_2, r_l, i_L, i_T, i_A, if_true, if_false, ite_true, ite_false, not_false_eq_true, not_true_eq_false, Bool.false_eq_true, ite_not, b_add, b_addT, b_addL, b_sub, b_subB, b_mul, b_mulT, b_mulL, b_fdiv, b_mod, b_pow, a_add, a_sub, a_mul, a_fdiv, c_lt, c_le, c_gt, c_ge, c_eqI, c_neI, c_eqB, c_neB, seqP, pysD, Option.map_some, List.replicate_zero, List.replicate_succ, Nat.zero_add, Nat.add_zero, Nat.reduceAdd, Nat.reduceSub, Nat.reduceLeDiff, decide_eq_true_eq, Bool.not_eq_true', decide_eq_false_iff_not, Nat.sub_self, Option.some.injEq, exists_eq_left', exists_eq_left, x_pick, f_pr, f_qd, f_prT, f_qdT, x_pr0, x_pr1, x_qd0, x_qd1, x_qd2, x_qd3, g_pr, g_qd, l_pr, l_qd, l_prs, l_ti, l_li, c_eq_pr, c_ne_pr, c_eq_qd, c_ne_qd, i_pr, i_qd, i_prs, i_ti, i_li, true_and, and_true, sl0, sl1, sl2, sl3, sl4, sl5, sl6, sl7, sl8, sl9, sl10, sl11, sl12, sl13, sl14, mketa, wipe1, shE_cons, shE_nil, shS_sh, shS_ow, shS_none, eq_self, and_self, decide_true, decide_false, reduceCtorEq, false_and, and_false, true_implies, false_implies, implies_true, not_true_eq_false, Bool.not_true, Bool.not_false, Bool.true_and, Bool.false_and, Bool.and_true, Bool.and_false, Bool.or_true, Bool.true_or, Bool.or_false, Bool.false_or, Int.reduceLT, Int.reduceLE, Nat.reduceLT, x_ru0, x_ru1, c_ev, c_pa, g_ti, k_ti1, wipe2]
      refine ix_lasT g.ne ?_
      simp only [w_nil, w_asg, w_asgL, w_unp, w_par, w_par3, w_aug, w_app, w_ext, w_seti, w_frz, w_expr, w_ret, w_raise, w_brk, w_cont, w_pass, wp, getV, getB, initE, endF, bindG, List.map_cons, List.map_nil, List.length_cons, List.length_nil, List.cons_append, List.nil_append, List.append_nil, List.getElem?_cons_zero, List.getElem?_cons_succ, List.set_cons_zero, List.set_cons_succ, partD, k_L, k_T, l_lenT, l_lenL, l_int, l_intB, l_abs, l_max2, l_max3, l_max4, l_min2, l_maxL, l_minL, l_sum, l_all, l_any, l_tupL, l_tupT, l_lisL, l_lisT, r_1, r_2, r_l, i_L, i_T, i_A, if_true, if_false, ite_true, ite_false, not_false_eq_true, not_true_eq_false, Bool.false_eq_true, ite_not, b_add, b_addT, b_addL, b_sub, b_subB, b_mul, b_mulT, b_mulL, b_fdiv, b_mod, b_pow, a_add, a_sub, a_mul, a_fdiv, c_lt, c_le, c_gt, c_ge, c_eqI, c_neI, c_eqB, c_neB, seqP, pysD, Option.map_some, List.replicate_zero, List.replicate_succ, Nat.zero_add, Nat.add_zero, Nat.reduceAdd, Nat.reduceSub, Nat.reduceLeDiff, decide_eq_true_eq, Bool.not_eq_true', decide_eq_false_iff_not, Nat.sub_self, Option.some.injEq, exists_eq_left', exists_eq_left, x_pick, f_pr, f_qd, f_prT, f_qdT, x_pr0, x_pr1, x_qd0, x_qd1, x_qd2, x_qd3, g_pr, g_qd, l_pr, l_qd, l_prs, l_ti, l_li, c_eq_pr, c_ne_pr, c_eq_qd, c_ne_qd, i_pr, i_qd, i_prs, i_ti, i_li, true_and, and_true, sl0, sl1, sl2, sl3, sl4, sl5, sl6, sl7, sl8, sl9, sl10, sl11, sl12, sl13, sl14, mketa, wipe1, shE_cons, shE_nil, shS_sh, shS_ow, shS_none, eq_self, and_self, decide_true, decide_false, reduceCtorEq, false_and, and_false, true_implies, false_implies, implies_true, not_true_eq_false, Bool.not_true, Bool.not_false, Bool.true_and, Bool.false_and, Bool.and_true, Bool.and_false, Bool.or_true, Bool.true_or, Bool.or_false, Bool.false_or, Int.reduceLT, Int.reduceLE, Nat.reduceLT, x_ru0, x_ru1, c_ev, c_pa, g_ti, k_ti1, wipe2]
      refine ⟨by omega, ?_⟩
      unfold rangeD
      rw [show (n + 1 - (las r + 1)).toNat = (n - las r).toNat by omega]
      refine compW_filter (f := fun (k : Nat) => D.I (las r + 1 + (k : Int))) (p := fun (k : Nat) => decide ((las r + 1 + (k : Int)).fmod (las r) = 0)) (g := fun (k : Nat) => ti (r ++ [las r + 1 + (k : Int)])) (Nat.le_trans (show (List.range (n - las r).toNat).length ≤ 60 by rw [List.length_range]; omega) (by decide)) (fun k hk K' h1 h2 => ?_) ?_
      · have hk := List.mem_range.mp hk
        simp only [w_nil, w_asg, w_asgL, w_unp, w_par, w_par3, w_aug, w_app, w_ext, w_seti, w_frz, w_expr, w_ret, w_raise, w_brk, w_cont, w_pass, wp, getV, getB, initE, endF, bindG, List.map_cons, List.map_nil, List.length_cons, List.length_nil, List.cons_append, List.nil_append, List.append_nil, List.getElem?_cons_zero, List.getElem?_cons_succ, List.set_cons_zero, List.set_cons_succ, partD, k_L, k_T, l_lenT, l_lenL, l_int, l_intB, l_abs, l_max2, l_max3, l_max4, l_min2, l_maxL, l_minL, l_sum, l_all, l_any, l_tupL, l_tupT, l_lisL, l_lisT, r_1, r_2, r_l, i_L, i_T, i_A, if_true, if_false, ite_true, ite_false, not_false_eq_true, not_true_eq_false, Bool.false_eq_true, ite_not, b_add, b_addT, b_addL, b_sub, b_subB, b_mul, b_mulT, b_mulL, b_fdiv, b_mod, b_pow, a_add, a_sub, a_mul, a_fdiv, c_lt, c_le, c_gt, c_ge, c_eqI, c_neI, c_eqB, c_neB, seqP, pysD, Option.map_some, List.replicate_zero, List.replicate_succ, Nat.zero_add, Nat.add_zero, Nat.reduceAdd, Nat.reduceSub, Nat.reduceLeDiff, decide_eq_true_eq, Bool.not_eq_true', decide_eq_false_iff_not, Nat.sub_self, Option.some.injEq, exists_eq_left', exists_eq_left, x_pick, f_pr, f_qd, f_prT, f_qdT, x_pr0, x_pr1, x_qd0, x_qd1, x_qd2, x_qd3, g_pr, g_qd, l_pr, l_qd, l_prs, l_ti, l_li, c_eq_pr, c_ne_pr, c_eq_qd, c_ne_qd, i_pr, i_qd, i_prs, i_ti, i_li, true_and, and_true, sl0, sl1, sl2, sl3, sl4, sl5, sl6, sl7, sl8, sl9, sl10, sl11, sl12, sl13, sl14, mketa, wipe1, shE_cons, shE_nil, shS_sh, shS_ow, shS_none, eq_self, and_self, decide_true, decide_false, reduceCtorEq, false_and, and_false, true_implies, false_implies, implies_true, not_true_eq_false, Bool.not_true, Bool.not_false, Bool.true_and, Bool.false_and, Bool.and_true, Bool.and_false, Bool.or_true, Bool.true_or, Bool.or_false, Bool.false_or, Int.reduceLT, Int.reduceLE, Nat.reduceLT, x_ru0, x_ru1, c_ev, c_pa, g_ti, k_ti1, wipe2]
        refine ix_lasT g.ne ?_
        simp only [w_nil, w_asg, w_asgL, w_unp, w_par, w_par3, w_aug, w_app, w_ext, w_seti, w_frz, w_expr, w_ret, w_raise, w_brk, w_cont, w_pass, wp, getV, getB, initE, endF, bindG, List.map_cons, List.map_nil, List.length_cons, List.length_nil, List.cons_append, List.nil_append, List.append_nil, List.getElem?_cons_zero, List.getElem?_cons_succ, List.set_cons_zero, List.set_cons_succ, partD, k_L, k_T, l_lenT, l_lenL, l_int, l_intB, l_abs, l_max2, l_max3, l_max4, l_min2, l_maxL, l_minL, l_sum, l_all, l_any, l_tupL, l_tupT, l_lisL, l_lisT, r_1, r_2, r_l, i_L, i_T, i_A, if_true, if_false, ite_true, ite_false, not_false_eq_true, not_true_eq_false, Bool.false_eq_true, ite_not, b_add, b_addT, b_addL, b_sub, b_subB, b_mul, b_mulT, b_mulL, b_fdiv, b_mod, b_pow, a_add, a_sub, a_mul, a_fdiv, c_lt, c_le, c_gt, c_ge, c_eqI, c_neI, c_eqB, c_neB, seqP, pysD, Option.map_some, List.replicate_zero, List.replicate_succ, Nat.zero_add, Nat.add_zero, Nat.reduceAdd, Nat.reduceSub, Nat.reduceLeDiff, decide_eq_true_eq, Bool.not_eq_true', decide_eq_false_iff_not, Nat.sub_self, Option.some.injEq, exists_eq_left', exists_eq_left, x_pick, f_pr, f_qd, f_prT, f_qdT, x_pr0, x_pr1, x_qd0, x_qd1, x_qd2, x_qd3, g_pr, g_qd, l_pr, l_qd, l_prs, l_ti, l_li, c_eq_pr, c_ne_pr, c_eq_qd, c_ne_qd, i_pr, i_qd, i_prs, i_ti, i_li, true_and, and_true, sl0, sl1, sl2, sl3, sl4, sl5, sl6, sl7, sl8, sl9, sl10, sl11, sl12, sl13, sl14, mketa, wipe1, shE_cons, shE_nil, shS_sh, shS_ow, shS_none, eq_self, and_self, decide_true, decide_false, reduceCtorEq, false_and, and_false, true_implies, false_implies, implies_true, not_true_eq_false, Bool.not_true, Bool.not_false, Bool.true_and, Bool.false_and, Bool.and_true, Bool.and_false, Bool.or_true, Bool.true_or, Bool.or_false, Bool.false_or, Int.reduceLT, Int.reduceLE, Nat.reduceLT, x_ru0, x_ru1, c_ev, c_pa, g_ti, k_ti1, wipe2]
        refine ⟨by omega, ?_⟩
        by_cases z : (las r + 1 + (k : Int)).fmod (las r) = 0
        · rw [if_pos z]
          have gl := g.1
          have e : r.map PyData.int ++ [PyData.int (las r + 1 + (k : Int))] = (r ++ [las r + 1 + (k : Int)]).map PyData.int := by rw [List.map_append]; rfl
          rw [show D.py (ti r) = D.T (r.map PyData.int) from rfl, b_addT, e]
          exact ⟨Nat.le_trans (show _ ≤ 10 by rw [List.length_map]; show r.length + 1 ≤ 10; omega) (by decide), h1 (decide_eq_true z)⟩
        · rw [if_neg z]
          exact h2 (decide_eq_false z)
      · rw [grow_out]
        have gg := grow_len hn.2 l1'
        rw [← List.map_append]
        refine ⟨?_, hK2 _ ⟨_, _, _, _, rfl⟩⟩
        rw [List.length_map, List.length_map]
        exact Nat.le_trans (show _ ≤ 13000000 by omega) (by decide)
    · rintro ρ ⟨s4, s6, s7, s8, rfl⟩
      simp only [w_nil, w_asg, w_asgL, w_unp, w_par, w_par3, w_aug, w_app, w_ext, w_seti, w_frz, w_expr, w_ret, w_raise, w_brk, w_cont, w_pass, wp, getV, getB, initE, endF, bindG, List.map_cons, List.map_nil, List.length_cons, List.length_nil, List.cons_append, List.nil_append, List.append_nil, List.getElem?_cons_zero, List.getElem?_cons_succ, List.set_cons_zero, List.set_cons_succ, partD, k_L, k_T, l_lenT, l_lenL, l_int, l_intB, l_abs, l_max2, l_max3, l_max4, l_min2, l_maxL, l_minL, l_sum, l_all, l_any, l_tupL, l_tupT, l_lisL, l_lisT, r_1, r_2, r_l, i_L, i_T, i_A, if_true, if_false, ite_true, ite_false, not_false_eq_true, not_true_eq_false, Bool.false_eq_true, ite_not, b_add, b_addT, b_addL, b_sub, b_subB, b_mul, b_mulT, b_mulL, b_fdiv, b_mod, b_pow, a_add, a_sub, a_mul, a_fdiv, c_lt, c_le, c_gt, c_ge, c_eqI, c_neI, c_eqB, c_neB, seqP, pysD, Option.map_some, List.replicate_zero, List.replicate_succ, Nat.zero_add, Nat.add_zero, Nat.reduceAdd, Nat.reduceSub, Nat.reduceLeDiff, decide_eq_true_eq, Bool.not_eq_true', decide_eq_false_iff_not, Nat.sub_self, Option.some.injEq, exists_eq_left', exists_eq_left, x_pick, f_pr, f_qd, f_prT, f_qdT, x_pr0, x_pr1, x_qd0, x_qd1, x_qd2, x_qd3, g_pr, g_qd, l_pr, l_qd, l_prs, l_ti, l_li, c_eq_pr, c_ne_pr, c_eq_qd, c_ne_qd, i_pr, i_qd, i_prs, i_ti, i_li, true_and, and_true, sl0, sl1, sl2, sl3, sl4, sl5, sl6, sl7, sl8, sl9, sl10, sl11, sl12, sl13, sl14, mketa, wipe1, shE_cons, shE_nil, shS_sh, shS_ow, shS_none, eq_self, and_self, decide_true, decide_false, reduceCtorEq, false_and, and_false, true_implies, false_implies, implies_true, not_true_eq_false, Bool.not_true, Bool.not_false, Bool.true_and, Bool.false_and, Bool.and_true, Bool.and_false, Bool.or_true, Bool.true_or, Bool.or_false, Bool.false_or, Int.reduceLT, Int.reduceLE, Nat.reduceLT, x_ru0, x_ru1, c_ev, c_pa, g_ti, k_ti1, wipe2]
      have cl := chains_len4 hn.2 (m := i + 2) (by omega)
      have ce : (chainsC n (i + 1 + 1)).length = (chainsC n (i + 1)).length + (levelC n (i + 1)).length := List.length_append ..
      rw [flat_fold, List.nil_append]
      refine ⟨?_, ?_⟩
      · rw [List.length_map, List.length_map]
        show (chainsC n (i + 1)).length + (levelC n (i + 1)).length ≤ sizeLine
        rw [← ce]
        exact Nat.le_trans cl.1 (by decide)
      · rw [← List.map_append]
        exact hK _ ⟨_, _, _, _, _, rfl⟩
  · rintro ρ ⟨s4, s5, s6, s7, s8, rfl⟩
    simp only [w_nil, w_asg, w_asgL, w_unp, w_par, w_par3, w_aug, w_app, w_ext, w_seti, w_frz, w_expr, w_ret, w_raise, w_brk, w_cont, w_pass, wp, getV, getB, initE, endF, bindG, List.map_cons, List.map_nil, List.length_cons, List.length_nil, List.cons_append, List.nil_append, List.append_nil, List.getElem?_cons_zero, List.getElem?_cons_succ, List.set_cons_zero, List.set_cons_succ, partD, k_L, k_T, l_lenT, l_lenL, l_int, l_intB, l_abs, l_max2, l_max3, l_max4, l_min2, l_maxL, l_minL, l_sum, l_all, l_any, l_tupL, l_tupT, l_lisL, l_lisT, r_1, r_2, r_l, i_L, i_T, i_A, if_true, if_false, ite_true, ite_false, not_false_eq_true, not_true_eq_false, Bool.false_eq_true, ite_not, b_add, b_addT, b_addL, b_sub, b_subB, b_mul, b_mulT, b_mulL, b_fdiv, b_mod, b_pow, a_add, a_sub, a_mul, a_fdiv, c_lt, c_le, c_gt, c_ge, c_eqI, c_neI, c_eqB, c_neB, seqP, pysD, Option.map_some, List.replicate_zero, List.replicate_succ, Nat.zero_add, Nat.add_zero, Nat.reduceAdd, Nat.reduceSub, Nat.reduceLeDiff, decide_eq_true_eq, Bool.not_eq_true', decide_eq_false_iff_not, Nat.sub_self, Option.some.injEq, exists_eq_left', exists_eq_left, x_pick, f_pr, f_qd, f_prT, f_qdT, x_pr0, x_pr1, x_qd0, x_qd1, x_qd2, x_qd3, g_pr, g_qd, l_pr, l_qd, l_prs, l_ti, l_li, c_eq_pr, c_ne_pr, c_eq_qd, c_ne_qd, i_pr, i_qd, i_prs, i_ti, i_li, true_and, and_true, sl0, sl1, sl2, sl3, sl4, sl5, sl6, sl7, sl8, sl9, sl10, sl11, sl12, sl13, sl14, mketa, wipe1, shE_cons, shE_nil, shS_sh, shS_ow, shS_none, eq_self, and_self, decide_true, decide_false, reduceCtorEq, false_and, and_false, true_implies, false_implies, implies_true, not_true_eq_false, Bool.not_true, Bool.not_false, Bool.true_and, Bool.false_and, Bool.and_true, Bool.and_false, Bool.or_true, Bool.true_or, Bool.or_false, Bool.false_or, Int.reduceLT, Int.reduceLE, Nat.reduceLT, x_ru0, x_ru1, c_ev, c_pa, g_ti, k_ti1, wipe2]
    rw [List.length_map, List.length_range, show (m - 1 - 0).toNat + 1 = m.toNat by omega]
    exact hq
theorem s_chains {Φ : PhiT}  (ds : List D) (Q : D → Prop) (E : Nat → Prop) (h : C_chains ds Q E) : ds.length = 2 ∧ wpS Φ exName b_chains (initE n_chains ds) (endF Q E) := by
  obtain ⟨m, n, rfl, hm, hn, hq⟩ := h
  refine ⟨rfl, ?_⟩
  simp only [w_nil, w_asg, w_asgL, w_unp, w_par, w_par3, w_aug, w_app, w_ext, w_seti, w_frz, w_expr, w_ret, w_raise, w_brk, w_cont, w_pass, wp, getV, getB, initE, endF, bindG, List.map_cons, List.map_nil, List.length_cons, List.length_nil, List.cons_append, List.nil_append, List.append_nil, List.getElem?_cons_zero, List.getElem?_cons_succ, List.set_cons_zero, List.set_cons_succ, partD, k_L, k_T, l_lenT, l_lenL, l_int, l_intB, l_abs, l_max2, l_max3, l_max4, l_min2, l_maxL, l_minL, l_sum, l_all, l_any, l_tupL, l_tupT, l_lisL, l_lisT, r_1, r_2, r_l, i_L, i_T, i_A, if_true, if_false, ite_true, ite_false, not_false_eq_true, not_true_eq_false, Bool.false_eq_true, ite_not, b_add, b_addT, b_addL, b_sub, b_subB, b_mul, b_mulT, b_mulL, b_fdiv, b_mod, b_pow, a_add, a_sub, a_mul, a_fdiv, c_lt, c_le, c_gt, c_ge, c_eqI, c_neI, c_eqB, c_neB, seqP, pysD, Option.map_some, List.replicate_zero, List.replicate_succ, Nat.zero_add, Nat.add_zero, Nat.reduceAdd, Nat.reduceSub, Nat.reduceLeDiff, decide_eq_true_eq, Bool.not_eq_true', decide_eq_false_iff_not, Nat.sub_self, Option.some.injEq, exists_eq_left', exists_eq_left, x_pick, f_pr, f_qd, f_prT, f_qdT, x_pr0, x_pr1, x_qd0, x_qd1, x_qd2, x_qd3, g_pr, g_qd, l_pr, l_qd, l_prs, l_ti, l_li, c_eq_pr, c_ne_pr, c_eq_qd, c_ne_qd, i_pr, i_qd, i_prs, i_ti, i_li, true_and, and_true, sl0, sl1, sl2, sl3, sl4, sl5, sl6, sl7, sl8, sl9, sl10, sl11, sl12, sl13, sl14, mketa, wipe1, shE_cons, shE_nil, shS_sh, shS_ow, shS_none, eq_self, and_self, decide_true, decide_false, reduceCtorEq, false_and, and_false, true_implies, false_implies, implies_true, not_true_eq_false, Bool.not_true, Bool.not_false, Bool.true_and, Bool.false_and, Bool.and_true, Bool.and_false, Bool.or_true, Bool.true_or, Bool.or_false, Bool.false_or, Int.reduceLT, Int.reduceLE, Nat.reduceLT, x_ru0, x_ru1, c_ev, c_pa, g_ti, k_ti1, wipe2, b_chains, n_chains]
  refine ⟨by omega, ?_⟩
  rw [rng1]
  refine compW_map (f := fun (k : Nat) => D.I (1 + (k : Int))) (g := fun (k : Nat) => PyData.tuple [.int (1 + (k : Int))]) (Nat.le_trans (show (List.range n.toNat).length ≤ 60 by rw [List.length_range]; omega) (by decide)) (fun k hk K' hK' => ⟨_, rfl, by show 1 ≤ sizeLine; decide, hK'⟩) ?_
  rw [one_all, w_forq, w_for]
  simp only [w_nil, w_asg, w_asgL, w_unp, w_par, w_par3, w_aug, w_app, w_ext, w_seti, w_frz, w_expr, w_ret, w_raise, w_brk, w_cont, w_pass, wp, getV, getB, initE, endF, bindG, List.map_cons, List.map_nil, List.length_cons, List.length_nil, List.cons_append, List.nil_append, List.append_nil, List.getElem?_cons_zero, List.getElem?_cons_succ, List.set_cons_zero, List.set_cons_succ, partD, k_L, k_T, l_lenT, l_lenL, l_int, l_intB, l_abs, l_max2, l_max3, l_max4, l_min2, l_maxL, l_minL, l_sum, l_all, l_any, l_tupL, l_tupT, l_lisL, l_lisT, r_1, r_2, r_l, i_L, i_T, i_A, if_true, if_false, ite_true, ite_false, not_false_eq_true, not_true_eq_false, Bool.false_eq_true, ite_not, b_add, b_addT, b_addL, b_sub, b_subB, b_mul, b_mulT, b_mulL, b_fdiv, b_mod, b_pow, a_add, a_sub, a_mul, a_fdiv, c_lt, c_le, c_gt, c_ge, c_eqI, c_neI, c_eqB, c_neB, seqP, pysD, Option.map_some, List.replicate_zero, List.replicate_succ, Nat.zero_add, Nat.add_zero, Nat.reduceAdd, Nat.reduceSub, Nat.reduceLeDiff, decide_eq_true_eq, Bool.not_eq_true', decide_eq_false_iff_not, Nat.sub_self, Option.some.injEq, exists_eq_left', exists_eq_left, x_pick, f_pr, f_qd, f_prT, f_qdT, x_pr0, x_pr1, x_qd0, x_qd1, x_qd2, x_qd3, g_pr, g_qd, l_pr, l_qd, l_prs, l_ti, l_li, c_eq_pr, c_ne_pr, c_eq_qd, c_ne_qd, i_pr, i_qd, i_prs, i_ti, i_li, true_and, and_true, sl0, sl1, sl2, sl3, sl4, sl5, sl6, sl7, sl8, sl9, sl10, sl11, sl12, sl13, sl14, mketa, wipe1, shE_cons, shE_nil, shS_sh, shS_ow, shS_none, eq_self, and_self, decide_true, decide_false, reduceCtorEq, false_and, and_false, true_implies, false_implies, implies_true, not_true_eq_false, Bool.not_true, Bool.not_false, Bool.true_and, Bool.false_and, Bool.and_true, Bool.and_false, Bool.or_true, Bool.true_or, Bool.or_false, Bool.false_or, Int.reduceLT, Int.reduceLE, Nat.reduceLT, x_ru0, x_ru1, c_ev, c_pa, g_ti, k_ti1, wipe2]
  refine ⟨by omega, ?_⟩
  rw [i_rng, List.map_map]
  refine forW_rule (fun i ρ => ∃ s4 s5 s6 s7 : Option Sl, ρ = [some (.sh (.I m)), some (.sh (.I n)), some (.sh (.L ((chainsC n (i + 1)).map ti))), some (.sh (.L ((levelC n i).map ti))), s4, s5, s6, s7]) ⟨_, _, _, _, rfl⟩ ?_ ?_
  · rintro i d ρ K hd ⟨s4, s5, s6, s7, rfl⟩ hK
    have hi : i < (m - 1 - 0).toNat := by
      have := (List.getElem?_eq_some_iff.mp hd).1
      rw [List.length_map, List.length_range] at this
      exact this
    have i2 : i ≤ 2 := by omega
    simp only [w_nil, w_asg, w_asgL, w_unp, w_par, w_par3, w_aug, w_app, w_ext, w_seti, w_frz, w_expr, w_ret, w_raise, w_brk, w_cont, w_pass, wp, getV, getB, initE, endF, bindG, List.map_cons, List.map_nil, List.length_cons, List.length_nil, List.cons_append, List.nil_append, List.append_nil, List.getElem?_cons_zero, List.getElem?_cons_succ, List.set_cons_zero, List.set_cons_succ, partD, k_L, k_T, l_lenT, l_lenL, l_int, l_intB, l_abs, l_max2, l_max3, l_max4, l_min2, l_maxL, l_minL, l_sum, l_all, l_any, l_tupL, l_tupT, l_lisL, l_lisT, r_1, r_2, r_l, i_L, i_T, i_A, if_true, if_false, ite_true, ite_false, not_false_eq_true, not_true_eq_false, Bool.false_eq_true, ite_not, b_add, b_addT, b_addL, b_sub, b_subB, b_mul, b_mulT, b_mulL, b_fdiv, b_mod, b_pow, a_add, a_sub, a_mul, a_fdiv, c_lt, c_le, c_gt, c_ge, c_eqI, c_neI, c_eqB, c_neB, seqP, pysD, Option.map_some, List.replicate_zero, List.replicate_succ, Nat.zero_add, Nat.add_zero, Nat.reduceAdd, Nat.reduceSub, Nat.reduceLeDiff, decide_eq_true_eq, Bool.not_eq_true', decide_eq_false_iff_not, Nat.sub_self, Option.some.injEq, exists_eq_left', exists_eq_left, x_pick, f_pr, f_qd, f_prT, f_qdT, x_pr0, x_pr1, x_qd0, x_qd1, x_qd2, x_qd3, g_pr, g_qd, l_pr, l_qd, l_prs, l_ti, l_li, c_eq_pr, c_ne_pr, c_eq_qd, c_ne_qd, i_pr, i_qd, i_prs, i_ti, i_li, true_and, and_true, sl0, sl1, sl2, sl3, sl4, sl5, sl6, sl7, sl8, sl9, sl10, sl11, sl12, sl13, sl14, mketa, wipe1, shE_cons, shE_nil, shS_sh, shS_ow, shS_none, eq_self, and_self, decide_true, decide_false, reduceCtorEq, false_and, and_false, true_implies, false_implies, implies_true, not_true_eq_false, Bool.not_true, Bool.not_false, Bool.true_and, Bool.false_and, Bool.and_true, Bool.and_false, Bool.or_true, Bool.true_or, Bool.or_false, Bool.false_or, Int.reduceLT, Int.reduceLE, Nat.reduceLT, x_ru0, x_ru1, c_ev, c_pa, g_ti, k_ti1, wipe2]
    rw [List.map_map]
    refine compA_flat (l := levelC n i) (f := D.py ∘ ti) (g := fun r => (growC n r).map ti) (fun l1 r l2 hl K' hK' => ?_) ?_
    · have hr : r ∈ levelC n i := by rw [hl]; exact List.mem_append_right _ (List.mem_cons_self ..)
      have g := level_good i r hr
      have l1' := g.las1
      have l6 := g.2.2.2
      have ll := level_len hn.2 i
      have pb := pow_b i2
      have ln1 : l1.length ≤ 216000 := by
        have := congrArg List.length hl
        rw [List.length_append] at this
        omega
      have bl := flat_len (l := l1) (g := fun r => (growC n r).map ti) (c := 60) (fun x hx => by
        rw [List.length_map]
        exact grow_len hn.2 (level_good i x (by rw [hl]; exact List.mem_append_left _ hx)).las1)
      have gg := grow_len hn.2 l1'
      generalize List.flatMap (fun r => (growC n r).map ti) l1 = acc at *
      rw [Function.comp_apply]
      refine ix_lasT g.ne ?_
      simp only [w_nil, w_asg, w_asgL, w_unp, w_par, w_par3, w_aug, w_app, w_ext, w_seti, w_frz, w_expr, w_ret, w_raise, w_brk, w_cont, w_pass, wp, getV, getB, initE, endF, bindG, List.map_cons, List.map_nil, List.length_cons, List.length_nil, List.cons_append, List.nil_append, List.append_nil, List.getElem?_cons_zero, List.getElem?_cons_succ, List.set_cons_zero, List.set_cons_succ, partD, k_L, k_T, l_lenT, l_lenL, l_int, l_intB, l_abs, l_max2, l_max3, l_max4, l_min2, l_maxL, l_minL, l_sum, l_all, l_any, l_tupL, l_tupT, l_lisL, l_lisT, r_1, r_2, r_l, i_L, i_T, i_A, if_true, if_false, ite_true, ite_false, not_false_eq_true, not_true_eq_false, Bool.false_eq_true, ite_not, b_add, b_addT, b_addL, b_sub, b_subB, b_mul, b_mulT, b_mulL, b_fdiv, b_mod, b_pow, a_add, a_sub, a_mul, a_fdiv, c_lt, c_le, c_gt, c_ge, c_eqI, c_neI, c_eqB, c_neB, seqP, pysD, Option.map_some, List.replicate_zero, List.replicate_succ, Nat.zero_add, Nat.add_zero, Nat.reduceAdd, Nat.reduceSub, Nat.reduceLeDiff, decide_eq_true_eq, Bool.not_eq_true', decide_eq_false_iff_not, Nat.sub_self, Option.some.injEq, exists_eq_left', exists_eq_left, x_pick, f_pr, f_qd, f_prT, f_qdT, x_pr0, x_pr1, x_qd0, x_qd1, x_qd2, x_qd3, g_pr, g_qd, l_pr, l_qd, l_prs, l_ti, l_li, c_eq_pr, c_ne_pr, c_eq_qd, c_ne_qd, i_pr, i_qd, i_prs, i_ti, i_li, true_and, and_true, sl0, sl1, sl2, sl3, sl4, sl5, sl6, sl7, sl8, sl9, sl10, sl11, sl12, sl13, sl14, mketa, wipe1, shE_cons, shE_nil, shS_sh, shS_ow, shS_none, eq_self, and_self, decide_true, decide_false, reduceCtorEq, false_and, and_false, true_implies, false_implies, implies_true, not_true_eq_false, Bool.not_true, Bool.not_false, Bool.true_and, Bool.false_and, Bool.and_true, Bool.and_false, Bool.or_true, Bool.true_or, Bool.or_false, Bool.false_or, Int.reduceLT, Int.reduceLE, Nat.reduceLT, x_ru0, x_ru1, c_ev, c_pa, g_ti, k_ti1, wipe2]
      refine ⟨cmz (n := 64) (m := 64) (by decide) (Z.at64 (by omega)) (by decide) (by decide), ix_lasT g.ne ?_⟩
      refine ⟨by omega, ?_⟩
      have em : (range3D (2 * las r) (n + 1) (las r)) = (mulL n (las r)).map D.I := by
        have := mul_alike n.toNat (by omega) (las r - 1).toNat (by omega)
        rw [show ((n.toNat : Nat) : Int) = n by omega, show 1 + (((las r - 1).toNat : Nat) : Int) = las r by omega] at this
        rw [← this]
        unfold mulP range3D
        rw [List.map_map]
        rfl
      simp only [w_nil, w_asg, w_asgL, w_unp, w_par, w_par3, w_aug, w_app, w_ext, w_seti, w_frz, w_expr, w_ret, w_raise, w_brk, w_cont, w_pass, wp, getV, getB, initE, endF, bindG, List.map_cons, List.map_nil, List.length_cons, List.length_nil, List.cons_append, List.nil_append, List.append_nil, List.getElem?_cons_zero, List.getElem?_cons_succ, List.set_cons_zero, List.set_cons_succ, partD, k_L, k_T, l_lenT, l_lenL, l_int, l_intB, l_abs, l_max2, l_max3, l_max4, l_min2, l_maxL, l_minL, l_sum, l_all, l_any, l_tupL, l_tupT, l_lisL, l_lisT, r_1, r_2, r_l, i_L, i_T, i_A, if_true, if_false, ite_true, ite_false, not_false_eq_true, not_true_eq_false, Bool.false_eq_true, ite_not, b_add, b_addT, b_addL, b_sub, b_subB, b_mul, b_mulT, b_mulL, b_fdiv, b_mod, b_pow, a_add, a_sub, a_mul, a_fdiv, c_lt, c_le, c_gt, c_ge, c_eqI, c_neI, c_eqB, c_neB, seqP, pysD, Option.map_some, List.replicate_zero, List.replicate_succ, Nat.zero_add, Nat.add_zero, Nat.reduceAdd, Nat.reduceSub, Nat.reduceLeDiff, decide_eq_true_eq, Bool.not_eq_true', decide_eq_false_iff_not, Nat.sub_self, Option.some.injEq, exists_eq_left', exists_eq_left, x_pick, f_pr, f_qd, f_prT, f_qdT, x_pr0, x_pr1, x_qd0, x_qd1, x_qd2, x_qd3, g_pr, g_qd, l_pr, l_qd, l_prs, l_ti, l_li, c_eq_pr, c_ne_pr, c_eq_qd, c_ne_qd, i_pr, i_qd, i_prs, i_ti, i_li, true_and, and_true, sl0, sl1, sl2, sl3, sl4, sl5, sl6, sl7, sl8, sl9, sl10, sl11, sl12, sl13, sl14, mketa, wipe1, shE_cons, shE_nil, shS_sh, shS_ow, shS_none, eq_self, and_self, decide_true, decide_false, reduceCtorEq, false_and, and_false, true_implies, false_implies, implies_true, not_true_eq_false, Bool.not_true, Bool.not_false, Bool.true_and, Bool.false_and, Bool.and_true, Bool.and_false, Bool.or_true, Bool.true_or, Bool.or_false, Bool.false_or, Int.reduceLT, Int.reduceLE, Nat.reduceLT, x_ru0, x_ru1, c_ev, c_pa, g_ti, k_ti1, wipe2, em]
      have ge : (growC n r).map ti = (mulL n (las r)).map fun m => ti (r ++ [m]) := by unfold growC; rw [List.map_map]; rfl
      rw [ge] at hK'
      refine compW_from (g := fun m => ti (r ++ [m])) ?_ (fun x hx K'' hK'' => ?_) hK'
      · have : (mulL n (las r)).length = (growC n r).length := by unfold growC; rw [List.length_map]
        rw [this]
        exact Nat.le_trans (show _ ≤ 13000000 by omega) (by decide)
      · have gl := g.1
        refine ⟨(r ++ [x]).map PyData.int, ?_, Nat.le_trans (show _ ≤ 10 by rw [List.length_map, List.length_append]; show r.length + 1 ≤ 10; omega) (by decide), hK''⟩
        exact pys_snocM
    · have cl := chains_len4 hn.2 (m := i + 2) (by omega)
      have ce : (chainsC n (i + 1 + 1)).length = (chainsC n (i + 1)).length + (levelC n (i + 1)).length := List.length_append ..
      have fe : (levelC n i).flatMap (fun r => (growC n r).map ti) = (levelC n (i + 1)).map ti := by
        show _ = ((levelC n i).flatMap (growC n)).map ti
        rw [List.map_flatMap]
      rw [fe]
      refine ⟨?_, ?_⟩
      · rw [List.length_map, List.length_map, ← ce]
        exact Nat.le_trans cl.1 (by decide)
      · rw [← List.map_append]
        exact hK _ ⟨_, _, _, _, rfl⟩
  · rintro ρ ⟨s4, s5, s6, s7, rfl⟩
    simp only [w_nil, w_asg, w_asgL, w_unp, w_par, w_par3, w_aug, w_app, w_ext, w_seti, w_frz, w_expr, w_ret, w_raise, w_brk, w_cont, w_pass, wp, getV, getB, initE, endF, bindG, List.map_cons, List.map_nil, List.length_cons, List.length_nil, List.cons_append, List.nil_append, List.append_nil, List.getElem?_cons_zero, List.getElem?_cons_succ, List.set_cons_zero, List.set_cons_succ, partD, k_L, k_T, l_lenT, l_lenL, l_int, l_intB, l_abs, l_max2, l_max3, l_max4, l_min2, l_maxL, l_minL, l_sum, l_all, l_any, l_tupL, l_tupT, l_lisL, l_lisT, r_1, r_2, r_l, i_L, i_T, i_A, if_true, if_false, ite_true, ite_false, not_false_eq_true, not_true_eq_false, Bool.false_eq_true, ite_not, b_add, b_addT, b_addL, b_sub, b_subB, b_mul, b_mulT, b_mulL, b_fdiv, b_mod, b_pow, a_add, a_sub, a_mul, a_fdiv, c_lt, c_le, c_gt, c_ge, c_eqI, c_neI, c_eqB, c_neB, seqP, pysD, Option.map_some, List.replicate_zero, List.replicate_succ, Nat.zero_add, Nat.add_zero, Nat.reduceAdd, Nat.reduceSub, Nat.reduceLeDiff, decide_eq_true_eq, Bool.not_eq_true', decide_eq_false_iff_not, Nat.sub_self, Option.some.injEq, exists_eq_left', exists_eq_left, x_pick, f_pr, f_qd, f_prT, f_qdT, x_pr0, x_pr1, x_qd0, x_qd1, x_qd2, x_qd3, g_pr, g_qd, l_pr, l_qd, l_prs, l_ti, l_li, c_eq_pr, c_ne_pr, c_eq_qd, c_ne_qd, i_pr, i_qd, i_prs, i_ti, i_li, true_and, and_true, sl0, sl1, sl2, sl3, sl4, sl5, sl6, sl7, sl8, sl9, sl10, sl11, sl12, sl13, sl14, mketa, wipe1, shE_cons, shE_nil, shS_sh, shS_ow, shS_none, eq_self, and_self, decide_true, decide_false, reduceCtorEq, false_and, and_false, true_implies, false_implies, implies_true, not_true_eq_false, Bool.not_true, Bool.not_false, Bool.true_and, Bool.false_and, Bool.and_true, Bool.and_false, Bool.or_true, Bool.true_or, Bool.or_false, Bool.false_or, Int.reduceLT, Int.reduceLE, Nat.reduceLT, x_ru0, x_ru1, c_ev, c_pa, g_ti, k_ti1, wipe2]
    rw [List.length_map, List.length_range, show (m - 1 - 0).toNat + 1 = m.toNat by omega]
    exact hq
theorem s_near_parts {Φ : PhiT} (h_check_excess : Φ 157 = C_check_excess) (h_chains : Φ 158 = C_chains) (h_is_fraction : Φ 15 = C_is_fraction) (h_less : Φ 27 = C_less) (h_size : Φ 25 = C_size) (h_added : Φ 13 = C_added) (h_chain_mean : Φ 160 = C_chain_mean) (h_times2 : Φ 159 = C_times2) (ds : List D) (Q : D → Prop) (E : Nat → Prop) (h : C_near_parts ds Q E) : ds.length = 3 ∧ wpS Φ exName b_near_parts (initE n_near_parts ds) (endF Q E) := by
  obtain ⟨e, b, n, rfl, he, hq⟩ := h
  refine ⟨rfl, ?_⟩
  simp only [wpS, wp, getV, getB, initE, endF, bindG, List.map_cons, List.map_nil, List.length_cons, List.length_nil, List.cons_append, List.nil_append, List.append_nil, List.getElem?_cons_zero, List.getElem?_cons_succ, List.set_cons_zero, List.set_cons_succ, partD, k_L, k_T, l_lenT, l_lenL, l_int, l_intB, l_abs, l_max2, l_max3, l_max4, l_min2, l_maxL, l_minL, l_sum, l_all, l_any, l_tupL, l_tupT, l_lisL, l_lisT, r_1, r_2, r_l, i_L, i_T, i_A, if_true, if_false, ite_true, ite_false, not_false_eq_true, not_true_eq_false, Bool.false_eq_true, ite_not, b_add, b_addT, b_addL, b_sub, b_subB, b_mul, b_mulT, b_mulL, b_fdiv, b_mod, b_pow, a_add, a_sub, a_mul, a_fdiv, c_lt, c_le, c_gt, c_ge, c_eqI, c_neI, c_eqB, c_neB, seqP, pysD, Option.map_some, List.replicate_zero, List.replicate_succ, Nat.zero_add, Nat.add_zero, Nat.reduceAdd, Nat.reduceSub, Nat.reduceLeDiff, decide_eq_true_eq, Bool.not_eq_true', decide_eq_false_iff_not, Nat.sub_self, Option.some.injEq, exists_eq_left', exists_eq_left, x_pick, f_pr, f_qd, f_prT, f_qdT, x_pr0, x_pr1, x_qd0, x_qd1, x_qd2, x_qd3, g_pr, g_qd, l_pr, l_qd, l_prs, l_ti, l_li, c_eq_pr, c_ne_pr, c_eq_qd, c_ne_qd, i_pr, i_qd, i_prs, i_ti, i_li, true_and, and_true, sl0, sl1, sl2, sl3, sl4, sl5, sl6, sl7, sl8, sl9, sl10, sl11, sl12, sl13, sl14, mketa, wipe1, shE_cons, shE_nil, shS_sh, shS_ow, shS_none, eq_self, and_self, decide_true, decide_false, reduceCtorEq, false_and, and_false, true_implies, false_implies, implies_true, not_true_eq_false, Bool.not_true, Bool.not_false, Bool.true_and, Bool.false_and, Bool.and_true, Bool.and_false, Bool.or_true, Bool.true_or, Bool.or_false, Bool.false_or, Int.reduceLT, Int.reduceLE, Nat.reduceLT, x_ru0, x_ru1, c_ev, c_pa, g_ti, k_ti1, wipe2, h_check_excess, h_chains, h_is_fraction, h_less, h_size, h_added, h_chain_mean, h_times2, p_check_excess, p_chains, p_is_fraction, p_less, p_size, p_added, p_chain_mean, p_times2, b_near_parts, n_near_parts]
  refine ⟨he, fun hx => ?_⟩
  obtain ⟨q1, q2⟩ := hq hx
  cases hb : okF b with
  | false =>
    rw [if_pos rfl]
    exact q1 fun z => by rw [hb] at z; cases z.1
  | true =>
    rw [if_neg (by decide)]
    split
    · rename_i g
      exact q1 fun z => by omega
    · rename_i g
      split
      · rename_i g1
        split
        · rename_i g2
          obtain ⟨e2, zb, q3, q4⟩ := q2 ⟨hb, by omega, g1, g2⟩
          refine ⟨⟨g1, g2⟩, ?_⟩
          rw [List.map_map, show Int.toNat 4 = 4 from rfl]
          refine forW_fold (l := chainsC n 4) (f := D.py ∘ ti) (b0 := ([] : List (List Int))) (g := fun c x => c ++ [x]) (fun c ρ => (c.filter fun r => !decide (b.1 * (offL r e).2 < (offL r e).1 * b.2)) = [] ∧ ∃ s3 : Option Sl, ρ = [some (.sh (.py (pr e))), some (.sh (.py (pr b))), some (.sh (.I n)), s3]) ⟨rfl, _, rfl⟩ ?_ ?_
          · rintro l1 x l2 ρ K hl ⟨hf, s3, rfl⟩ hK
            rw [snoc_fold, List.nil_append] at hf hK
            have hxm : x ∈ chainsC n 4 := by rw [hl]; exact List.mem_append_right _ (List.mem_cons_self ..)
            have hg := chains_goodC g2 (Nat.le_refl 4) hxm
            obtain ⟨z1, z2, z3, z4, z5, z6, z7, z8⟩ := off_z hg hx e2
            have ob := off_b hg hx e2
            have b2 := (okF_parts hb).1
            have lt := Is.lt (f := b) (g := offP x e) ⟨hb, rfl⟩ z8 (by omega) (by omega)
            rw [Function.comp_apply]
            simp only [wpS, wp, getV, getB, initE, endF, bindG, List.map_cons, List.map_nil, List.length_cons, List.length_nil, List.cons_append, List.nil_append, List.append_nil, List.getElem?_cons_zero, List.getElem?_cons_succ, List.set_cons_zero, List.set_cons_succ, partD, k_L, k_T, l_lenT, l_lenL, l_int, l_intB, l_abs, l_max2, l_max3, l_max4, l_min2, l_maxL, l_minL, l_sum, l_all, l_any, l_tupL, l_tupT, l_lisL, l_lisT, r_1, r_2, r_l, i_L, i_T, i_A, if_true, if_false, ite_true, ite_false, not_false_eq_true, not_true_eq_false, Bool.false_eq_true, ite_not, b_add, b_addT, b_addL, b_sub, b_subB, b_mul, b_mulT, b_mulL, b_fdiv, b_mod, b_pow, a_add, a_sub, a_mul, a_fdiv, c_lt, c_le, c_gt, c_ge, c_eqI, c_neI, c_eqB, c_neB, seqP, pysD, Option.map_some, List.replicate_zero, List.replicate_succ, Nat.zero_add, Nat.add_zero, Nat.reduceAdd, Nat.reduceSub, Nat.reduceLeDiff, decide_eq_true_eq, Bool.not_eq_true', decide_eq_false_iff_not, Nat.sub_self, Option.some.injEq, exists_eq_left', exists_eq_left, x_pick, f_pr, f_qd, f_prT, f_qdT, x_pr0, x_pr1, x_qd0, x_qd1, x_qd2, x_qd3, g_pr, g_qd, l_pr, l_qd, l_prs, l_ti, l_li, c_eq_pr, c_ne_pr, c_eq_qd, c_ne_qd, i_pr, i_qd, i_prs, i_ti, i_li, true_and, and_true, sl0, sl1, sl2, sl3, sl4, sl5, sl6, sl7, sl8, sl9, sl10, sl11, sl12, sl13, sl14, mketa, wipe1, shE_cons, shE_nil, shS_sh, shS_ow, shS_none, eq_self, and_self, decide_true, decide_false, reduceCtorEq, false_and, and_false, true_implies, false_implies, implies_true, not_true_eq_false, Bool.not_true, Bool.not_false, Bool.true_and, Bool.false_and, Bool.and_true, Bool.and_false, Bool.or_true, Bool.true_or, Bool.or_false, Bool.false_or, Int.reduceLT, Int.reduceLE, Nat.reduceLT, x_ru0, x_ru1, c_ev, c_pa, g_ti, k_ti1, wipe2, h_check_excess, h_chains, h_is_fraction, h_less, h_size, h_added, h_chain_mean, h_times2, p_check_excess, p_chains, p_is_fraction, p_less, p_size, p_added, p_chain_mean, p_times2]
            refine ⟨hg, by decide, ⟨z5.1.mono (by decide), z5.2.mono (by decide)⟩, fun z => by omega, fun _ => ⟨⟨z1.1.mono (by decide), z1.2.mono (by decide)⟩, ⟨z3.1.mono (by decide), z3.2.mono (by decide)⟩, fun z => absurd z (Int.mul_ne_zero (by omega) (by omega)), fun _ => ?_⟩⟩
            refine ⟨⟨zb.1.mono (by decide), zb.2.mono (by decide)⟩, ⟨z7.1.mono (by decide), z7.2.mono (by decide)⟩, ?_⟩
            rw [show absF (addF (cmC x) (mulF (-1, 1) e)) = offP x e from rfl]
            by_cases c : b.1 * (offL x e).2 < (offL x e).1 * b.2
            · rw [if_pos (show ltF b (offP x e) from lt.mpr c)]
              refine hK _ ⟨?_, some (Sl.sh (D.py (ti x))), rfl⟩
              rw [List.filter_append, hf, List.nil_append, List.filter_cons_of_neg (by rw [decide_eq_true c]; decide), List.filter_nil]
            · rw [if_neg (show ¬ ltF b (offP x e) from fun z => c (lt.mp z))]
              refine q3 x (l2.filter fun r => !decide (b.1 * (offL r e).2 < (offL r e).1 * b.2)) ?_
              rw [hl, List.filter_append, hf, List.nil_append, List.filter_cons_of_pos (by rw [decide_eq_false c]; rfl)]
          · rintro ρ ⟨hf, s3, rfl⟩
            rw [snoc_fold, List.nil_append] at hf
            exact q4 hf
        · rename_i g2
          exact q1 fun z => by omega
      · rename_i g1
        exact q1 fun z => by omega
theorem s_best_parts {Φ : PhiT} (h_check_excess : Φ 157 = C_check_excess) (h_chains : Φ 158 = C_chains) (h_size : Φ 25 = C_size) (h_added : Φ 13 = C_added) (h_less : Φ 27 = C_less) (h_chain_mean : Φ 160 = C_chain_mean) (h_times2 : Φ 159 = C_times2) (ds : List D) (Q : D → Prop) (E : Nat → Prop) (h : C_best_parts ds Q E) : ds.length = 3 ∧ wpS Φ exName b_best_parts (initE n_best_parts ds) (endF Q E) := by
  obtain ⟨e, m, n, rfl, he, hq⟩ := h
  refine ⟨rfl, ?_⟩
  simp only [wpS, wp, getV, getB, initE, endF, bindG, List.map_cons, List.map_nil, List.length_cons, List.length_nil, List.cons_append, List.nil_append, List.append_nil, List.getElem?_cons_zero, List.getElem?_cons_succ, List.set_cons_zero, List.set_cons_succ, partD, k_L, k_T, l_lenT, l_lenL, l_int, l_intB, l_abs, l_max2, l_max3, l_max4, l_min2, l_maxL, l_minL, l_sum, l_all, l_any, l_tupL, l_tupT, l_lisL, l_lisT, r_1, r_2, r_l, i_L, i_T, i_A, if_true, if_false, ite_true, ite_false, not_false_eq_true, not_true_eq_false, Bool.false_eq_true, ite_not, b_add, b_addT, b_addL, b_sub, b_subB, b_mul, b_mulT, b_mulL, b_fdiv, b_mod, b_pow, a_add, a_sub, a_mul, a_fdiv, c_lt, c_le, c_gt, c_ge, c_eqI, c_neI, c_eqB, c_neB, seqP, pysD, Option.map_some, List.replicate_zero, List.replicate_succ, Nat.zero_add, Nat.add_zero, Nat.reduceAdd, Nat.reduceSub, Nat.reduceLeDiff, decide_eq_true_eq, Bool.not_eq_true', decide_eq_false_iff_not, Nat.sub_self, Option.some.injEq, exists_eq_left', exists_eq_left, x_pick, f_pr, f_qd, f_prT, f_qdT, x_pr0, x_pr1, x_qd0, x_qd1, x_qd2, x_qd3, g_pr, g_qd, l_pr, l_qd, l_prs, l_ti, l_li, c_eq_pr, c_ne_pr, c_eq_qd, c_ne_qd, i_pr, i_qd, i_prs, i_ti, i_li, true_and, and_true, sl0, sl1, sl2, sl3, sl4, sl5, sl6, sl7, sl8, sl9, sl10, sl11, sl12, sl13, sl14, mketa, wipe1, shE_cons, shE_nil, shS_sh, shS_ow, shS_none, eq_self, and_self, decide_true, decide_false, reduceCtorEq, false_and, and_false, true_implies, false_implies, implies_true, not_true_eq_false, Bool.not_true, Bool.not_false, Bool.true_and, Bool.false_and, Bool.and_true, Bool.and_false, Bool.or_true, Bool.true_or, Bool.or_false, Bool.false_or, Int.reduceLT, Int.reduceLE, Nat.reduceLT, x_ru0, x_ru1, c_ev, c_pa, g_ti, k_ti1, wipe2, h_check_excess, h_chains, h_size, h_added, h_less, h_chain_mean, h_times2, p_check_excess, p_chains, p_size, p_added, p_less, p_chain_mean, p_times2, b_best_parts, n_best_parts]
  refine ⟨he, fun hx => ?_⟩
  obtain ⟨q1, q2⟩ := hq hx
  split
  · rename_i g1
    split
    · rename_i g2
      split
      · rename_i g3
        split
        · rename_i g4
          obtain ⟨e2, q3⟩ := q2 ⟨⟨g1, g2⟩, g3, g4⟩
          refine ⟨⟨g1, g2⟩, ⟨g3, g4⟩, ?_⟩
          rw [List.map_map]
          refine forW_fold (l := chainsC n m.toNat) (f := D.py ∘ ti) (b0 := (none : Option (List Int))) (g := betC e) (fun c ρ => (∀ r, c = some r → goodC r) ∧ ∃ s4 s5 : Option Sl, ρ = [some (.sh (.py (pr e))), some (.sh (.I m)), some (.sh (.I n)), some (.sh (.py (bD e c))), s4, s5]) ⟨fun r z => (nomatch z), _, _, rfl⟩ ?_ ?_
          · rintro l1 x l2 ρ K hl ⟨hc, s4, s5, rfl⟩ hK
            generalize List.foldl (betC e) none l1 = c at *
            have hxm : x ∈ chainsC n m.toNat := by rw [hl]; exact List.mem_append_right _ (List.mem_cons_self ..)
            have hg := chains_goodC g4 (show m.toNat ≤ 4 by omega) hxm
            obtain ⟨z1, z2, z3, z4, z5, z6, z7, z8⟩ := off_z hg hx e2
            have ob := off_b hg hx e2
            rw [Function.comp_apply]
            simp only [wpS, wp, getV, getB, initE, endF, bindG, List.map_cons, List.map_nil, List.length_cons, List.length_nil, List.cons_append, List.nil_append, List.append_nil, List.getElem?_cons_zero, List.getElem?_cons_succ, List.set_cons_zero, List.set_cons_succ, partD, k_L, k_T, l_lenT, l_lenL, l_int, l_intB, l_abs, l_max2, l_max3, l_max4, l_min2, l_maxL, l_minL, l_sum, l_all, l_any, l_tupL, l_tupT, l_lisL, l_lisT, r_1, r_2, r_l, i_L, i_T, i_A, if_true, if_false, ite_true, ite_false, not_false_eq_true, not_true_eq_false, Bool.false_eq_true, ite_not, b_add, b_addT, b_addL, b_sub, b_subB, b_mul, b_mulT, b_mulL, b_fdiv, b_mod, b_pow, a_add, a_sub, a_mul, a_fdiv, c_lt, c_le, c_gt, c_ge, c_eqI, c_neI, c_eqB, c_neB, seqP, pysD, Option.map_some, List.replicate_zero, List.replicate_succ, Nat.zero_add, Nat.add_zero, Nat.reduceAdd, Nat.reduceSub, Nat.reduceLeDiff, decide_eq_true_eq, Bool.not_eq_true', decide_eq_false_iff_not, Nat.sub_self, Option.some.injEq, exists_eq_left', exists_eq_left, x_pick, f_pr, f_qd, f_prT, f_qdT, x_pr0, x_pr1, x_qd0, x_qd1, x_qd2, x_qd3, g_pr, g_qd, l_pr, l_qd, l_prs, l_ti, l_li, c_eq_pr, c_ne_pr, c_eq_qd, c_ne_qd, i_pr, i_qd, i_prs, i_ti, i_li, true_and, and_true, sl0, sl1, sl2, sl3, sl4, sl5, sl6, sl7, sl8, sl9, sl10, sl11, sl12, sl13, sl14, mketa, wipe1, shE_cons, shE_nil, shS_sh, shS_ow, shS_none, eq_self, and_self, decide_true, decide_false, reduceCtorEq, false_and, and_false, true_implies, false_implies, implies_true, not_true_eq_false, Bool.not_true, Bool.not_false, Bool.true_and, Bool.false_and, Bool.and_true, Bool.and_false, Bool.or_true, Bool.true_or, Bool.or_false, Bool.false_or, Int.reduceLT, Int.reduceLE, Nat.reduceLT, x_ru0, x_ru1, c_ev, c_pa, g_ti, k_ti1, wipe2, h_check_excess, h_chains, h_size, h_added, h_less, h_chain_mean, h_times2, p_check_excess, p_chains, p_size, p_added, p_less, p_chain_mean, p_times2]
            refine ⟨hg, by decide, ⟨z5.1.mono (by decide), z5.2.mono (by decide)⟩, fun z => by omega, fun _ => ⟨⟨z1.1.mono (by decide), z1.2.mono (by decide)⟩, ⟨z3.1.mono (by decide), z3.2.mono (by decide)⟩, fun z => absurd z (Int.mul_ne_zero (by omega) (by omega)), fun _ => ?_⟩⟩
            rw [c_isN]
            cases c with
            | none =>
              simp only [wpS, wp, getV, getB, initE, endF, bindG, List.map_cons, List.map_nil, List.length_cons, List.length_nil, List.cons_append, List.nil_append, List.append_nil, List.getElem?_cons_zero, List.getElem?_cons_succ, List.set_cons_zero, List.set_cons_succ, partD, k_L, k_T, l_lenT, l_lenL, l_int, l_intB, l_abs, l_max2, l_max3, l_max4, l_min2, l_maxL, l_minL, l_sum, l_all, l_any, l_tupL, l_tupT, l_lisL, l_lisT, r_1, r_2, r_l, i_L, i_T, i_A, if_true, if_false, ite_true, ite_false, not_false_eq_true, not_true_eq_false, Bool.false_eq_true, ite_not, b_add, b_addT, b_addL, b_sub, b_subB, b_mul, b_mulT, b_mulL, b_fdiv, b_mod, b_pow, a_add, a_sub, a_mul, a_fdiv, c_lt, c_le, c_gt, c_ge, c_eqI, c_neI, c_eqB, c_neB, seqP, pysD, Option.map_some, List.replicate_zero, List.replicate_succ, Nat.zero_add, Nat.add_zero, Nat.reduceAdd, Nat.reduceSub, Nat.reduceLeDiff, decide_eq_true_eq, Bool.not_eq_true', decide_eq_false_iff_not, Nat.sub_self, Option.some.injEq, exists_eq_left', exists_eq_left, x_pick, f_pr, f_qd, f_prT, f_qdT, x_pr0, x_pr1, x_qd0, x_qd1, x_qd2, x_qd3, g_pr, g_qd, l_pr, l_qd, l_prs, l_ti, l_li, c_eq_pr, c_ne_pr, c_eq_qd, c_ne_qd, i_pr, i_qd, i_prs, i_ti, i_li, true_and, and_true, sl0, sl1, sl2, sl3, sl4, sl5, sl6, sl7, sl8, sl9, sl10, sl11, sl12, sl13, sl14, mketa, wipe1, shE_cons, shE_nil, shS_sh, shS_ow, shS_none, eq_self, and_self, decide_true, decide_false, reduceCtorEq, false_and, and_false, true_implies, false_implies, implies_true, not_true_eq_false, Bool.not_true, Bool.not_false, Bool.true_and, Bool.false_and, Bool.and_true, Bool.and_false, Bool.or_true, Bool.true_or, Bool.or_false, Bool.false_or, Int.reduceLT, Int.reduceLE, Nat.reduceLT, x_ru0, x_ru1, c_ev, c_pa, g_ti, k_ti1, wipe2, h_check_excess, h_chains, h_size, h_added, h_less, h_chain_mean, h_times2, p_check_excess, p_chains, p_size, p_added, p_less, p_chain_mean, p_times2]
              rw [if_pos (show isNone (bD e none) = true from rfl)]
              exact hK _ ⟨fun r z => (by cases z; exact hg), some (Sl.sh (D.py (ti x))), some (Sl.sh (D.py (pr (offP x e)))), rfl⟩
            | some c =>
              have hgc := hc c rfl
              obtain ⟨y1, y2, y3, y4, y5, y6, y7, y8⟩ := off_z hgc hx e2
              have oc := off_b hgc hx e2
              have lt := Is.lt z8 y8 (by omega) (by omega)
              simp only [wpS, wp, getV, getB, initE, endF, bindG, List.map_cons, List.map_nil, List.length_cons, List.length_nil, List.cons_append, List.nil_append, List.append_nil, List.getElem?_cons_zero, List.getElem?_cons_succ, List.set_cons_zero, List.set_cons_succ, partD, k_L, k_T, l_lenT, l_lenL, l_int, l_intB, l_abs, l_max2, l_max3, l_max4, l_min2, l_maxL, l_minL, l_sum, l_all, l_any, l_tupL, l_tupT, l_lisL, l_lisT, r_1, r_2, r_l, i_L, i_T, i_A, if_true, if_false, ite_true, ite_false, not_false_eq_true, not_true_eq_false, Bool.false_eq_true, ite_not, b_add, b_addT, b_addL, b_sub, b_subB, b_mul, b_mulT, b_mulL, b_fdiv, b_mod, b_pow, a_add, a_sub, a_mul, a_fdiv, c_lt, c_le, c_gt, c_ge, c_eqI, c_neI, c_eqB, c_neB, seqP, pysD, Option.map_some, List.replicate_zero, List.replicate_succ, Nat.zero_add, Nat.add_zero, Nat.reduceAdd, Nat.reduceSub, Nat.reduceLeDiff, decide_eq_true_eq, Bool.not_eq_true', decide_eq_false_iff_not, Nat.sub_self, Option.some.injEq, exists_eq_left', exists_eq_left, x_pick, f_pr, f_qd, f_prT, f_qdT, x_pr0, x_pr1, x_qd0, x_qd1, x_qd2, x_qd3, g_pr, g_qd, l_pr, l_qd, l_prs, l_ti, l_li, c_eq_pr, c_ne_pr, c_eq_qd, c_ne_qd, i_pr, i_qd, i_prs, i_ti, i_li, true_and, and_true, sl0, sl1, sl2, sl3, sl4, sl5, sl6, sl7, sl8, sl9, sl10, sl11, sl12, sl13, sl14, mketa, wipe1, shE_cons, shE_nil, shS_sh, shS_ow, shS_none, eq_self, and_self, decide_true, decide_false, reduceCtorEq, false_and, and_false, true_implies, false_implies, implies_true, not_true_eq_false, Bool.not_true, Bool.not_false, Bool.true_and, Bool.false_and, Bool.and_true, Bool.and_false, Bool.or_true, Bool.true_or, Bool.or_false, Bool.false_or, Int.reduceLT, Int.reduceLE, Nat.reduceLT, x_ru0, x_ru1, c_ev, c_pa, g_ti, k_ti1, wipe2, h_check_excess, h_chains, h_size, h_added, h_less, h_chain_mean, h_times2, p_check_excess, p_chains, p_size, p_added, p_less, p_chain_mean, p_times2]
              rw [if_neg (show ¬ isNone (bD e (some c)) = true from fun z => nomatch z)]
              refine ixT_of (p := pr (offP c e)) (by decide) rfl ?_
              simp only [wpS, wp, getV, getB, initE, endF, bindG, List.map_cons, List.map_nil, List.length_cons, List.length_nil, List.cons_append, List.nil_append, List.append_nil, List.getElem?_cons_zero, List.getElem?_cons_succ, List.set_cons_zero, List.set_cons_succ, partD, k_L, k_T, l_lenT, l_lenL, l_int, l_intB, l_abs, l_max2, l_max3, l_max4, l_min2, l_maxL, l_minL, l_sum, l_all, l_any, l_tupL, l_tupT, l_lisL, l_lisT, r_1, r_2, r_l, i_L, i_T, i_A, if_true, if_false, ite_true, ite_false, not_false_eq_true, not_true_eq_false, Bool.false_eq_true, ite_not, b_add, b_addT, b_addL, b_sub, b_subB, b_mul, b_mulT, b_mulL, b_fdiv, b_mod, b_pow, a_add, a_sub, a_mul, a_fdiv, c_lt, c_le, c_gt, c_ge, c_eqI, c_neI, c_eqB, c_neB, seqP, pysD, Option.map_some, List.replicate_zero, List.replicate_succ, Nat.zero_add, Nat.add_zero, Nat.reduceAdd, Nat.reduceSub, Nat.reduceLeDiff, decide_eq_true_eq, Bool.not_eq_true', decide_eq_false_iff_not, Nat.sub_self, Option.some.injEq, exists_eq_left', exists_eq_left, x_pick, f_pr, f_qd, f_prT, f_qdT, x_pr0, x_pr1, x_qd0, x_qd1, x_qd2, x_qd3, g_pr, g_qd, l_pr, l_qd, l_prs, l_ti, l_li, c_eq_pr, c_ne_pr, c_eq_qd, c_ne_qd, i_pr, i_qd, i_prs, i_ti, i_li, true_and, and_true, sl0, sl1, sl2, sl3, sl4, sl5, sl6, sl7, sl8, sl9, sl10, sl11, sl12, sl13, sl14, mketa, wipe1, shE_cons, shE_nil, shS_sh, shS_ow, shS_none, eq_self, and_self, decide_true, decide_false, reduceCtorEq, false_and, and_false, true_implies, false_implies, implies_true, not_true_eq_false, Bool.not_true, Bool.not_false, Bool.true_and, Bool.false_and, Bool.and_true, Bool.and_false, Bool.or_true, Bool.true_or, Bool.or_false, Bool.false_or, Int.reduceLT, Int.reduceLE, Nat.reduceLT, x_ru0, x_ru1, c_ev, c_pa, g_ti, k_ti1, wipe2, h_check_excess, h_chains, h_size, h_added, h_less, h_chain_mean, h_times2, p_check_excess, p_chains, p_size, p_added, p_less, p_chain_mean, p_times2]
              refine ⟨⟨z7.1.mono (by decide), z7.2.mono (by decide)⟩, ⟨y7.1.mono (by decide), y7.2.mono (by decide)⟩, ?_⟩
              have be : betC e (some c) x = if (offL x e).1 * (offL c e).2 < (offL c e).1 * (offL x e).2 then some x else some c := rfl
              rw [show absF (addF (cmC x) (mulF (-1, 1) e)) = offP x e from rfl]
              by_cases w : (offL x e).1 * (offL c e).2 < (offL c e).1 * (offL x e).2
              · rw [if_pos (show ltF (offP x e) (offP c e) from lt.mpr w)]
                rw [if_pos w] at be
                rw [be] at hK
                exact hK _ ⟨fun r z => (by cases z; exact hg), some (Sl.sh (D.py (ti x))), some (Sl.sh (D.py (pr (offP x e)))), rfl⟩
              · rw [if_neg (show ¬ ltF (offP x e) (offP c e) from fun z => w (lt.mp z))]
                rw [if_neg w] at be
                rw [be] at hK
                exact hK _ ⟨fun r z => (by cases z; exact hgc), some (Sl.sh (D.py (ti x))), some (Sl.sh (D.py (pr (offP x e)))), rfl⟩
          · rintro ρ ⟨hc, s4, s5, rfl⟩
            obtain ⟨r, h1, h2⟩ := best_some (e := e) (chains_ne (n := n) (by omega) (m := m.toNat) (by omega))
            have h2' : List.foldl (betC e) none (chainsC n m.toNat) = some r := h2
            rw [h2']
            simp only [wpS, wp, getV, getB, initE, endF, bindG, List.map_cons, List.map_nil, List.length_cons, List.length_nil, List.cons_append, List.nil_append, List.append_nil, List.getElem?_cons_zero, List.getElem?_cons_succ, List.set_cons_zero, List.set_cons_succ, partD, k_L, k_T, l_lenT, l_lenL, l_int, l_intB, l_abs, l_max2, l_max3, l_max4, l_min2, l_maxL, l_minL, l_sum, l_all, l_any, l_tupL, l_tupT, l_lisL, l_lisT, r_1, r_2, r_l, i_L, i_T, i_A, if_true, if_false, ite_true, ite_false, not_false_eq_true, not_true_eq_false, Bool.false_eq_true, ite_not, b_add, b_addT, b_addL, b_sub, b_subB, b_mul, b_mulT, b_mulL, b_fdiv, b_mod, b_pow, a_add, a_sub, a_mul, a_fdiv, c_lt, c_le, c_gt, c_ge, c_eqI, c_neI, c_eqB, c_neB, seqP, pysD, Option.map_some, List.replicate_zero, List.replicate_succ, Nat.zero_add, Nat.add_zero, Nat.reduceAdd, Nat.reduceSub, Nat.reduceLeDiff, decide_eq_true_eq, Bool.not_eq_true', decide_eq_false_iff_not, Nat.sub_self, Option.some.injEq, exists_eq_left', exists_eq_left, x_pick, f_pr, f_qd, f_prT, f_qdT, x_pr0, x_pr1, x_qd0, x_qd1, x_qd2, x_qd3, g_pr, g_qd, l_pr, l_qd, l_prs, l_ti, l_li, c_eq_pr, c_ne_pr, c_eq_qd, c_ne_qd, i_pr, i_qd, i_prs, i_ti, i_li, true_and, and_true, sl0, sl1, sl2, sl3, sl4, sl5, sl6, sl7, sl8, sl9, sl10, sl11, sl12, sl13, sl14, mketa, wipe1, shE_cons, shE_nil, shS_sh, shS_ow, shS_none, eq_self, and_self, decide_true, decide_false, reduceCtorEq, false_and, and_false, true_implies, false_implies, implies_true, not_true_eq_false, Bool.not_true, Bool.not_false, Bool.true_and, Bool.false_and, Bool.and_true, Bool.and_false, Bool.or_true, Bool.true_or, Bool.or_false, Bool.false_or, Int.reduceLT, Int.reduceLE, Nat.reduceLT, x_ru0, x_ru1, c_ev, c_pa, g_ti, k_ti1, wipe2, h_check_excess, h_chains, h_size, h_added, h_less, h_chain_mean, h_times2, p_check_excess, p_chains, p_size, p_added, p_less, p_chain_mean, p_times2]
            exact ixT_of (p := ti r) (by decide) rfl (q3 r h2)
        · rename_i g4
          exact q1 fun z => by omega
      · rename_i g3
        exact q1 fun z => by omega
    · rename_i g2
      exact q1 fun z => by omega
  · rename_i g1
    exact q1 fun z => by omega
end Y

/-! part SR2 -/
set_option Elab.async false
set_option linter.all false
set_option maxRecDepth 100000
set_option maxHeartbeats 2000000
set_option exponentiation.threshold 5000
/-! SR2: rules of leaping years: the law's own defs. -/
namespace Y
open PySem PySem.Spec
theorem s_law_divisor2 {Φ : PhiT}  (ds : List D) (Q : D → Prop) (E : Nat → Prop) (h : C_law_divisor2 ds Q E) : ds.length = 2 ∧ wpS Φ exName b_law_divisor2 (initE n_law_divisor2 ds) (endF Q E) := by
  obtain ⟨a, b, rfl, hq⟩ := h
  refine ⟨rfl, ?_⟩
  simp only [wpS, wp, getV, getB, initE, endF, bindG, List.map_cons, List.map_nil, List.length_cons, List.length_nil, List.cons_append, List.nil_append, List.append_nil, List.getElem?_cons_zero, List.getElem?_cons_succ, List.set_cons_zero, List.set_cons_succ, partD, k_L, k_T, l_lenT, l_lenL, l_int, l_intB, l_abs, l_max2, l_max3, l_max4, l_min2, l_maxL, l_minL, l_sum, l_all, l_any, l_tupL, l_tupT, l_lisL, l_lisT, r_1, r_2, r_l, i_L, i_T, i_A, if_true, if_false, ite_true, ite_false, not_false_eq_true, not_true_eq_false, Bool.false_eq_true, ite_not, b_add, b_addT, b_addL, b_sub, b_subB, b_mul, b_mulT, b_mulL, b_fdiv, b_mod, b_pow, a_add, a_sub, a_mul, a_fdiv, c_lt, c_le, c_gt, c_ge, c_eqI, c_neI, c_eqB, c_neB, seqP, pysD, Option.map_some, List.replicate_zero, List.replicate_succ, Nat.zero_add, Nat.add_zero, Nat.reduceAdd, Nat.reduceSub, Nat.reduceLeDiff, decide_eq_true_eq, Bool.not_eq_true', decide_eq_false_iff_not, Nat.sub_self, Option.some.injEq, exists_eq_left', exists_eq_left, x_pick, f_pr, f_qd, f_prT, f_qdT, x_pr0, x_pr1, x_qd0, x_qd1, x_qd2, x_qd3, g_pr, g_qd, l_pr, l_qd, l_prs, l_ti, l_li, c_eq_pr, c_ne_pr, c_eq_qd, c_ne_qd, i_pr, i_qd, i_prs, i_ti, i_li, true_and, and_true, sl0, sl1, sl2, sl3, sl4, sl5, sl6, sl7, sl8, sl9, sl10, sl11, sl12, sl13, sl14, mketa, wipe1, shE_cons, shE_nil, shS_sh, shS_ow, shS_none, eq_self, and_self, decide_true, decide_false, reduceCtorEq, false_and, and_false, true_implies, false_implies, implies_true, not_true_eq_false, Bool.not_true, Bool.not_false, Bool.true_and, Bool.false_and, Bool.and_true, Bool.and_false, Bool.or_true, Bool.true_or, Bool.or_false, Bool.false_or, Int.reduceLT, Int.reduceLE, Nat.reduceLT, x_ru0, x_ru1, c_ev, c_pa, g_ti, k_ti1, wipe2, b_law_divisor2, n_law_divisor2]
  have e1 : max a (0 - a) = (a.natAbs : Int) := by omega
  have e2 : max b (0 - b) = (b.natAbs : Int) := by omega
  rw [e1, e2]
  exact while_gcd (Q := Q) (a := a.natAbs) (b := b.natAbs) (by omega) (by omega) hq fun x y K => rfl
theorem s_law_reduced2 {Φ : PhiT} (h_law_divisor2 : Φ 145 = C_law_divisor2) (ds : List D) (Q : D → Prop) (E : Nat → Prop) (h : C_law_reduced2 ds Q E) : ds.length = 2 ∧ wpS Φ exName b_law_reduced2 (initE n_law_reduced2 ds) (endF Q E) := by
  obtain ⟨a, b, rfl, hb, hl, hq⟩ := h
  refine ⟨rfl, ?_⟩
  simp only [wpS, wp, getV, getB, initE, endF, bindG, List.map_cons, List.map_nil, List.length_cons, List.length_nil, List.cons_append, List.nil_append, List.append_nil, List.getElem?_cons_zero, List.getElem?_cons_succ, List.set_cons_zero, List.set_cons_succ, partD, k_L, k_T, l_lenT, l_lenL, l_int, l_intB, l_abs, l_max2, l_max3, l_max4, l_min2, l_maxL, l_minL, l_sum, l_all, l_any, l_tupL, l_tupT, l_lisL, l_lisT, r_1, r_2, r_l, i_L, i_T, i_A, if_true, if_false, ite_true, ite_false, not_false_eq_true, not_true_eq_false, Bool.false_eq_true, ite_not, b_add, b_addT, b_addL, b_sub, b_subB, b_mul, b_mulT, b_mulL, b_fdiv, b_mod, b_pow, a_add, a_sub, a_mul, a_fdiv, c_lt, c_le, c_gt, c_ge, c_eqI, c_neI, c_eqB, c_neB, seqP, pysD, Option.map_some, List.replicate_zero, List.replicate_succ, Nat.zero_add, Nat.add_zero, Nat.reduceAdd, Nat.reduceSub, Nat.reduceLeDiff, decide_eq_true_eq, Bool.not_eq_true', decide_eq_false_iff_not, Nat.sub_self, Option.some.injEq, exists_eq_left', exists_eq_left, x_pick, f_pr, f_qd, f_prT, f_qdT, x_pr0, x_pr1, x_qd0, x_qd1, x_qd2, x_qd3, g_pr, g_qd, l_pr, l_qd, l_prs, l_ti, l_li, c_eq_pr, c_ne_pr, c_eq_qd, c_ne_qd, i_pr, i_qd, i_prs, i_ti, i_li, true_and, and_true, sl0, sl1, sl2, sl3, sl4, sl5, sl6, sl7, sl8, sl9, sl10, sl11, sl12, sl13, sl14, mketa, wipe1, shE_cons, shE_nil, shS_sh, shS_ow, shS_none, eq_self, and_self, decide_true, decide_false, reduceCtorEq, false_and, and_false, true_implies, false_implies, implies_true, not_true_eq_false, Bool.not_true, Bool.not_false, Bool.true_and, Bool.false_and, Bool.and_true, Bool.and_false, Bool.or_true, Bool.true_or, Bool.or_false, Bool.false_or, Int.reduceLT, Int.reduceLE, Nat.reduceLT, x_ru0, x_ru1, c_ev, c_pa, g_ti, k_ti1, wipe2, h_law_divisor2, p_law_divisor2, b_law_reduced2, n_law_reduced2]
  have h1 := gcd_le (a := a) (Int.ne_of_gt hb)
  have h2 := gcd_pos (a := a) (Int.ne_of_gt hb)
  have hz : (Int.gcd a b : Int).natAbs.log2 < 9000 := lg (by omega)
  exact ⟨⟨by omega, hz⟩, ⟨by omega, hz⟩, hq⟩
theorem s_law_count2 {Φ : PhiT}  (ds : List D) (Q : D → Prop) (E : Nat → Prop) (h : C_law_count2 ds Q E) : ds.length = 2 ∧ wpS Φ exName b_law_count2 (initE n_law_count2 ds) (endF Q E) := by
  obtain ⟨r, y, rfl, hg, hz, hq⟩ := h
  refine ⟨rfl, ?_⟩
  simp only [wpS, wp, getV, getB, initE, endF, bindG, List.map_cons, List.map_nil, List.length_cons, List.length_nil, List.cons_append, List.nil_append, List.append_nil, List.getElem?_cons_zero, List.getElem?_cons_succ, List.set_cons_zero, List.set_cons_succ, partD, k_L, k_T, l_lenT, l_lenL, l_int, l_intB, l_abs, l_max2, l_max3, l_max4, l_min2, l_maxL, l_minL, l_sum, l_all, l_any, l_tupL, l_tupT, l_lisL, l_lisT, r_1, r_2, r_l, i_L, i_T, i_A, if_true, if_false, ite_true, ite_false, not_false_eq_true, not_true_eq_false, Bool.false_eq_true, ite_not, b_add, b_addT, b_addL, b_sub, b_subB, b_mul, b_mulT, b_mulL, b_fdiv, b_mod, b_pow, a_add, a_sub, a_mul, a_fdiv, c_lt, c_le, c_gt, c_ge, c_eqI, c_neI, c_eqB, c_neB, seqP, pysD, Option.map_some, List.replicate_zero, List.replicate_succ, Nat.zero_add, Nat.add_zero, Nat.reduceAdd, Nat.reduceSub, Nat.reduceLeDiff, decide_eq_true_eq, Bool.not_eq_true', decide_eq_false_iff_not, Nat.sub_self, Option.some.injEq, exists_eq_left', exists_eq_left, x_pick, f_pr, f_qd, f_prT, f_qdT, x_pr0, x_pr1, x_qd0, x_qd1, x_qd2, x_qd3, g_pr, g_qd, l_pr, l_qd, l_prs, l_ti, l_li, c_eq_pr, c_ne_pr, c_eq_qd, c_ne_qd, i_pr, i_qd, i_prs, i_ti, i_li, true_and, and_true, sl0, sl1, sl2, sl3, sl4, sl5, sl6, sl7, sl8, sl9, sl10, sl11, sl12, sl13, sl14, mketa, wipe1, shE_cons, shE_nil, shS_sh, shS_ow, shS_none, eq_self, and_self, decide_true, decide_false, reduceCtorEq, false_and, and_false, true_implies, false_implies, implies_true, not_true_eq_false, Bool.not_true, Bool.not_false, Bool.true_and, Bool.false_and, Bool.and_true, Bool.and_false, Bool.or_true, Bool.true_or, Bool.or_false, Bool.false_or, Int.reduceLT, Int.reduceLE, Nat.reduceLT, x_ru0, x_ru1, c_ev, c_pa, g_ti, k_ti1, wipe2, b_law_count2, n_law_count2]
  obtain ⟨w, ps⟩ := r
  have hs := goodR_sh hg
  cases w with
  | ev =>
    obtain ⟨l, n, s, e⟩ := hs.1 rfl
    simp only at e
    subst e
    rw [goodEv] at hg
    rw [if_pos rfl]
    have zl : Z 64 l := Z.at64 (by omega)
    refine ix_ti (by decide) (v := l) rfl ?_
    simp only [wpS, wp, getV, getB, initE, endF, bindG, List.map_cons, List.map_nil, List.length_cons, List.length_nil, List.cons_append, List.nil_append, List.append_nil, List.getElem?_cons_zero, List.getElem?_cons_succ, List.set_cons_zero, List.set_cons_succ, partD, k_L, k_T, l_lenT, l_lenL, l_int, l_intB, l_abs, l_max2, l_max3, l_max4, l_min2, l_maxL, l_minL, l_sum, l_all, l_any, l_tupL, l_tupT, l_lisL, l_lisT, r_1, r_2, r_l, i_L, i_T, i_A, if_true, if_false, ite_true, ite_false, not_false_eq_true, not_true_eq_false, Bool.false_eq_true, ite_not, b_add, b_addT, b_addL, b_sub, b_subB, b_mul, b_mulT, b_mulL, b_fdiv, b_mod, b_pow, a_add, a_sub, a_mul, a_fdiv, c_lt, c_le, c_gt, c_ge, c_eqI, c_neI, c_eqB, c_neB, seqP, pysD, Option.map_some, List.replicate_zero, List.replicate_succ, Nat.zero_add, Nat.add_zero, Nat.reduceAdd, Nat.reduceSub, Nat.reduceLeDiff, decide_eq_true_eq, Bool.not_eq_true', decide_eq_false_iff_not, Nat.sub_self, Option.some.injEq, exists_eq_left', exists_eq_left, x_pick, f_pr, f_qd, f_prT, f_qdT, x_pr0, x_pr1, x_qd0, x_qd1, x_qd2, x_qd3, g_pr, g_qd, l_pr, l_qd, l_prs, l_ti, l_li, c_eq_pr, c_ne_pr, c_eq_qd, c_ne_qd, i_pr, i_qd, i_prs, i_ti, i_li, true_and, and_true, sl0, sl1, sl2, sl3, sl4, sl5, sl6, sl7, sl8, sl9, sl10, sl11, sl12, sl13, sl14, mketa, wipe1, shE_cons, shE_nil, shS_sh, shS_ow, shS_none, eq_self, and_self, decide_true, decide_false, reduceCtorEq, false_and, and_false, true_implies, false_implies, implies_true, not_true_eq_false, Bool.not_true, Bool.not_false, Bool.true_and, Bool.false_and, Bool.and_true, Bool.and_false, Bool.or_true, Bool.true_or, Bool.or_false, Bool.false_or, Int.reduceLT, Int.reduceLE, Nat.reduceLT, x_ru0, x_ru1, c_ev, c_pa, g_ti, k_ti1, wipe2]
    refine ⟨cmz zl hz (by decide) (by decide), ix_ti (by decide) (v := s) rfl ?_⟩
    simp only [wpS, wp, getV, getB, initE, endF, bindG, List.map_cons, List.map_nil, List.length_cons, List.length_nil, List.cons_append, List.nil_append, List.append_nil, List.getElem?_cons_zero, List.getElem?_cons_succ, List.set_cons_zero, List.set_cons_succ, partD, k_L, k_T, l_lenT, l_lenL, l_int, l_intB, l_abs, l_max2, l_max3, l_max4, l_min2, l_maxL, l_minL, l_sum, l_all, l_any, l_tupL, l_tupT, l_lisL, l_lisT, r_1, r_2, r_l, i_L, i_T, i_A, if_true, if_false, ite_true, ite_false, not_false_eq_true, not_true_eq_false, Bool.false_eq_true, ite_not, b_add, b_addT, b_addL, b_sub, b_subB, b_mul, b_mulT, b_mulL, b_fdiv, b_mod, b_pow, a_add, a_sub, a_mul, a_fdiv, c_lt, c_le, c_gt, c_ge, c_eqI, c_neI, c_eqB, c_neB, seqP, pysD, Option.map_some, List.replicate_zero, List.replicate_succ, Nat.zero_add, Nat.add_zero, Nat.reduceAdd, Nat.reduceSub, Nat.reduceLeDiff, decide_eq_true_eq, Bool.not_eq_true', decide_eq_false_iff_not, Nat.sub_self, Option.some.injEq, exists_eq_left', exists_eq_left, x_pick, f_pr, f_qd, f_prT, f_qdT, x_pr0, x_pr1, x_qd0, x_qd1, x_qd2, x_qd3, g_pr, g_qd, l_pr, l_qd, l_prs, l_ti, l_li, c_eq_pr, c_ne_pr, c_eq_qd, c_ne_qd, i_pr, i_qd, i_prs, i_ti, i_li, true_and, and_true, sl0, sl1, sl2, sl3, sl4, sl5, sl6, sl7, sl8, sl9, sl10, sl11, sl12, sl13, sl14, mketa, wipe1, shE_cons, shE_nil, shS_sh, shS_ow, shS_none, eq_self, and_self, decide_true, decide_false, reduceCtorEq, false_and, and_false, true_implies, false_implies, implies_true, not_true_eq_false, Bool.not_true, Bool.not_false, Bool.true_and, Bool.false_and, Bool.and_true, Bool.and_false, Bool.or_true, Bool.true_or, Bool.or_false, Bool.false_or, Int.reduceLT, Int.reduceLE, Nat.reduceLT, x_ru0, x_ru1, c_ev, c_pa, g_ti, k_ti1, wipe2]
    refine ix_ti (by decide) (v := n) rfl ?_
    simp only [wpS, wp, getV, getB, initE, endF, bindG, List.map_cons, List.map_nil, List.length_cons, List.length_nil, List.cons_append, List.nil_append, List.append_nil, List.getElem?_cons_zero, List.getElem?_cons_succ, List.set_cons_zero, List.set_cons_succ, partD, k_L, k_T, l_lenT, l_lenL, l_int, l_intB, l_abs, l_max2, l_max3, l_max4, l_min2, l_maxL, l_minL, l_sum, l_all, l_any, l_tupL, l_tupT, l_lisL, l_lisT, r_1, r_2, r_l, i_L, i_T, i_A, if_true, if_false, ite_true, ite_false, not_false_eq_true, not_true_eq_false, Bool.false_eq_true, ite_not, b_add, b_addT, b_addL, b_sub, b_subB, b_mul, b_mulT, b_mulL, b_fdiv, b_mod, b_pow, a_add, a_sub, a_mul, a_fdiv, c_lt, c_le, c_gt, c_ge, c_eqI, c_neI, c_eqB, c_neB, seqP, pysD, Option.map_some, List.replicate_zero, List.replicate_succ, Nat.zero_add, Nat.add_zero, Nat.reduceAdd, Nat.reduceSub, Nat.reduceLeDiff, decide_eq_true_eq, Bool.not_eq_true', decide_eq_false_iff_not, Nat.sub_self, Option.some.injEq, exists_eq_left', exists_eq_left, x_pick, f_pr, f_qd, f_prT, f_qdT, x_pr0, x_pr1, x_qd0, x_qd1, x_qd2, x_qd3, g_pr, g_qd, l_pr, l_qd, l_prs, l_ti, l_li, c_eq_pr, c_ne_pr, c_eq_qd, c_ne_qd, i_pr, i_qd, i_prs, i_ti, i_li, true_and, and_true, sl0, sl1, sl2, sl3, sl4, sl5, sl6, sl7, sl8, sl9, sl10, sl11, sl12, sl13, sl14, mketa, wipe1, shE_cons, shE_nil, shS_sh, shS_ow, shS_none, eq_self, and_self, decide_true, decide_false, reduceCtorEq, false_and, and_false, true_implies, false_implies, implies_true, not_true_eq_false, Bool.not_true, Bool.not_false, Bool.true_and, Bool.false_and, Bool.and_true, Bool.and_false, Bool.or_true, Bool.true_or, Bool.or_false, Bool.false_or, Int.reduceLT, Int.reduceLE, Nat.reduceLT, x_ru0, x_ru1, c_ev, c_pa, g_ti, k_ti1, wipe2]
    exact ⟨⟨by omega, lgz (n := 64) (Z.at64 (by omega)) (by decide)⟩, hq⟩
  | no => exact absurd hg goodNo
  | pa =>
    rw [goodPa] at hg
    have hq : Q (.I (altC 1 ps y)) := hq
    have hl := hg.2.1
    rw [if_neg (fun z => nomatch z)]
    refine ⟨by show _ ∧ (ps.length : Int) < _; exact ⟨by omega, by omega⟩, ?_⟩
    show forW _ _ (rangeD 0 (ps.length : Int)) _
    refine forW_rule (fun i ρ => ∃ (t : Int) (s3 : Option Sl), ρ = [some (.sh (.py (ru (.pa, ps)))), some (.sh (.I y)), some (.sh (.I t)), s3] ∧ t + altC (if i % 2 = 0 then 1 else -1) (ps.drop i) y = altC 1 ps y) ⟨0, _, rfl, by rw [List.drop_zero]; simp⟩ ?_ ?_
    · rintro i d ρ K hd ⟨t, s3, rfl, ht⟩ hK
      obtain ⟨rfl, hi⟩ := rangeD_get hd
      have hi : i < ps.length := by omega
      have hxm := hg.2.2.1 ps[i] (List.getElem_mem hi)
      rw [List.drop_eq_getElem_cons hi] at ht
      have ht : t + ((if i % 2 = 0 then 1 else -1) * y.fdiv ps[i] + altC (-(if i % 2 = 0 then 1 else -1)) (ps.drop (i + 1)) y) = altC 1 ps y := ht
      simp only [wpS, wp, getV, getB, initE, endF, bindG, List.map_cons, List.map_nil, List.length_cons, List.length_nil, List.cons_append, List.nil_append, List.append_nil, List.getElem?_cons_zero, List.getElem?_cons_succ, List.set_cons_zero, List.set_cons_succ, partD, k_L, k_T, l_lenT, l_lenL, l_int, l_intB, l_abs, l_max2, l_max3, l_max4, l_min2, l_maxL, l_minL, l_sum, l_all, l_any, l_tupL, l_tupT, l_lisL, l_lisT, r_1, r_2, r_l, i_L, i_T, i_A, if_true, if_false, ite_true, ite_false, not_false_eq_true, not_true_eq_false, Bool.false_eq_true, ite_not, b_add, b_addT, b_addL, b_sub, b_subB, b_mul, b_mulT, b_mulL, b_fdiv, b_mod, b_pow, a_add, a_sub, a_mul, a_fdiv, c_lt, c_le, c_gt, c_ge, c_eqI, c_neI, c_eqB, c_neB, seqP, pysD, Option.map_some, List.replicate_zero, List.replicate_succ, Nat.zero_add, Nat.add_zero, Nat.reduceAdd, Nat.reduceSub, Nat.reduceLeDiff, decide_eq_true_eq, Bool.not_eq_true', decide_eq_false_iff_not, Nat.sub_self, Option.some.injEq, exists_eq_left', exists_eq_left, x_pick, f_pr, f_qd, f_prT, f_qdT, x_pr0, x_pr1, x_qd0, x_qd1, x_qd2, x_qd3, g_pr, g_qd, l_pr, l_qd, l_prs, l_ti, l_li, c_eq_pr, c_ne_pr, c_eq_qd, c_ne_qd, i_pr, i_qd, i_prs, i_ti, i_li, true_and, and_true, sl0, sl1, sl2, sl3, sl4, sl5, sl6, sl7, sl8, sl9, sl10, sl11, sl12, sl13, sl14, mketa, wipe1, shE_cons, shE_nil, shS_sh, shS_ow, shS_none, eq_self, and_self, decide_true, decide_false, reduceCtorEq, false_and, and_false, true_implies, false_implies, implies_true, not_true_eq_false, Bool.not_true, Bool.not_false, Bool.true_and, Bool.false_and, Bool.and_true, Bool.and_false, Bool.or_true, Bool.true_or, Bool.or_false, Bool.false_or, Int.reduceLT, Int.reduceLE, Nat.reduceLT, x_ru0, x_ru1, c_ev, c_pa, g_ti, k_ti1, wipe2]
      refine ⟨by decide, ?_⟩
      have en : -(if i % 2 = 0 then (1 : Int) else -1) = (if (i + 1) % 2 = 0 then 1 else -1) := by
        by_cases o : i % 2 = 0
        · rw [if_pos o, if_neg (by omega)]
        · rw [if_neg o, if_pos (by omega)]; rfl
      rw [en] at ht
      have e0 : (0 + (i : Int)) = i := by omega
      rw [e0]
      have fin : ∀ g : Int, (g = if i % 2 = 0 then 1 else -1) → ixD (D.py (ti ps)) (D.I (i : Int)) fun y_1 => binD BO.fdiv (D.I y) y_1 fun y_2 => binD BO.mul (D.I g) y_2 fun y_3 => binD BO.add (D.I t) y_3 fun d_6 => K [some (.sh (.py (ru (.pa, ps)))), some (.sh (.I y)), some (.sh d_6), some (.sh (.I (i : Int)))] := by
        intro g hg2
        refine ix_ti (by omega) (v := ps[i]) (by rw [show ((i : Int)).toNat = i by omega]; exact List.getElem?_eq_getElem hi) ?_
        simp only [wpS, wp, getV, getB, initE, endF, bindG, List.map_cons, List.map_nil, List.length_cons, List.length_nil, List.cons_append, List.nil_append, List.append_nil, List.getElem?_cons_zero, List.getElem?_cons_succ, List.set_cons_zero, List.set_cons_succ, partD, k_L, k_T, l_lenT, l_lenL, l_int, l_intB, l_abs, l_max2, l_max3, l_max4, l_min2, l_maxL, l_minL, l_sum, l_all, l_any, l_tupL, l_tupT, l_lisL, l_lisT, r_1, r_2, r_l, i_L, i_T, i_A, if_true, if_false, ite_true, ite_false, not_false_eq_true, not_true_eq_false, Bool.false_eq_true, ite_not, b_add, b_addT, b_addL, b_sub, b_subB, b_mul, b_mulT, b_mulL, b_fdiv, b_mod, b_pow, a_add, a_sub, a_mul, a_fdiv, c_lt, c_le, c_gt, c_ge, c_eqI, c_neI, c_eqB, c_neB, seqP, pysD, Option.map_some, List.replicate_zero, List.replicate_succ, Nat.zero_add, Nat.add_zero, Nat.reduceAdd, Nat.reduceSub, Nat.reduceLeDiff, decide_eq_true_eq, Bool.not_eq_true', decide_eq_false_iff_not, Nat.sub_self, Option.some.injEq, exists_eq_left', exists_eq_left, x_pick, f_pr, f_qd, f_prT, f_qdT, x_pr0, x_pr1, x_qd0, x_qd1, x_qd2, x_qd3, g_pr, g_qd, l_pr, l_qd, l_prs, l_ti, l_li, c_eq_pr, c_ne_pr, c_eq_qd, c_ne_qd, i_pr, i_qd, i_prs, i_ti, i_li, true_and, and_true, sl0, sl1, sl2, sl3, sl4, sl5, sl6, sl7, sl8, sl9, sl10, sl11, sl12, sl13, sl14, mketa, wipe1, shE_cons, shE_nil, shS_sh, shS_ow, shS_none, eq_self, and_self, decide_true, decide_false, reduceCtorEq, false_and, and_false, true_implies, false_implies, implies_true, not_true_eq_false, Bool.not_true, Bool.not_false, Bool.true_and, Bool.false_and, Bool.and_true, Bool.and_false, Bool.or_true, Bool.true_or, Bool.or_false, Bool.false_or, Int.reduceLT, Int.reduceLE, Nat.reduceLT, x_ru0, x_ru1, c_ev, c_pa, g_ti, k_ti1, wipe2]
        have zg : Z 64 g := Z.at64 (by split at hg2 <;> omega)
        refine ⟨⟨by omega, lgz (n := 64) (Z.at64 (by omega)) (by decide)⟩, cmz zg (Z.fdiv hz) (by decide) (by decide), hK _ ⟨_, _, rfl, ?_⟩⟩
        rw [hg2]
        omega
      by_cases o : i % 2 = 0
      · have : (i : Int).fmod 2 = 0 := by rw [Int.fmod_eq_emod_of_nonneg _ (by omega)]; omega
        rw [this]
        exact ixL_of (by decide) (p := .int 1) rfl (fin 1 (by rw [if_pos o]))
      · have : (i : Int).fmod 2 = 1 := by rw [Int.fmod_eq_emod_of_nonneg _ (by omega)]; omega
        rw [this]
        exact ixL_of (by decide) (p := .int (-1)) rfl (fin (-1) (by rw [if_neg o]))
    · rintro ρ ⟨t, s3, rfl, ht⟩
      have hn : (rangeD 0 (ps.length : Int)).length = ps.length := by
        unfold rangeD
        rw [List.length_map, List.length_range]
        omega
      rw [hn, List.drop_length] at ht
      have ht : t + 0 = altC 1 ps y := ht
      rw [Int.add_zero] at ht
      simp only [wpS, wp, getV, getB, initE, endF, bindG, List.map_cons, List.map_nil, List.length_cons, List.length_nil, List.cons_append, List.nil_append, List.append_nil, List.getElem?_cons_zero, List.getElem?_cons_succ, List.set_cons_zero, List.set_cons_succ, partD, k_L, k_T, l_lenT, l_lenL, l_int, l_intB, l_abs, l_max2, l_max3, l_max4, l_min2, l_maxL, l_minL, l_sum, l_all, l_any, l_tupL, l_tupT, l_lisL, l_lisT, r_1, r_2, r_l, i_L, i_T, i_A, if_true, if_false, ite_true, ite_false, not_false_eq_true, not_true_eq_false, Bool.false_eq_true, ite_not, b_add, b_addT, b_addL, b_sub, b_subB, b_mul, b_mulT, b_mulL, b_fdiv, b_mod, b_pow, a_add, a_sub, a_mul, a_fdiv, c_lt, c_le, c_gt, c_ge, c_eqI, c_neI, c_eqB, c_neB, seqP, pysD, Option.map_some, List.replicate_zero, List.replicate_succ, Nat.zero_add, Nat.add_zero, Nat.reduceAdd, Nat.reduceSub, Nat.reduceLeDiff, decide_eq_true_eq, Bool.not_eq_true', decide_eq_false_iff_not, Nat.sub_self, Option.some.injEq, exists_eq_left', exists_eq_left, x_pick, f_pr, f_qd, f_prT, f_qdT, x_pr0, x_pr1, x_qd0, x_qd1, x_qd2, x_qd3, g_pr, g_qd, l_pr, l_qd, l_prs, l_ti, l_li, c_eq_pr, c_ne_pr, c_eq_qd, c_ne_qd, i_pr, i_qd, i_prs, i_ti, i_li, true_and, and_true, sl0, sl1, sl2, sl3, sl4, sl5, sl6, sl7, sl8, sl9, sl10, sl11, sl12, sl13, sl14, mketa, wipe1, shE_cons, shE_nil, shS_sh, shS_ow, shS_none, eq_self, and_self, decide_true, decide_false, reduceCtorEq, false_and, and_false, true_implies, false_implies, implies_true, not_true_eq_false, Bool.not_true, Bool.not_false, Bool.true_and, Bool.false_and, Bool.and_true, Bool.and_false, Bool.or_true, Bool.true_or, Bool.or_false, Bool.false_or, Int.reduceLT, Int.reduceLE, Nat.reduceLT, x_ru0, x_ru1, c_ev, c_pa, g_ti, k_ti1, wipe2]
      rw [ht]
      exact hq
theorem inYz {y : Int} (hz : Z 80 y) : True := trivial
theorem s_law_leaps {Φ : PhiT} (h_law_count2 : Φ 134 = C_law_count2) (ds : List D) (Q : D → Prop) (E : Nat → Prop) (h : C_law_leaps ds Q E) : ds.length = 2 ∧ wpS Φ exName b_law_leaps (initE n_law_leaps ds) (endF Q E) := by
  obtain ⟨r, y, rfl, hg, hz, hz1, hq⟩ := h
  refine ⟨rfl, ?_⟩
  simp only [wpS, wp, getV, getB, initE, endF, bindG, List.map_cons, List.map_nil, List.length_cons, List.length_nil, List.cons_append, List.nil_append, List.append_nil, List.getElem?_cons_zero, List.getElem?_cons_succ, List.set_cons_zero, List.set_cons_succ, partD, k_L, k_T, l_lenT, l_lenL, l_int, l_intB, l_abs, l_max2, l_max3, l_max4, l_min2, l_maxL, l_minL, l_sum, l_all, l_any, l_tupL, l_tupT, l_lisL, l_lisT, r_1, r_2, r_l, i_L, i_T, i_A, if_true, if_false, ite_true, ite_false, not_false_eq_true, not_true_eq_false, Bool.false_eq_true, ite_not, b_add, b_addT, b_addL, b_sub, b_subB, b_mul, b_mulT, b_mulL, b_fdiv, b_mod, b_pow, a_add, a_sub, a_mul, a_fdiv, c_lt, c_le, c_gt, c_ge, c_eqI, c_neI, c_eqB, c_neB, seqP, pysD, Option.map_some, List.replicate_zero, List.replicate_succ, Nat.zero_add, Nat.add_zero, Nat.reduceAdd, Nat.reduceSub, Nat.reduceLeDiff, decide_eq_true_eq, Bool.not_eq_true', decide_eq_false_iff_not, Nat.sub_self, Option.some.injEq, exists_eq_left', exists_eq_left, x_pick, f_pr, f_qd, f_prT, f_qdT, x_pr0, x_pr1, x_qd0, x_qd1, x_qd2, x_qd3, g_pr, g_qd, l_pr, l_qd, l_prs, l_ti, l_li, c_eq_pr, c_ne_pr, c_eq_qd, c_ne_qd, i_pr, i_qd, i_prs, i_ti, i_li, true_and, and_true, sl0, sl1, sl2, sl3, sl4, sl5, sl6, sl7, sl8, sl9, sl10, sl11, sl12, sl13, sl14, mketa, wipe1, shE_cons, shE_nil, shS_sh, shS_ow, shS_none, eq_self, and_self, decide_true, decide_false, reduceCtorEq, false_and, and_false, true_implies, false_implies, implies_true, not_true_eq_false, Bool.not_true, Bool.not_false, Bool.true_and, Bool.false_and, Bool.and_true, Bool.and_false, Bool.or_true, Bool.true_or, Bool.or_false, Bool.false_or, Int.reduceLT, Int.reduceLE, Nat.reduceLT, x_ru0, x_ru1, c_ev, c_pa, g_ti, k_ti1, wipe2, h_law_count2, p_law_count2, b_law_leaps, n_law_leaps]
  obtain ⟨w, ps⟩ := r
  have hs := goodR_sh hg
  cases w with
  | ev =>
    rw [if_pos rfl]
    have e : leapL (.ev, ps) y = decide (cnt (.ev, ps) (y - 1) < cnt (.ev, ps) y) := rfl
    rw [e] at hq
    exact ⟨hg, hz, hg, hz1, hq⟩
  | no => exact absurd hg goodNo
  | pa =>
    rw [goodPa] at hg
    rw [if_neg (fun z => nomatch z)]
    show compW _ (ps.map D.I) [] _
    refine compW_filter (p := fun q => decide (y.fmod q = 0)) (g := PyData.int) ?_ (fun x hx K' h1 h2 => ?_) ?_
    · rw [sl]; have := hg.2.1; omega
    · have := hg.2.2.1 x hx
      simp only [wpS, wp, getV, getB, initE, endF, bindG, List.map_cons, List.map_nil, List.length_cons, List.length_nil, List.cons_append, List.nil_append, List.append_nil, List.getElem?_cons_zero, List.getElem?_cons_succ, List.set_cons_zero, List.set_cons_succ, partD, k_L, k_T, l_lenT, l_lenL, l_int, l_intB, l_abs, l_max2, l_max3, l_max4, l_min2, l_maxL, l_minL, l_sum, l_all, l_any, l_tupL, l_tupT, l_lisL, l_lisT, r_1, r_2, r_l, i_L, i_T, i_A, if_true, if_false, ite_true, ite_false, not_false_eq_true, not_true_eq_false, Bool.false_eq_true, ite_not, b_add, b_addT, b_addL, b_sub, b_subB, b_mul, b_mulT, b_mulL, b_fdiv, b_mod, b_pow, a_add, a_sub, a_mul, a_fdiv, c_lt, c_le, c_gt, c_ge, c_eqI, c_neI, c_eqB, c_neB, seqP, pysD, Option.map_some, List.replicate_zero, List.replicate_succ, Nat.zero_add, Nat.add_zero, Nat.reduceAdd, Nat.reduceSub, Nat.reduceLeDiff, decide_eq_true_eq, Bool.not_eq_true', decide_eq_false_iff_not, Nat.sub_self, Option.some.injEq, exists_eq_left', exists_eq_left, x_pick, f_pr, f_qd, f_prT, f_qdT, x_pr0, x_pr1, x_qd0, x_qd1, x_qd2, x_qd3, g_pr, g_qd, l_pr, l_qd, l_prs, l_ti, l_li, c_eq_pr, c_ne_pr, c_eq_qd, c_ne_qd, i_pr, i_qd, i_prs, i_ti, i_li, true_and, and_true, sl0, sl1, sl2, sl3, sl4, sl5, sl6, sl7, sl8, sl9, sl10, sl11, sl12, sl13, sl14, mketa, wipe1, shE_cons, shE_nil, shS_sh, shS_ow, shS_none, eq_self, and_self, decide_true, decide_false, reduceCtorEq, false_and, and_false, true_implies, false_implies, implies_true, not_true_eq_false, Bool.not_true, Bool.not_false, Bool.true_and, Bool.false_and, Bool.and_true, Bool.and_false, Bool.or_true, Bool.true_or, Bool.or_false, Bool.false_or, Int.reduceLT, Int.reduceLE, Nat.reduceLT, x_ru0, x_ru1, c_ev, c_pa, g_ti, k_ti1, wipe2, h_law_count2, p_law_count2]
      refine ⟨by omega, ?_⟩
      split
      · rename_i h
        exact h1 (decide_eq_true h)
      · rename_i h
        exact h2 (decide_eq_false h)
    · rw [List.length_map]
      exact ⟨by decide, hq⟩
theorem s_law_wrong_rule {Φ : PhiT} (h_law_next : Φ 1 = C_law_next) (ds : List D) (Q : D → Prop) (E : Nat → Prop) (h : C_law_wrong_rule ds Q E) : ds.length = 1 ∧ wpS Φ exName b_law_wrong_rule (initE n_law_wrong_rule ds) (endF Q E) := by
  obtain ⟨rfl, hq⟩ := h
  refine ⟨rfl, ?_⟩
  simp only [wpS, wp, getV, getB, initE, endF, bindG, List.map_cons, List.map_nil, List.length_cons, List.length_nil, List.cons_append, List.nil_append, List.append_nil, List.getElem?_cons_zero, List.getElem?_cons_succ, List.set_cons_zero, List.set_cons_succ, partD, k_L, k_T, l_lenT, l_lenL, l_int, l_intB, l_abs, l_max2, l_max3, l_max4, l_min2, l_maxL, l_minL, l_sum, l_all, l_any, l_tupL, l_tupT, l_lisL, l_lisT, r_1, r_2, r_l, i_L, i_T, i_A, if_true, if_false, ite_true, ite_false, not_false_eq_true, not_true_eq_false, Bool.false_eq_true, ite_not, b_add, b_addT, b_addL, b_sub, b_subB, b_mul, b_mulT, b_mulL, b_fdiv, b_mod, b_pow, a_add, a_sub, a_mul, a_fdiv, c_lt, c_le, c_gt, c_ge, c_eqI, c_neI, c_eqB, c_neB, seqP, pysD, Option.map_some, List.replicate_zero, List.replicate_succ, Nat.zero_add, Nat.add_zero, Nat.reduceAdd, Nat.reduceSub, Nat.reduceLeDiff, decide_eq_true_eq, Bool.not_eq_true', decide_eq_false_iff_not, Nat.sub_self, Option.some.injEq, exists_eq_left', exists_eq_left, x_pick, f_pr, f_qd, f_prT, f_qdT, x_pr0, x_pr1, x_qd0, x_qd1, x_qd2, x_qd3, g_pr, g_qd, l_pr, l_qd, l_prs, l_ti, l_li, c_eq_pr, c_ne_pr, c_eq_qd, c_ne_qd, i_pr, i_qd, i_prs, i_ti, i_li, true_and, and_true, sl0, sl1, sl2, sl3, sl4, sl5, sl6, sl7, sl8, sl9, sl10, sl11, sl12, sl13, sl14, mketa, wipe1, shE_cons, shE_nil, shS_sh, shS_ow, shS_none, eq_self, and_self, decide_true, decide_false, reduceCtorEq, false_and, and_false, true_implies, false_implies, implies_true, not_true_eq_false, Bool.not_true, Bool.not_false, Bool.true_and, Bool.false_and, Bool.and_true, Bool.and_false, Bool.or_true, Bool.true_or, Bool.or_false, Bool.false_or, Int.reduceLT, Int.reduceLE, Nat.reduceLT, x_ru0, x_ru1, c_ev, c_pa, g_ti, k_ti1, wipe2, h_law_next, p_law_next, b_law_wrong_rule, n_law_wrong_rule]
  refine fun x h0 h1 => ixL_any h0 (by simp only [List.length_cons, List.length_nil]; omega) fun p hp => ?_
  simp only [List.mem_cons, List.not_mem_nil, or_false] at hp
  have no1 : ∀ {k : Kd}, ¬ k = .ev → ∀ {l : List Int}, k = .ev → ∃ a b c, l = [a, b, c] := fun h _ z => absurd z h
  have no2 : ∀ {k : Kd}, ¬ k = .pa → ∀ {l : List Int}, k = .pa → (∀ x ∈ l, 1 ≤ x) ∨ l = [0] := fun h _ z => absurd z h
  rcases hp with rfl | rfl | rfl | rfl | rfl | rfl | rfl | rfl | rfl | rfl | rfl | rfl | rfl | rfl
  · exact hq (.pa, []) ⟨(fun z => absurd z (by decide)), fun _ => .inl (by decide), by decide, by decide⟩ (by rw [goodPa]; exact fun z => absurd z.1 (by decide))
  · exact hq (.pa, [0]) ⟨(fun z => absurd z (by decide)), fun _ => .inr rfl, by decide, by decide⟩ (by rw [goodPa]; exact fun z => absurd (z.2.2.1 0 (by decide)) (by decide))
  · exact hq (.pa, [4, 4]) ⟨(fun z => absurd z (by decide)), fun _ => .inl (by decide), by decide, by decide⟩ (by rw [goodPa]; exact fun z => absurd z.2.2.2.1.1 (by decide))
  · exact hq (.pa, [4, 6]) ⟨(fun z => absurd z (by decide)), fun _ => .inl (by decide), by decide, by decide⟩ (by rw [goodPa]; exact fun z => absurd z.2.2.2.1.2 (by decide))
  · exact hq (.pa, [8, 4]) ⟨(fun z => absurd z (by decide)), fun _ => .inl (by decide), by decide, by decide⟩ (by rw [goodPa]; exact fun z => absurd z.2.2.2.1.1 (by decide))
  · exact hq (.pa, [1, 2, 4, 8, 16]) ⟨(fun z => absurd z (by decide)), fun _ => .inl (by decide), by decide, by decide⟩ (by rw [goodPa]; exact fun z => absurd z.2.1 (by decide))
  · exact hq (.pa, [4, 4004]) ⟨(fun z => absurd z (by decide)), fun _ => .inl (by decide), by decide, by decide⟩ (by rw [goodPa]; exact fun z => absurd (z.2.2.1 4004 (by decide)).2 (by decide))
  · exact hq (.no, [4]) ⟨(fun z => absurd z (by decide)), (fun z => absurd z (by decide)), by decide, by decide⟩ goodNo
  · exact hq (.ev, [1, 0, 0]) ⟨fun _ => ⟨_, _, _, rfl⟩, (fun z => absurd z (by decide)), by decide, by decide⟩ (by rw [goodEv]; omega)
  · exact hq (.ev, [5, 4, 0]) ⟨fun _ => ⟨_, _, _, rfl⟩, (fun z => absurd z (by decide)), by decide, by decide⟩ (by rw [goodEv]; omega)
  · exact hq (.ev, [-1, 4, 0]) ⟨fun _ => ⟨_, _, _, rfl⟩, (fun z => absurd z (by decide)), by decide, by decide⟩ (by rw [goodEv]; omega)
  · exact hq (.ev, [1, 4, 4]) ⟨fun _ => ⟨_, _, _, rfl⟩, (fun z => absurd z (by decide)), by decide, by decide⟩ (by rw [goodEv]; omega)
  · exact hq (.ev, [1, 4, -1]) ⟨fun _ => ⟨_, _, _, rfl⟩, (fun z => absurd z (by decide)), by decide, by decide⟩ (by rw [goodEv]; omega)
  · exact hq (.ev, [1, 4001, 0]) ⟨fun _ => ⟨_, _, _, rfl⟩, (fun z => absurd z (by decide)), by decide, by decide⟩ (by rw [goodEv]; omega)
theorem c_refused {Q : D → Prop} (hq : Q (.B false)) : cmpD .NotEq (.T [.str (exName 0)]) (.T [.str "refused"]) Q := by
  have e : exName 0 = "refused" := rfl
  rw [e]
  exact c_ne_str (shk_str (by decide +kernel)) (shk_str (by decide +kernel)) (by rw [decide_eq_true rfl]; exact hq)
theorem c_missing {Q : D → Prop} (hq : Q (.B false)) : cmpD .NotEq (.T [.str (exName 2)]) (.T [.str "missing"]) Q := by
  have e : exName 2 = "missing" := rfl
  rw [e]
  exact c_ne_str (shk_str (by decide +kernel)) (shk_str (by decide +kernel)) (by rw [decide_eq_true rfl]; exact hq)
theorem c_told {Q : D → Prop} : cmpD .NotEq (.py (.str "told")) (.py (.str "told")) Q = Q (.B false) := by
  have e : cmpD .NotEq (.py (.str "told")) (.py (.str "told")) Q = ((SeqAt.shaped (.str "told") = true ∧ SeqAt.shaped (.str "told") = true) ∧ Q (.B (!PyData.eqv (.str "told") (.str "told")))) := rfl
  rw [e]
  exact propext ⟨fun h => h.2, fun h => ⟨by decide +kernel, h⟩⟩
theorem getD_range (l : List Int) : (List.range l.length).map (fun k => l.getD k 0) = l := by
  refine List.ext_getElem? fun i => ?_
  rw [List.getElem?_map]
  by_cases h : i < l.length
  · rw [List.getElem?_range h, List.getElem?_eq_getElem h]
    show some (l.getD i 0) = _
    rw [List.getD_eq_getElem?_getD, List.getElem?_eq_getElem h]
    rfl
  · rw [List.getElem?_eq_none (by rw [List.length_range]; omega), List.getElem?_eq_none (by omega)]
    rfl
theorem mn_uniq {a b : Int} {l : List Int} (h : IsMn a l) (g : a ∈ l → (∀ y ∈ l, a ≤ y) → True) (hb : b ∈ l) (hb2 : ∀ y ∈ l, b ≤ y) : b = a := by
  have := h.2 b hb
  have := hb2 a h.1
  omega
theorem mx_uniq {a b : Int} {l : List Int} (h : IsMx a l) (hb : b ∈ l) (hb2 : ∀ y ∈ l, y ≤ b) : b = a := by
  have := h.2 b hb
  have := hb2 a h.1
  omega
theorem if_rfl {α : Type} {a : α} {i : Decidable (a = a)} {p q : Prop} (h : p) : @ite Prop (a = a) i p q := by
  rw [if_pos rfl]
  exact h
theorem w_fors {Φ : PhiT} {exN : Nat → Str} {tg src : C} {body r : Y.S} {ρ : Ev} {Dn : En} : wpS Φ exN (.seq (.for_ tg src body) r) ρ Dn = wpS Φ exN (.for_ tg src body) ρ { Dn with nx := fun ρ1 => wpS Φ exN r ρ1 Dn } := rfl
theorem las_snoc : ∀ {l : List Int} {m : Int}, las (l ++ [m]) = m
  | [], _ => rfl
  | [x], _ => rfl
  | x :: y :: r, m => las_snoc (l := y :: r)
theorem chn_snoc : ∀ {l : List Int} {m : Int}, chn l → l ≠ [] → las l < m → m.fmod (las l) = 0 → chn (l ++ [m])
  | [x], m, _, _, h1, h2 => ⟨⟨h1, h2⟩, True.intro⟩
  | x :: y :: r, m, h, _, h1, h2 => ⟨h.1, chn_snoc (l := y :: r) h.2 (List.cons_ne_nil _ _) h1 h2⟩
theorem ix_lasL {Q : D → Prop} {l : List Int} (h : l ≠ []) (hq : Q (.I (las l))) : ixD (.L (l.map PyData.int)) (.py (.int (-1))) Q := ix_las (Q := Q) h hq
theorem s_law_rule {Φ : PhiT} (h_law_next : Φ 1 = C_law_next) (h_law_great : Φ 131 = C_law_great) (ds : List D) (Q : D → Prop) (E : Nat → Prop) (h : C_law_rule ds Q E) : ds.length = 1 ∧ wpS Φ exName b_law_rule (initE n_law_rule ds) (endF Q E) := by
  obtain ⟨rfl, hq⟩ := h
  refine ⟨rfl, ?_⟩
  simp only [w_nil, w_asg, w_asgL, w_unp, w_par, w_par3, w_aug, w_app, w_ext, w_seti, w_frz, w_expr, w_ret, w_raise, w_brk, w_cont, w_pass, wp, getV, getB, initE, endF, bindG, List.map_cons, List.map_nil, List.length_cons, List.length_nil, List.cons_append, List.nil_append, List.append_nil, List.getElem?_cons_zero, List.getElem?_cons_succ, List.set_cons_zero, List.set_cons_succ, partD, k_L, k_T, l_lenT, l_lenL, l_int, l_intB, l_abs, l_max2, l_max3, l_max4, l_min2, l_maxL, l_minL, l_sum, l_all, l_any, l_tupL, l_tupT, l_lisL, l_lisT, r_1, r_2, r_l, i_L, i_T, i_A, if_true, if_false, ite_true, ite_false, not_false_eq_true, not_true_eq_false, Bool.false_eq_true, ite_not, b_add, b_addT, b_addL, b_sub, b_subB, b_mul, b_mulT, b_mulL, b_fdiv, b_mod, b_pow, a_add, a_sub, a_mul, a_fdiv, c_lt, c_le, c_gt, c_ge, c_eqI, c_neI, c_eqB, c_neB, seqP, pysD, Option.map_some, List.replicate_zero, List.replicate_succ, Nat.zero_add, Nat.add_zero, Nat.reduceAdd, Nat.reduceSub, Nat.reduceLeDiff, decide_eq_true_eq, Bool.not_eq_true', decide_eq_false_iff_not, Nat.sub_self, Option.some.injEq, exists_eq_left', exists_eq_left, x_pick, f_pr, f_qd, f_prT, f_qdT, x_pr0, x_pr1, x_qd0, x_qd1, x_qd2, x_qd3, g_pr, g_qd, l_pr, l_qd, l_prs, l_ti, l_li, c_eq_pr, c_ne_pr, c_eq_qd, c_ne_qd, i_pr, i_qd, i_prs, i_ti, i_li, true_and, and_true, sl0, sl1, sl2, sl3, sl4, sl5, sl6, sl7, sl8, sl9, sl10, sl11, sl12, sl13, sl14, mketa, wipe1, shE_cons, shE_nil, shS_sh, shS_ow, shS_none, eq_self, and_self, decide_true, decide_false, reduceCtorEq, false_and, and_false, true_implies, false_implies, implies_true, not_true_eq_false, Bool.not_true, Bool.not_false, Bool.true_and, Bool.false_and, Bool.and_true, Bool.and_false, Bool.or_true, Bool.true_or, Bool.or_false, Bool.false_or, Int.reduceLT, Int.reduceLE, Nat.reduceLT, x_ru0, x_ru1, c_ev, c_pa, g_ti, k_ti1, wipe2, h_law_next, h_law_great, p_law_next, p_law_great, b_law_rule, n_law_rule]
  rw [w_ite]
  simp only [w_nil, w_asg, w_asgL, w_unp, w_par, w_par3, w_aug, w_app, w_ext, w_seti, w_frz, w_expr, w_ret, w_raise, w_brk, w_cont, w_pass, wp, getV, getB, initE, endF, bindG, List.map_cons, List.map_nil, List.length_cons, List.length_nil, List.cons_append, List.nil_append, List.append_nil, List.getElem?_cons_zero, List.getElem?_cons_succ, List.set_cons_zero, List.set_cons_succ, partD, k_L, k_T, l_lenT, l_lenL, l_int, l_intB, l_abs, l_max2, l_max3, l_max4, l_min2, l_maxL, l_minL, l_sum, l_all, l_any, l_tupL, l_tupT, l_lisL, l_lisT, r_1, r_2, r_l, i_L, i_T, i_A, if_true, if_false, ite_true, ite_false, not_false_eq_true, not_true_eq_false, Bool.false_eq_true, ite_not, b_add, b_addT, b_addL, b_sub, b_subB, b_mul, b_mulT, b_mulL, b_fdiv, b_mod, b_pow, a_add, a_sub, a_mul, a_fdiv, c_lt, c_le, c_gt, c_ge, c_eqI, c_neI, c_eqB, c_neB, seqP, pysD, Option.map_some, List.replicate_zero, List.replicate_succ, Nat.zero_add, Nat.add_zero, Nat.reduceAdd, Nat.reduceSub, Nat.reduceLeDiff, decide_eq_true_eq, Bool.not_eq_true', decide_eq_false_iff_not, Nat.sub_self, Option.some.injEq, exists_eq_left', exists_eq_left, x_pick, f_pr, f_qd, f_prT, f_qdT, x_pr0, x_pr1, x_qd0, x_qd1, x_qd2, x_qd3, g_pr, g_qd, l_pr, l_qd, l_prs, l_ti, l_li, c_eq_pr, c_ne_pr, c_eq_qd, c_ne_qd, i_pr, i_qd, i_prs, i_ti, i_li, true_and, and_true, sl0, sl1, sl2, sl3, sl4, sl5, sl6, sl7, sl8, sl9, sl10, sl11, sl12, sl13, sl14, mketa, wipe1, shE_cons, shE_nil, shS_sh, shS_ow, shS_none, eq_self, and_self, decide_true, decide_false, reduceCtorEq, false_and, and_false, true_implies, false_implies, implies_true, not_true_eq_false, Bool.not_true, Bool.not_false, Bool.true_and, Bool.false_and, Bool.and_true, Bool.and_false, Bool.or_true, Bool.true_or, Bool.or_false, Bool.false_or, Int.reduceLT, Int.reduceLE, Nat.reduceLT, x_ru0, x_ru1, c_ev, c_pa, g_ti, k_ti1, wipe2, h_law_next, h_law_great, p_law_next, p_law_great]
  refine fun x hx hx2 => ?_
  split
  · refine fun a ha ha2 => ixL_any ha (by simp only [List.length_cons, List.length_nil]; omega) fun p hp => ?_
    obtain ⟨c, rfl, hc1, hc2⟩ : ∃ c : Int, p = .int c ∧ 1 ≤ c ∧ c ≤ 90 := by
      simp only [List.mem_cons, List.not_mem_nil, or_false] at hp
      rcases hp with rfl | rfl | rfl
      · exact ⟨_, rfl, by omega, by omega⟩
      · exact ⟨_, rfl, by omega, by omega⟩
      · exact ⟨_, rfl, by omega, by omega⟩
    simp only [w_nil, w_asg, w_asgL, w_unp, w_par, w_par3, w_aug, w_app, w_ext, w_seti, w_frz, w_expr, w_ret, w_raise, w_brk, w_cont, w_pass, wp, getV, getB, initE, endF, bindG, List.map_cons, List.map_nil, List.length_cons, List.length_nil, List.cons_append, List.nil_append, List.append_nil, List.getElem?_cons_zero, List.getElem?_cons_succ, List.set_cons_zero, List.set_cons_succ, partD, k_L, k_T, l_lenT, l_lenL, l_int, l_intB, l_abs, l_max2, l_max3, l_max4, l_min2, l_maxL, l_minL, l_sum, l_all, l_any, l_tupL, l_tupT, l_lisL, l_lisT, r_1, r_2, r_l, i_L, i_T, i_A, if_true, if_false, ite_true, ite_false, not_false_eq_true, not_true_eq_false, Bool.false_eq_true, ite_not, b_add, b_addT, b_addL, b_sub, b_subB, b_mul, b_mulT, b_mulL, b_fdiv, b_mod, b_pow, a_add, a_sub, a_mul, a_fdiv, c_lt, c_le, c_gt, c_ge, c_eqI, c_neI, c_eqB, c_neB, seqP, pysD, Option.map_some, List.replicate_zero, List.replicate_succ, Nat.zero_add, Nat.add_zero, Nat.reduceAdd, Nat.reduceSub, Nat.reduceLeDiff, decide_eq_true_eq, Bool.not_eq_true', decide_eq_false_iff_not, Nat.sub_self, Option.some.injEq, exists_eq_left', exists_eq_left, x_pick, f_pr, f_qd, f_prT, f_qdT, x_pr0, x_pr1, x_qd0, x_qd1, x_qd2, x_qd3, g_pr, g_qd, l_pr, l_qd, l_prs, l_ti, l_li, c_eq_pr, c_ne_pr, c_eq_qd, c_ne_qd, i_pr, i_qd, i_prs, i_ti, i_li, true_and, and_true, sl0, sl1, sl2, sl3, sl4, sl5, sl6, sl7, sl8, sl9, sl10, sl11, sl12, sl13, sl14, mketa, wipe1, shE_cons, shE_nil, shS_sh, shS_ow, shS_none, eq_self, and_self, decide_true, decide_false, reduceCtorEq, false_and, and_false, true_implies, false_implies, implies_true, not_true_eq_false, Bool.not_true, Bool.not_false, Bool.true_and, Bool.false_and, Bool.and_true, Bool.and_false, Bool.or_true, Bool.true_or, Bool.or_false, Bool.false_or, Int.reduceLT, Int.reduceLE, Nat.reduceLT, x_ru0, x_ru1, c_ev, c_pa, g_ti, k_ti1, wipe2, h_law_next, h_law_great, p_law_next, p_law_great]
    refine ⟨by omega, fun b hb hb2 => ?_⟩
    refine seq_by (fun ρ => ∃ (ps : List Int) (s4 s5 : Option Sl), ρ = [some (.sh .st), none, none, some (.ow (ps.map PyData.int)), s4, s5] ∧ goodP ps) (fun R hR => ?_) ?_
    · rw [w_for]
      simp only [w_nil, w_asg, w_asgL, w_unp, w_par, w_par3, w_aug, w_app, w_ext, w_seti, w_frz, w_expr, w_ret, w_raise, w_brk, w_cont, w_pass, wp, getV, getB, initE, endF, bindG, List.map_cons, List.map_nil, List.length_cons, List.length_nil, List.cons_append, List.nil_append, List.append_nil, List.getElem?_cons_zero, List.getElem?_cons_succ, List.set_cons_zero, List.set_cons_succ, partD, k_L, k_T, l_lenT, l_lenL, l_int, l_intB, l_abs, l_max2, l_max3, l_max4, l_min2, l_maxL, l_minL, l_sum, l_all, l_any, l_tupL, l_tupT, l_lisL, l_lisT, r_1, r_2, r_l, i_L, i_T, i_A, if_true, if_false, ite_true, ite_false, not_false_eq_true, not_true_eq_false, Bool.false_eq_true, ite_not, b_add, b_addT, b_addL, b_sub, b_subB, b_mul, b_mulT, b_mulL, b_fdiv, b_mod, b_pow, a_add, a_sub, a_mul, a_fdiv, c_lt, c_le, c_gt, c_ge, c_eqI, c_neI, c_eqB, c_neB, seqP, pysD, Option.map_some, List.replicate_zero, List.replicate_succ, Nat.zero_add, Nat.add_zero, Nat.reduceAdd, Nat.reduceSub, Nat.reduceLeDiff, decide_eq_true_eq, Bool.not_eq_true', decide_eq_false_iff_not, Nat.sub_self, Option.some.injEq, exists_eq_left', exists_eq_left, x_pick, f_pr, f_qd, f_prT, f_qdT, x_pr0, x_pr1, x_qd0, x_qd1, x_qd2, x_qd3, g_pr, g_qd, l_pr, l_qd, l_prs, l_ti, l_li, c_eq_pr, c_ne_pr, c_eq_qd, c_ne_qd, i_pr, i_qd, i_prs, i_ti, i_li, true_and, and_true, sl0, sl1, sl2, sl3, sl4, sl5, sl6, sl7, sl8, sl9, sl10, sl11, sl12, sl13, sl14, mketa, wipe1, shE_cons, shE_nil, shS_sh, shS_ow, shS_none, eq_self, and_self, decide_true, decide_false, reduceCtorEq, false_and, and_false, true_implies, false_implies, implies_true, not_true_eq_false, Bool.not_true, Bool.not_false, Bool.true_and, Bool.false_and, Bool.and_true, Bool.and_false, Bool.or_true, Bool.true_or, Bool.or_false, Bool.false_or, Int.reduceLT, Int.reduceLE, Nat.reduceLT, x_ru0, x_ru1, c_ev, c_pa, g_ti, k_ti1, wipe2, h_law_next, h_law_great, p_law_next, p_law_great]
      refine fun n hn hn2 => ⟨by omega, ?_⟩
      refine forW_rule (fun i ρ => ∃ (ps : List Int) (s4 s5 : Option Sl), ρ = [some (.sh .st), none, none, some (.ow (ps.map PyData.int)), s4, s5] ∧ goodP ps ∧ ps.length ≤ 1 + i) ⟨[1 + b], none, none, rfl, ⟨Nat.le_refl 1, (by show 1 ≤ 4; decide), fun q hq => by rw [List.mem_singleton.mp hq]; omega, True.intro⟩, Nat.le_refl 1⟩ ?_ ?_
      · rintro i d ρ K hd ⟨ps, s4, s5, rfl, hg, hl⟩ hK
        obtain ⟨rfl, hi⟩ := rangeD_get hd
        have ne : ps ≠ [] := by intro z; rw [z] at hg; exact absurd hg.1 (by decide)
        have hlas := hg.2.2.1 _ (las_mem ne)
        simp only [w_nil, w_asg, w_asgL, w_unp, w_par, w_par3, w_aug, w_app, w_ext, w_seti, w_frz, w_expr, w_ret, w_raise, w_brk, w_cont, w_pass, wp, getV, getB, initE, endF, bindG, List.map_cons, List.map_nil, List.length_cons, List.length_nil, List.cons_append, List.nil_append, List.append_nil, List.getElem?_cons_zero, List.getElem?_cons_succ, List.set_cons_zero, List.set_cons_succ, partD, k_L, k_T, l_lenT, l_lenL, l_int, l_intB, l_abs, l_max2, l_max3, l_max4, l_min2, l_maxL, l_minL, l_sum, l_all, l_any, l_tupL, l_tupT, l_lisL, l_lisT, r_1, r_2, r_l, i_L, i_T, i_A, if_true, if_false, ite_true, ite_false, not_false_eq_true, not_true_eq_false, Bool.false_eq_true, ite_not, b_add, b_addT, b_addL, b_sub, b_subB, b_mul, b_mulT, b_mulL, b_fdiv, b_mod, b_pow, a_add, a_sub, a_mul, a_fdiv, c_lt, c_le, c_gt, c_ge, c_eqI, c_neI, c_eqB, c_neB, seqP, pysD, Option.map_some, List.replicate_zero, List.replicate_succ, Nat.zero_add, Nat.add_zero, Nat.reduceAdd, Nat.reduceSub, Nat.reduceLeDiff, decide_eq_true_eq, Bool.not_eq_true', decide_eq_false_iff_not, Nat.sub_self, Option.some.injEq, exists_eq_left', exists_eq_left, x_pick, f_pr, f_qd, f_prT, f_qdT, x_pr0, x_pr1, x_qd0, x_qd1, x_qd2, x_qd3, g_pr, g_qd, l_pr, l_qd, l_prs, l_ti, l_li, c_eq_pr, c_ne_pr, c_eq_qd, c_ne_qd, i_pr, i_qd, i_prs, i_ti, i_li, true_and, and_true, sl0, sl1, sl2, sl3, sl4, sl5, sl6, sl7, sl8, sl9, sl10, sl11, sl12, sl13, sl14, mketa, wipe1, shE_cons, shE_nil, shS_sh, shS_ow, shS_none, eq_self, and_self, decide_true, decide_false, reduceCtorEq, false_and, and_false, true_implies, false_implies, implies_true, not_true_eq_false, Bool.not_true, Bool.not_false, Bool.true_and, Bool.false_and, Bool.and_true, Bool.and_false, Bool.or_true, Bool.true_or, Bool.or_false, Bool.false_or, Int.reduceLT, Int.reduceLE, Nat.reduceLT, x_ru0, x_ru1, c_ev, c_pa, g_ti, k_ti1, wipe2, h_law_next, h_law_great, p_law_next, p_law_great]
        refine ix_lasL ne ?_
        refine fun u hu hu2 => ixL_any hu (by simp only [List.length_cons, List.length_nil]; omega) fun p hp => ?_
        obtain ⟨c, rfl, hc1, hc2⟩ : ∃ c : Int, p = .int c ∧ 1 ≤ c ∧ c ≤ 24 := by
          simp only [List.mem_cons, List.not_mem_nil, or_false] at hp
          rcases hp with rfl | rfl
          · exact ⟨_, rfl, by omega, by omega⟩
          · exact ⟨_, rfl, by omega, by omega⟩
        simp only [w_nil, w_asg, w_asgL, w_unp, w_par, w_par3, w_aug, w_app, w_ext, w_seti, w_frz, w_expr, w_ret, w_raise, w_brk, w_cont, w_pass, wp, getV, getB, initE, endF, bindG, List.map_cons, List.map_nil, List.length_cons, List.length_nil, List.cons_append, List.nil_append, List.append_nil, List.getElem?_cons_zero, List.getElem?_cons_succ, List.set_cons_zero, List.set_cons_succ, partD, k_L, k_T, l_lenT, l_lenL, l_int, l_intB, l_abs, l_max2, l_max3, l_max4, l_min2, l_maxL, l_minL, l_sum, l_all, l_any, l_tupL, l_tupT, l_lisL, l_lisT, r_1, r_2, r_l, i_L, i_T, i_A, if_true, if_false, ite_true, ite_false, not_false_eq_true, not_true_eq_false, Bool.false_eq_true, ite_not, b_add, b_addT, b_addL, b_sub, b_subB, b_mul, b_mulT, b_mulL, b_fdiv, b_mod, b_pow, a_add, a_sub, a_mul, a_fdiv, c_lt, c_le, c_gt, c_ge, c_eqI, c_neI, c_eqB, c_neB, seqP, pysD, Option.map_some, List.replicate_zero, List.replicate_succ, Nat.zero_add, Nat.add_zero, Nat.reduceAdd, Nat.reduceSub, Nat.reduceLeDiff, decide_eq_true_eq, Bool.not_eq_true', decide_eq_false_iff_not, Nat.sub_self, Option.some.injEq, exists_eq_left', exists_eq_left, x_pick, f_pr, f_qd, f_prT, f_qdT, x_pr0, x_pr1, x_qd0, x_qd1, x_qd2, x_qd3, g_pr, g_qd, l_pr, l_qd, l_prs, l_ti, l_li, c_eq_pr, c_ne_pr, c_eq_qd, c_ne_qd, i_pr, i_qd, i_prs, i_ti, i_li, true_and, and_true, sl0, sl1, sl2, sl3, sl4, sl5, sl6, sl7, sl8, sl9, sl10, sl11, sl12, sl13, sl14, mketa, wipe1, shE_cons, shE_nil, shS_sh, shS_ow, shS_none, eq_self, and_self, decide_true, decide_false, reduceCtorEq, false_and, and_false, true_implies, false_implies, implies_true, not_true_eq_false, Bool.not_true, Bool.not_false, Bool.true_and, Bool.false_and, Bool.and_true, Bool.and_false, Bool.or_true, Bool.true_or, Bool.or_false, Bool.false_or, Int.reduceLT, Int.reduceLE, Nat.reduceLT, x_ru0, x_ru1, c_ev, c_pa, g_ti, k_ti1, wipe2, h_law_next, h_law_great, p_law_next, p_law_great]
        refine ⟨by omega, fun v hv hv2 => ⟨cmz (n := 64) (m := 64) (Z.at64 (by omega)) (Z.at64 (by omega)) (by decide) (by decide), ?_⟩⟩
        have n1 : las ps * 2 ≤ las ps * (2 + v) := Int.mul_le_mul_of_nonneg_left (by omega) (by omega)
        have n2 : (las ps * (2 + v)).fmod (las ps) = 0 := by
          rw [Int.fmod_eq_emod_of_nonneg _ (by omega)]
          exact Int.mul_emod_right _ _
        generalize las ps * (2 + v) = m at *
        rw [w_ite]
        simp only [w_nil, w_asg, w_asgL, w_unp, w_par, w_par3, w_aug, w_app, w_ext, w_seti, w_frz, w_expr, w_ret, w_raise, w_brk, w_cont, w_pass, wp, getV, getB, initE, endF, bindG, List.map_cons, List.map_nil, List.length_cons, List.length_nil, List.cons_append, List.nil_append, List.append_nil, List.getElem?_cons_zero, List.getElem?_cons_succ, List.set_cons_zero, List.set_cons_succ, partD, k_L, k_T, l_lenT, l_lenL, l_int, l_intB, l_abs, l_max2, l_max3, l_max4, l_min2, l_maxL, l_minL, l_sum, l_all, l_any, l_tupL, l_tupT, l_lisL, l_lisT, r_1, r_2, r_l, i_L, i_T, i_A, if_true, if_false, ite_true, ite_false, not_false_eq_true, not_true_eq_false, Bool.false_eq_true, ite_not, b_add, b_addT, b_addL, b_sub, b_subB, b_mul, b_mulT, b_mulL, b_fdiv, b_mod, b_pow, a_add, a_sub, a_mul, a_fdiv, c_lt, c_le, c_gt, c_ge, c_eqI, c_neI, c_eqB, c_neB, seqP, pysD, Option.map_some, List.replicate_zero, List.replicate_succ, Nat.zero_add, Nat.add_zero, Nat.reduceAdd, Nat.reduceSub, Nat.reduceLeDiff, decide_eq_true_eq, Bool.not_eq_true', decide_eq_false_iff_not, Nat.sub_self, Option.some.injEq, exists_eq_left', exists_eq_left, x_pick, f_pr, f_qd, f_prT, f_qdT, x_pr0, x_pr1, x_qd0, x_qd1, x_qd2, x_qd3, g_pr, g_qd, l_pr, l_qd, l_prs, l_ti, l_li, c_eq_pr, c_ne_pr, c_eq_qd, c_ne_qd, i_pr, i_qd, i_prs, i_ti, i_li, true_and, and_true, sl0, sl1, sl2, sl3, sl4, sl5, sl6, sl7, sl8, sl9, sl10, sl11, sl12, sl13, sl14, mketa, wipe1, shE_cons, shE_nil, shS_sh, shS_ow, shS_none, eq_self, and_self, decide_true, decide_false, reduceCtorEq, false_and, and_false, true_implies, false_implies, implies_true, not_true_eq_false, Bool.not_true, Bool.not_false, Bool.true_and, Bool.false_and, Bool.and_true, Bool.and_false, Bool.or_true, Bool.true_or, Bool.or_false, Bool.false_or, Int.reduceLT, Int.reduceLE, Nat.reduceLT, x_ru0, x_ru1, c_ev, c_pa, g_ti, k_ti1, wipe2, h_law_next, h_law_great, p_law_next, p_law_great]
        split
        · rename_i hm
          have em : ps.map PyData.int ++ [PyData.int m] = (ps ++ [m]).map PyData.int := by rw [List.map_append]; rfl
          rw [List.length_map, em]
          refine ⟨by rw [sl]; omega, hK _ ⟨ps ++ [m], _, _, rfl, ⟨?_, ?_, fun q hq => ?_, chn_snoc hg.2.2.2 ne (by omega) n2⟩, ?_⟩⟩
          · rw [List.length_append]; exact Nat.le_add_left _ _
          · rw [List.length_append]
            show ps.length + 1 ≤ 4
            omega
          · rcases List.mem_append.mp hq with z | z
            · exact hg.2.2.1 q z
            · rw [List.mem_singleton.mp z]; omega
          · rw [List.length_append]
            show ps.length + 1 ≤ _
            omega
        · exact hK _ ⟨ps, _, _, rfl, hg, by omega⟩
      · rintro ρ ⟨ps, s4, s5, rfl, hg, hl⟩
        exact hR _ ⟨ps, _, _, rfl, hg⟩
    · rintro ρ ⟨ps, s4, s5, rfl, hg⟩
      simp only [w_nil, w_asg, w_asgL, w_unp, w_par, w_par3, w_aug, w_app, w_ext, w_seti, w_frz, w_expr, w_ret, w_raise, w_brk, w_cont, w_pass, wp, getV, getB, initE, endF, bindG, List.map_cons, List.map_nil, List.length_cons, List.length_nil, List.cons_append, List.nil_append, List.append_nil, List.getElem?_cons_zero, List.getElem?_cons_succ, List.set_cons_zero, List.set_cons_succ, partD, k_L, k_T, l_lenT, l_lenL, l_int, l_intB, l_abs, l_max2, l_max3, l_max4, l_min2, l_maxL, l_minL, l_sum, l_all, l_any, l_tupL, l_tupT, l_lisL, l_lisT, r_1, r_2, r_l, i_L, i_T, i_A, if_true, if_false, ite_true, ite_false, not_false_eq_true, not_true_eq_false, Bool.false_eq_true, ite_not, b_add, b_addT, b_addL, b_sub, b_subB, b_mul, b_mulT, b_mulL, b_fdiv, b_mod, b_pow, a_add, a_sub, a_mul, a_fdiv, c_lt, c_le, c_gt, c_ge, c_eqI, c_neI, c_eqB, c_neB, seqP, pysD, Option.map_some, List.replicate_zero, List.replicate_succ, Nat.zero_add, Nat.add_zero, Nat.reduceAdd, Nat.reduceSub, Nat.reduceLeDiff, decide_eq_true_eq, Bool.not_eq_true', decide_eq_false_iff_not, Nat.sub_self, Option.some.injEq, exists_eq_left', exists_eq_left, x_pick, f_pr, f_qd, f_prT, f_qdT, x_pr0, x_pr1, x_qd0, x_qd1, x_qd2, x_qd3, g_pr, g_qd, l_pr, l_qd, l_prs, l_ti, l_li, c_eq_pr, c_ne_pr, c_eq_qd, c_ne_qd, i_pr, i_qd, i_prs, i_ti, i_li, true_and, and_true, sl0, sl1, sl2, sl3, sl4, sl5, sl6, sl7, sl8, sl9, sl10, sl11, sl12, sl13, sl14, mketa, wipe1, shE_cons, shE_nil, shS_sh, shS_ow, shS_none, eq_self, and_self, decide_true, decide_false, reduceCtorEq, false_and, and_false, true_implies, false_implies, implies_true, not_true_eq_false, Bool.not_true, Bool.not_false, Bool.true_and, Bool.false_and, Bool.and_true, Bool.and_false, Bool.or_true, Bool.true_or, Bool.or_false, Bool.false_or, Int.reduceLT, Int.reduceLE, Nat.reduceLT, x_ru0, x_ru1, c_ev, c_pa, g_ti, k_ti1, wipe2, h_law_next, h_law_great, p_law_next, p_law_great]
      exact hq (.pa, ps) (goodPa.mpr hg)
  · refine fun a ha ha2 b hb hb2 c hc hc2 u hu hu2 => ?_
    refine ixL_any hu (by simp only [List.length_cons, List.length_nil]; omega) fun p hp => ?_
    obtain ⟨k, rfl, hk1, hk2⟩ : ∃ k : Int, p = .int k ∧ 0 ≤ k ∧ k ≤ 2 := by
      simp only [List.mem_cons, List.not_mem_nil, or_false] at hp
      rcases hp with rfl | rfl | rfl | rfl | rfl
      all_goals exact ⟨_, rfl, by omega, by omega⟩
    refine ixL_any hk1 (by simp only [List.length_cons, List.length_nil]; omega) fun p hp => ?_
    obtain ⟨n, rfl, hn1, hn2⟩ : ∃ n : Int, p = .int n ∧ 1 ≤ n ∧ n ≤ 4000 := by
      simp only [List.mem_cons, List.not_mem_nil, or_false] at hp
      rcases hp with rfl | rfl | rfl
      all_goals exact ⟨_, rfl, by omega, by omega⟩
    simp only [w_nil, w_asg, w_asgL, w_unp, w_par, w_par3, w_aug, w_app, w_ext, w_seti, w_frz, w_expr, w_ret, w_raise, w_brk, w_cont, w_pass, wp, getV, getB, initE, endF, bindG, List.map_cons, List.map_nil, List.length_cons, List.length_nil, List.cons_append, List.nil_append, List.append_nil, List.getElem?_cons_zero, List.getElem?_cons_succ, List.set_cons_zero, List.set_cons_succ, partD, k_L, k_T, l_lenT, l_lenL, l_int, l_intB, l_abs, l_max2, l_max3, l_max4, l_min2, l_maxL, l_minL, l_sum, l_all, l_any, l_tupL, l_tupT, l_lisL, l_lisT, r_1, r_2, r_l, i_L, i_T, i_A, if_true, if_false, ite_true, ite_false, not_false_eq_true, not_true_eq_false, Bool.false_eq_true, ite_not, b_add, b_addT, b_addL, b_sub, b_subB, b_mul, b_mulT, b_mulL, b_fdiv, b_mod, b_pow, a_add, a_sub, a_mul, a_fdiv, c_lt, c_le, c_gt, c_ge, c_eqI, c_neI, c_eqB, c_neB, seqP, pysD, Option.map_some, List.replicate_zero, List.replicate_succ, Nat.zero_add, Nat.add_zero, Nat.reduceAdd, Nat.reduceSub, Nat.reduceLeDiff, decide_eq_true_eq, Bool.not_eq_true', decide_eq_false_iff_not, Nat.sub_self, Option.some.injEq, exists_eq_left', exists_eq_left, x_pick, f_pr, f_qd, f_prT, f_qdT, x_pr0, x_pr1, x_qd0, x_qd1, x_qd2, x_qd3, g_pr, g_qd, l_pr, l_qd, l_prs, l_ti, l_li, c_eq_pr, c_ne_pr, c_eq_qd, c_ne_qd, i_pr, i_qd, i_prs, i_ti, i_li, true_and, and_true, sl0, sl1, sl2, sl3, sl4, sl5, sl6, sl7, sl8, sl9, sl10, sl11, sl12, sl13, sl14, mketa, wipe1, shE_cons, shE_nil, shS_sh, shS_ow, shS_none, eq_self, and_self, decide_true, decide_false, reduceCtorEq, false_and, and_false, true_implies, false_implies, implies_true, not_true_eq_false, Bool.not_true, Bool.not_false, Bool.true_and, Bool.false_and, Bool.and_true, Bool.and_false, Bool.or_true, Bool.true_or, Bool.or_false, Bool.false_or, Int.reduceLT, Int.reduceLE, Nat.reduceLT, x_ru0, x_ru1, c_ev, c_pa, g_ti, k_ti1, wipe2, h_law_next, h_law_great, p_law_next, p_law_great]
    have f4 : n.fdiv 4 = n / 4 := Int.fdiv_eq_ediv_of_nonneg _ (by omega)
    rw [f4]
    refine ⟨by omega, fun d hd hd2 => ⟨⟨by decide, by decide +kernel⟩, fun v hv hv2 => ?_⟩⟩
    refine ixL_any hv (by simp only [List.length_cons, List.length_nil]; omega) fun p hp => ?_
    obtain ⟨l, rfl, hl1, hl2⟩ : ∃ l : Int, p = .int l ∧ 0 ≤ l ∧ l ≤ n := by
      simp only [List.mem_cons, List.not_mem_nil, or_false] at hp
      rcases hp with rfl | rfl
      all_goals exact ⟨_, rfl, by omega, by omega⟩
    simp only [w_nil, w_asg, w_asgL, w_unp, w_par, w_par3, w_aug, w_app, w_ext, w_seti, w_frz, w_expr, w_ret, w_raise, w_brk, w_cont, w_pass, wp, getV, getB, initE, endF, bindG, List.map_cons, List.map_nil, List.length_cons, List.length_nil, List.cons_append, List.nil_append, List.append_nil, List.getElem?_cons_zero, List.getElem?_cons_succ, List.set_cons_zero, List.set_cons_succ, partD, k_L, k_T, l_lenT, l_lenL, l_int, l_intB, l_abs, l_max2, l_max3, l_max4, l_min2, l_maxL, l_minL, l_sum, l_all, l_any, l_tupL, l_tupT, l_lisL, l_lisT, r_1, r_2, r_l, i_L, i_T, i_A, if_true, if_false, ite_true, ite_false, not_false_eq_true, not_true_eq_false, Bool.false_eq_true, ite_not, b_add, b_addT, b_addL, b_sub, b_subB, b_mul, b_mulT, b_mulL, b_fdiv, b_mod, b_pow, a_add, a_sub, a_mul, a_fdiv, c_lt, c_le, c_gt, c_ge, c_eqI, c_neI, c_eqB, c_neB, seqP, pysD, Option.map_some, List.replicate_zero, List.replicate_succ, Nat.zero_add, Nat.add_zero, Nat.reduceAdd, Nat.reduceSub, Nat.reduceLeDiff, decide_eq_true_eq, Bool.not_eq_true', decide_eq_false_iff_not, Nat.sub_self, Option.some.injEq, exists_eq_left', exists_eq_left, x_pick, f_pr, f_qd, f_prT, f_qdT, x_pr0, x_pr1, x_qd0, x_qd1, x_qd2, x_qd3, g_pr, g_qd, l_pr, l_qd, l_prs, l_ti, l_li, c_eq_pr, c_ne_pr, c_eq_qd, c_ne_qd, i_pr, i_qd, i_prs, i_ti, i_li, true_and, and_true, sl0, sl1, sl2, sl3, sl4, sl5, sl6, sl7, sl8, sl9, sl10, sl11, sl12, sl13, sl14, mketa, wipe1, shE_cons, shE_nil, shS_sh, shS_ow, shS_none, eq_self, and_self, decide_true, decide_false, reduceCtorEq, false_and, and_false, true_implies, false_implies, implies_true, not_true_eq_false, Bool.not_true, Bool.not_false, Bool.true_and, Bool.false_and, Bool.and_true, Bool.and_false, Bool.or_true, Bool.true_or, Bool.or_false, Bool.false_or, Int.reduceLT, Int.reduceLE, Nat.reduceLT, x_ru0, x_ru1, c_ev, c_pa, g_ti, k_ti1, wipe2, h_law_next, h_law_great, p_law_next, p_law_great]
    refine ⟨by omega, fun e he he2 w hw hw2 => ?_⟩
    refine ixL_any hw (by simp only [List.length_cons, List.length_nil]; omega) fun p hp => ?_
    obtain ⟨s, rfl, hs1, hs2⟩ : ∃ s : Int, p = .int s ∧ 0 ≤ s ∧ s < n := by
      simp only [List.mem_cons, List.not_mem_nil, or_false] at hp
      rcases hp with rfl | rfl
      all_goals exact ⟨_, rfl, by omega, by omega⟩
    simp only [w_nil, w_asg, w_asgL, w_unp, w_par, w_par3, w_aug, w_app, w_ext, w_seti, w_frz, w_expr, w_ret, w_raise, w_brk, w_cont, w_pass, wp, getV, getB, initE, endF, bindG, List.map_cons, List.map_nil, List.length_cons, List.length_nil, List.cons_append, List.nil_append, List.append_nil, List.getElem?_cons_zero, List.getElem?_cons_succ, List.set_cons_zero, List.set_cons_succ, partD, k_L, k_T, l_lenT, l_lenL, l_int, l_intB, l_abs, l_max2, l_max3, l_max4, l_min2, l_maxL, l_minL, l_sum, l_all, l_any, l_tupL, l_tupT, l_lisL, l_lisT, r_1, r_2, r_l, i_L, i_T, i_A, if_true, if_false, ite_true, ite_false, not_false_eq_true, not_true_eq_false, Bool.false_eq_true, ite_not, b_add, b_addT, b_addL, b_sub, b_subB, b_mul, b_mulT, b_mulL, b_fdiv, b_mod, b_pow, a_add, a_sub, a_mul, a_fdiv, c_lt, c_le, c_gt, c_ge, c_eqI, c_neI, c_eqB, c_neB, seqP, pysD, Option.map_some, List.replicate_zero, List.replicate_succ, Nat.zero_add, Nat.add_zero, Nat.reduceAdd, Nat.reduceSub, Nat.reduceLeDiff, decide_eq_true_eq, Bool.not_eq_true', decide_eq_false_iff_not, Nat.sub_self, Option.some.injEq, exists_eq_left', exists_eq_left, x_pick, f_pr, f_qd, f_prT, f_qdT, x_pr0, x_pr1, x_qd0, x_qd1, x_qd2, x_qd3, g_pr, g_qd, l_pr, l_qd, l_prs, l_ti, l_li, c_eq_pr, c_ne_pr, c_eq_qd, c_ne_qd, i_pr, i_qd, i_prs, i_ti, i_li, true_and, and_true, sl0, sl1, sl2, sl3, sl4, sl5, sl6, sl7, sl8, sl9, sl10, sl11, sl12, sl13, sl14, mketa, wipe1, shE_cons, shE_nil, shS_sh, shS_ow, shS_none, eq_self, and_self, decide_true, decide_false, reduceCtorEq, false_and, and_false, true_implies, false_implies, implies_true, not_true_eq_false, Bool.not_true, Bool.not_false, Bool.true_and, Bool.false_and, Bool.and_true, Bool.and_false, Bool.or_true, Bool.true_or, Bool.or_false, Bool.false_or, Int.reduceLT, Int.reduceLE, Nat.reduceLT, x_ru0, x_ru1, c_ev, c_pa, g_ti, k_ti1, wipe2, h_law_next, h_law_great, p_law_next, p_law_great]
    exact hq (.ev, [l, n, s]) (goodEv.mpr ⟨⟨hn1, hn2⟩, ⟨hl1, hl2⟩, hs1, hs2⟩)
end Y

/-! part L49 -/
set_option Elab.async false
set_option linter.all false
set_option maxRecDepth 100000
set_option maxHeartbeats 4000000
set_option exponentiation.threshold 10000
namespace Y
open PySem PySem.Spec
theorem ex_red {x b : Int} (h : 0 ≤ x ∧ x ≤ b) (hb : 1 ≤ b ∧ b ≤ 1000) : exC (red x b) ∧ (red x b).2 ≤ 1000 := by
  have e := frac_red (a := x) (b := b) (by omega)
  have o := frac_ok (a := x) (b := b) (by omega)
  have c := frac_cross (a := x) (b := b) (by omega)
  rw [e] at o c
  have d := den_le o (show 0 < b by omega) c
  have r2 := (okF_parts o).1
  refine ⟨⟨o, ?_, ?_⟩, by omega⟩
  · rcases Int.lt_or_le (red x b).1 0 with z | z
    · have : (red x b).1 * b < 0 := Int.mul_neg_of_neg_of_pos z (by omega)
      have : 0 ≤ x * (red x b).2 := Int.mul_nonneg (by omega) (by omega)
      omega
    · exact z
  · have a1 : x * (red x b).2 ≤ b * (red x b).2 := Int.mul_le_mul_of_nonneg_right h.2 (by omega)
    have a2 : (red x b).1 * b ≤ (red x b).2 * b := by
      have : b * (red x b).2 = (red x b).2 * b := Int.mul_comm ..
      omega
    exact Int.le_of_mul_le_mul_right a2 (by omega)
theorem c_toldE {a b : Str} {Q : D → Prop} (h1 : SeqAt.shaped (.str a) = true) (h2 : SeqAt.shaped (.str b) = true) {k : Bool} (h : PyData.eqv (.str a) (.str b) = k) (hq : Q (.B k)) : cmpD .Eq (.py (.str a)) (.py (.str b)) Q := by
  refine ⟨⟨h1, h2⟩, ?_⟩
  rw [h]
  exact hq
def bL : Option (List Int) → PyData
  | none => .none
  | some c => ti c
def n_k49 : List Str := ["script", "state", "turn", "excess", "limit", "most", "rows", "best", "parts", "bound", "near", "due", "told", "one", "two", "three"]
def b_k49 : S := (.seq (.for_ (.var 2) (.rng (.cons (.lit (.int 2)) .nil)) (.seq (.asg 3 (.ix (.lst (.cons (.call 146 (.cons (.call 1 (.cons (.var 1) (.cons (.lit (.int 61)) .nil))) (.cons (.lit (.int 60)) .nil))) (.cons (.call 146 (.cons (.call 1 (.cons (.var 1) (.cons (.lit (.int 366)) .nil))) (.cons (.lit (.int 365)) .nil))) (.cons (.tup (.cons (.lit (.int 97)) (.cons (.lit (.int 400)) .nil))) .nil)))) (.call 1 (.cons (.var 1) (.cons (.lit (.int 3)) .nil))))) (.seq (.asg 4 (.ix (.lst (.cons (.bin .add (.lit (.int 1)) (.call 1 (.cons (.var 1) (.cons (.lit (.int 12)) .nil)))) (.cons (.bin .add (.lit (.int 1)) (.call 1 (.cons (.var 1) (.cons (.lit (.int 60)) .nil)))) (.cons (.lit (.int 60)) .nil)))) (.call 1 (.cons (.var 1) (.cons (.lit (.int 3)) .nil))))) (.seq (.asg 5 (.bin .add (.lit (.int 1)) (.call 1 (.cons (.var 1) (.cons (.lit (.int 4)) .nil))))) (.seq (.asg 6 (.call 154 (.cons (.lit (.int 4)) (.cons (.var 4) .nil)))) (.seq (.asg 7 (.lit .none)) (.seq (.for_ (.var 8) (.var 6) (.seq (.ite (.and (.cmp .LtE (.bi .len (.cons (.var 8) .nil)) (.var 5)) (.or (.cmp .Is (.var 7) (.lit .none)) (.call 9 (.cons (.call 156 (.cons (.var 7) (.cons (.var 3) .nil))) (.cons (.call 156 (.cons (.var 8) (.cons (.var 3) .nil))) .nil))))) (.seq (.asg 7 (.var 8)) .nil) .nil) .nil)) (.seq (.ite (.not (.same (.told (.call 162 (.cons (.var 3) (.cons (.var 5) (.cons (.var 4) .nil))))) (.tup (.cons (.lit (.str "told")) (.cons (.var 7) .nil))))) (.seq (.ret (.lit (.bool false))) .nil) .nil) (.seq (.for_ (.var 9) (.lst (.cons (.call 156 (.cons (.var 7) (.cons (.var 3) .nil))) (.cons (.call 146 (.cons (.call 1 (.cons (.var 1) (.cons (.lit (.int 30)) .nil))) (.cons (.lit (.int 400)) .nil))) (.cons (.tup (.cons (.lit (.int 0)) (.cons (.lit (.int 1)) .nil))) (.cons (.tup (.cons (.lit (.int 1)) (.cons (.lit (.int 1)) .nil))) .nil))))) (.seq (.asg 9 (.call 146 (.cons (.ix (.var 9) (.lit (.int 0))) (.cons (.ix (.var 9) (.lit (.int 1))) .nil)))) (.seq (.asg 10 (.comp [("parts", 8)] (.var 8) (.var 8) (.var 6) (.not (.call 9 (.cons (.call 156 (.cons (.var 8) (.cons (.var 3) .nil))) (.cons (.var 9) .nil)))))) (.seq (.asg 11 (.tup (.cons (.lit (.str "missing")) .nil))) (.seq (.ite (.cmp .Gt (.bi .len (.cons (.var 10) .nil)) (.lit (.int 0))) (.seq (.asg 11 (.tup (.cons (.lit (.str "told")) (.cons (.ix (.var 10) (.lit (.int 0))) .nil)))) .nil) .nil) (.seq (.asg 12 (.told (.call 161 (.cons (.var 3) (.cons (.var 9) (.cons (.var 4) .nil)))))) (.seq (.ite (.not (.same (.var 12) (.var 11))) (.seq (.ret (.lit (.bool false))) .nil) .nil) (.seq (.ite (.and (.cmp .Eq (.ix (.var 12) (.lit (.int 0))) (.lit (.str "told"))) (.not (.same (.told (.call 142 (.cons (.tup (.cons (.lit (.str "parts")) (.cons (.ix (.var 12) (.lit (.int 1))) .nil))) .nil))) (.tup (.cons (.lit (.str "told")) (.cons (.call 146 (.cons (.ix (.call 155 (.cons (.ix (.var 12) (.lit (.int 1))) .nil)) (.lit (.int 0))) (.cons (.ix (.ix (.var 12) (.lit (.int 1))) (.neg (.lit (.int 1)))) .nil))) .nil)))))) (.seq (.ret (.lit (.bool false))) .nil) .nil) .nil)))))))) (.seq (.for_ (.tup (.cons (.var 13) (.cons (.var 14) (.cons (.var 15) .nil)))) (.lst (.cons (.tup (.cons (.tup (.cons (.lit (.int 2)) (.cons (.lit (.int 4)) .nil))) (.cons (.lit (.int 1)) (.cons (.lit (.int 9)) .nil)))) (.cons (.tup (.cons (.tup (.cons (.neg (.lit (.int 1))) (.cons (.lit (.int 2)) .nil))) (.cons (.lit (.int 1)) (.cons (.lit (.int 9)) .nil)))) (.cons (.tup (.cons (.tup (.cons (.lit (.int 3)) (.cons (.lit (.int 2)) .nil))) (.cons (.lit (.int 1)) (.cons (.lit (.int 9)) .nil)))) (.cons (.tup (.cons (.var 3) (.cons (.lit (.int 0)) (.cons (.lit (.int 9)) .nil)))) (.cons (.tup (.cons (.var 3) (.cons (.lit (.int 5)) (.cons (.lit (.int 9)) .nil)))) (.cons (.tup (.cons (.var 3) (.cons (.lit (.int 1)) (.cons (.lit (.int 0)) .nil)))) (.cons (.tup (.cons (.var 3) (.cons (.lit (.int 1)) (.cons (.lit (.int 61)) .nil)))) .nil)))))))) (.seq (.ite (.cmp .NotEq (.told (.call 162 (.cons (.var 13) (.cons (.var 14) (.cons (.var 15) .nil))))) (.tup (.cons (.lit (.str "refused")) .nil))) (.seq (.ret (.lit (.bool false))) .nil) .nil) .nil)) (.seq (.for_ (.tup (.cons (.var 13) (.cons (.var 14) (.cons (.var 15) .nil)))) (.lst (.cons (.tup (.cons (.tup (.cons (.lit (.int 2)) (.cons (.lit (.int 4)) .nil))) (.cons (.tup (.cons (.lit (.int 1)) (.cons (.lit (.int 1)) .nil))) (.cons (.lit (.int 9)) .nil)))) (.cons (.tup (.cons (.var 3) (.cons (.tup (.cons (.lit (.int 2)) (.cons (.lit (.int 4)) .nil))) (.cons (.lit (.int 9)) .nil)))) (.cons (.tup (.cons (.var 3) (.cons (.tup (.cons (.neg (.lit (.int 1))) (.cons (.lit (.int 1)) .nil))) (.cons (.lit (.int 9)) .nil)))) (.cons (.tup (.cons (.var 3) (.cons (.tup (.cons (.lit (.int 1)) (.cons (.lit (.int 1)) .nil))) (.cons (.lit (.int 0)) .nil)))) (.cons (.tup (.cons (.var 3) (.cons (.tup (.cons (.lit (.int 1)) (.cons (.lit (.int 1)) .nil))) (.cons (.lit (.int 61)) .nil)))) .nil)))))) (.seq (.ite (.cmp .NotEq (.told (.call 161 (.cons (.var 13) (.cons (.var 14) (.cons (.var 15) .nil))))) (.tup (.cons (.lit (.str "refused")) .nil))) (.seq (.ret (.lit (.bool false))) .nil) .nil) .nil)) .nil))))))))))) (.seq (.ret (.lit (.bool true))) .nil))
theorem s_k49 {Φ : PhiT} (h_law_chains : Φ 154 = C_law_chains) (h_law_next : Φ 1 = C_law_next) (h_law_off : Φ 156 = C_law_off) (h_law_reduced2 : Φ 146 = C_law_reduced2) (h_law_more : Φ 9 = C_law_more) (h_near_parts : Φ 161 = C_near_parts) (h_best_parts : Φ 162 = C_best_parts) (h_mean : Φ 142 = C_mean) (h_law_mean : Φ 155 = C_law_mean) : wpS Φ exName b_k49 ((List.replicate n_k49.length none).set 1 (some (.sh .st))) (endF (fun d => d = .B true) noE) := by
  simp only [w_nil, w_asg, w_asgL, w_unp, w_par, w_par3, w_aug, w_app, w_ext, w_seti, w_frz, w_expr, w_ret, w_raise, w_brk, w_cont, w_pass, wp, getV, getB, initE, endF, bindG, List.map_cons, List.map_nil, List.length_cons, List.length_nil, List.cons_append, List.nil_append, List.append_nil, List.getElem?_cons_zero, List.getElem?_cons_succ, List.set_cons_zero, List.set_cons_succ, partD, k_L, k_T, l_lenT, l_lenL, l_int, l_intB, l_abs, l_max2, l_max3, l_max4, l_min2, l_maxL, l_minL, l_sum, l_all, l_any, l_tupL, l_tupT, l_lisL, l_lisT, r_1, r_2, r_l, i_L, i_T, i_A, if_true, if_false, ite_true, ite_false, not_false_eq_true, not_true_eq_false, Bool.false_eq_true, ite_not, b_add, b_addT, b_addL, b_sub, b_subB, b_mul, b_mulT, b_mulL, b_fdiv, b_mod, b_pow, a_add, a_sub, a_mul, a_fdiv, c_lt, c_le, c_gt, c_ge, c_eqI, c_neI, c_eqB, c_neB, seqP, pysD, Option.map_some, List.replicate_zero, List.replicate_succ, Nat.zero_add, Nat.add_zero, Nat.reduceAdd, Nat.reduceSub, Nat.reduceLeDiff, decide_eq_true_eq, Bool.not_eq_true', decide_eq_false_iff_not, Nat.sub_self, Option.some.injEq, exists_eq_left', exists_eq_left, x_pick, f_pr, f_qd, f_prT, f_qdT, x_pr0, x_pr1, x_qd0, x_qd1, x_qd2, x_qd3, g_pr, g_qd, l_pr, l_qd, l_prs, l_ti, l_li, c_eq_pr, c_ne_pr, c_eq_qd, c_ne_qd, i_pr, i_qd, i_prs, i_ti, i_li, true_and, and_true, sl0, sl1, sl2, sl3, sl4, sl5, sl6, sl7, sl8, sl9, sl10, sl11, sl12, sl13, sl14, mketa, wipe1, shE_cons, shE_nil, shS_sh, shS_ow, shS_none, eq_self, and_self, decide_true, decide_false, reduceCtorEq, false_and, and_false, true_implies, false_implies, implies_true, not_true_eq_false, Bool.not_true, Bool.not_false, Bool.true_and, Bool.false_and, Bool.and_true, Bool.and_false, Bool.or_true, Bool.true_or, Bool.or_false, Bool.false_or, Int.reduceLT, Int.reduceLE, Nat.reduceLT, x_ru0, x_ru1, c_ev, c_pa, g_ti, k_ti1, wipe2, h_law_chains, h_law_next, h_law_off, h_law_reduced2, h_law_more, h_near_parts, h_best_parts, h_mean, h_law_mean, p_law_chains, p_law_next, p_law_off, p_law_reduced2, p_law_more, p_near_parts, p_best_parts, p_mean, p_law_mean, b_k49, n_k49]
  rw [w_forq, w_for]
  simp only [w_nil, w_asg, w_asgL, w_unp, w_par, w_par3, w_aug, w_app, w_ext, w_seti, w_frz, w_expr, w_ret, w_raise, w_brk, w_cont, w_pass, wp, getV, getB, initE, endF, bindG, List.map_cons, List.map_nil, List.length_cons, List.length_nil, List.cons_append, List.nil_append, List.append_nil, List.getElem?_cons_zero, List.getElem?_cons_succ, List.set_cons_zero, List.set_cons_succ, partD, k_L, k_T, l_lenT, l_lenL, l_int, l_intB, l_abs, l_max2, l_max3, l_max4, l_min2, l_maxL, l_minL, l_sum, l_all, l_any, l_tupL, l_tupT, l_lisL, l_lisT, r_1, r_2, r_l, i_L, i_T, i_A, if_true, if_false, ite_true, ite_false, not_false_eq_true, not_true_eq_false, Bool.false_eq_true, ite_not, b_add, b_addT, b_addL, b_sub, b_subB, b_mul, b_mulT, b_mulL, b_fdiv, b_mod, b_pow, a_add, a_sub, a_mul, a_fdiv, c_lt, c_le, c_gt, c_ge, c_eqI, c_neI, c_eqB, c_neB, seqP, pysD, Option.map_some, List.replicate_zero, List.replicate_succ, Nat.zero_add, Nat.add_zero, Nat.reduceAdd, Nat.reduceSub, Nat.reduceLeDiff, decide_eq_true_eq, Bool.not_eq_true', decide_eq_false_iff_not, Nat.sub_self, Option.some.injEq, exists_eq_left', exists_eq_left, x_pick, f_pr, f_qd, f_prT, f_qdT, x_pr0, x_pr1, x_qd0, x_qd1, x_qd2, x_qd3, g_pr, g_qd, l_pr, l_qd, l_prs, l_ti, l_li, c_eq_pr, c_ne_pr, c_eq_qd, c_ne_qd, i_pr, i_qd, i_prs, i_ti, i_li, true_and, and_true, sl0, sl1, sl2, sl3, sl4, sl5, sl6, sl7, sl8, sl9, sl10, sl11, sl12, sl13, sl14, mketa, wipe1, shE_cons, shE_nil, shS_sh, shS_ow, shS_none, eq_self, and_self, decide_true, decide_false, reduceCtorEq, false_and, and_false, true_implies, false_implies, implies_true, not_true_eq_false, Bool.not_true, Bool.not_false, Bool.true_and, Bool.false_and, Bool.and_true, Bool.and_false, Bool.or_true, Bool.true_or, Bool.or_false, Bool.false_or, Int.reduceLT, Int.reduceLE, Nat.reduceLT, x_ru0, x_ru1, c_ev, c_pa, g_ti, k_ti1, wipe2, h_law_chains, h_law_next, h_law_off, h_law_reduced2, h_law_more, h_near_parts, h_best_parts, h_mean, h_law_mean, p_law_chains, p_law_next, p_law_off, p_law_reduced2, p_law_more, p_near_parts, p_best_parts, p_mean, p_law_mean]
  refine ⟨by decide, ?_⟩
  refine forW_rule (fun i ρ => ∃ s0 s2 s3 s4 s5 s6 s7 s8 s9 s10 s11 s12 s13 s14 s15 : Option Sl, ρ = [s0, some (.sh (.st)), s2, s3, s4, s5, s6, s7, s8, s9, s10, s11, s12, s13, s14, s15]) ⟨_, _, _, _, _, _, _, _, _, _, _, _, _, _, _, rfl⟩ ?_ ?_
  · rintro i d ρ K hd ⟨s0, s2, s3, s4, s5, s6, s7, s8, s9, s10, s11, s12, s13, s14, s15, rfl⟩ hK
    obtain ⟨rfl, hi⟩ := rangeD_get hd
    have b60 : Int.natAbs 60 ≤ bigI := by decide +kernel
    have b365 : Int.natAbs 365 ≤ bigI := by decide +kernel
    have b400 : Int.natAbs 400 ≤ bigI := by decide +kernel
    simp only [w_nil, w_asg, w_asgL, w_unp, w_par, w_par3, w_aug, w_app, w_ext, w_seti, w_frz, w_expr, w_ret, w_raise, w_brk, w_cont, w_pass, wp, getV, getB, initE, endF, bindG, List.map_cons, List.map_nil, List.length_cons, List.length_nil, List.cons_append, List.nil_append, List.append_nil, List.getElem?_cons_zero, List.getElem?_cons_succ, List.set_cons_zero, List.set_cons_succ, partD, k_L, k_T, l_lenT, l_lenL, l_int, l_intB, l_abs, l_max2, l_max3, l_max4, l_min2, l_maxL, l_minL, l_sum, l_all, l_any, l_tupL, l_tupT, l_lisL, l_lisT, r_1, r_2, r_l, i_L, i_T, i_A, if_true, if_false, ite_true, ite_false, not_false_eq_true, not_true_eq_false, Bool.false_eq_true, ite_not, b_add, b_addT, b_addL, b_sub, b_subB, b_mul, b_mulT, b_mulL, b_fdiv, b_mod, b_pow, a_add, a_sub, a_mul, a_fdiv, c_lt, c_le, c_gt, c_ge, c_eqI, c_neI, c_eqB, c_neB, seqP, pysD, Option.map_some, List.replicate_zero, List.replicate_succ, Nat.zero_add, Nat.add_zero, Nat.reduceAdd, Nat.reduceSub, Nat.reduceLeDiff, decide_eq_true_eq, Bool.not_eq_true', decide_eq_false_iff_not, Nat.sub_self, Option.some.injEq, exists_eq_left', exists_eq_left, x_pick, f_pr, f_qd, f_prT, f_qdT, x_pr0, x_pr1, x_qd0, x_qd1, x_qd2, x_qd3, g_pr, g_qd, l_pr, l_qd, l_prs, l_ti, l_li, c_eq_pr, c_ne_pr, c_eq_qd, c_ne_qd, i_pr, i_qd, i_prs, i_ti, i_li, true_and, and_true, sl0, sl1, sl2, sl3, sl4, sl5, sl6, sl7, sl8, sl9, sl10, sl11, sl12, sl13, sl14, mketa, wipe1, shE_cons, shE_nil, shS_sh, shS_ow, shS_none, eq_self, and_self, decide_true, decide_false, reduceCtorEq, false_and, and_false, true_implies, false_implies, implies_true, not_true_eq_false, Bool.not_true, Bool.not_false, Bool.true_and, Bool.false_and, Bool.and_true, Bool.and_false, Bool.or_true, Bool.true_or, Bool.or_false, Bool.false_or, Int.reduceLT, Int.reduceLE, Nat.reduceLT, x_ru0, x_ru1, c_ev, c_pa, g_ti, k_ti1, wipe2, h_law_chains, h_law_next, h_law_off, h_law_reduced2, h_law_more, h_near_parts, h_best_parts, h_mean, h_law_mean, p_law_chains, p_law_next, p_law_off, p_law_reduced2, p_law_more, p_near_parts, p_best_parts, p_mean, p_law_mean, b60, b365]
    rintro x x0 x1 y y0 y1 z z0 z1
    refine ixL_any z0 (by show z < 3; omega) (fun p hp => ?_)
    obtain ⟨e, rfl, he, e2⟩ : ∃ e, p = pr e ∧ exC e ∧ e.2 ≤ 1000 := by
      simp only [List.mem_cons, List.not_mem_nil, or_false] at hp
      rcases hp with rfl | rfl | rfl
      · exact ⟨_, rfl, ex_red (by omega) (by decide)⟩
      · exact ⟨_, rfl, ex_red (by omega) (by decide)⟩
      · exact ⟨_, rfl, by decide, by decide⟩
    clear hp x0 x1 y0 y1 z0 z1 x y z
    rintro x x0 x1 y y0 y1 z z0 z1
    refine ixL_any z0 (by show z < 3; omega) (fun p hp => ?_)
    obtain ⟨n, rfl, hn⟩ : ∃ n : Int, p = .int n ∧ 1 ≤ n ∧ n ≤ 60 := by
      simp only [List.mem_cons, List.not_mem_nil, or_false] at hp
      rcases hp with rfl | rfl | rfl
      · exact ⟨_, rfl, by omega⟩
      · exact ⟨_, rfl, by omega⟩
      · exact ⟨_, rfl, by decide⟩
    clear hp x0 x1 y0 y1 z0 z1 x y z
    simp only [w_nil, w_asg, w_asgL, w_unp, w_par, w_par3, w_aug, w_app, w_ext, w_seti, w_frz, w_expr, w_ret, w_raise, w_brk, w_cont, w_pass, wp, getV, getB, initE, endF, bindG, List.map_cons, List.map_nil, List.length_cons, List.length_nil, List.cons_append, List.nil_append, List.append_nil, List.getElem?_cons_zero, List.getElem?_cons_succ, List.set_cons_zero, List.set_cons_succ, partD, k_L, k_T, l_lenT, l_lenL, l_int, l_intB, l_abs, l_max2, l_max3, l_max4, l_min2, l_maxL, l_minL, l_sum, l_all, l_any, l_tupL, l_tupT, l_lisL, l_lisT, r_1, r_2, r_l, i_L, i_T, i_A, if_true, if_false, ite_true, ite_false, not_false_eq_true, not_true_eq_false, Bool.false_eq_true, ite_not, b_add, b_addT, b_addL, b_sub, b_subB, b_mul, b_mulT, b_mulL, b_fdiv, b_mod, b_pow, a_add, a_sub, a_mul, a_fdiv, c_lt, c_le, c_gt, c_ge, c_eqI, c_neI, c_eqB, c_neB, seqP, pysD, Option.map_some, List.replicate_zero, List.replicate_succ, Nat.zero_add, Nat.add_zero, Nat.reduceAdd, Nat.reduceSub, Nat.reduceLeDiff, decide_eq_true_eq, Bool.not_eq_true', decide_eq_false_iff_not, Nat.sub_self, Option.some.injEq, exists_eq_left', exists_eq_left, x_pick, f_pr, f_qd, f_prT, f_qdT, x_pr0, x_pr1, x_qd0, x_qd1, x_qd2, x_qd3, g_pr, g_qd, l_pr, l_qd, l_prs, l_ti, l_li, c_eq_pr, c_ne_pr, c_eq_qd, c_ne_qd, i_pr, i_qd, i_prs, i_ti, i_li, true_and, and_true, sl0, sl1, sl2, sl3, sl4, sl5, sl6, sl7, sl8, sl9, sl10, sl11, sl12, sl13, sl14, mketa, wipe1, shE_cons, shE_nil, shS_sh, shS_ow, shS_none, eq_self, and_self, decide_true, decide_false, reduceCtorEq, false_and, and_false, true_implies, false_implies, implies_true, not_true_eq_false, Bool.not_true, Bool.not_false, Bool.true_and, Bool.false_and, Bool.and_true, Bool.and_false, Bool.or_true, Bool.true_or, Bool.or_false, Bool.false_or, Int.reduceLT, Int.reduceLE, Nat.reduceLT, x_ru0, x_ru1, c_ev, c_pa, g_ti, k_ti1, wipe2, h_law_chains, h_law_next, h_law_off, h_law_reduced2, h_law_more, h_near_parts, h_best_parts, h_mean, h_law_mean, p_law_chains, p_law_next, p_law_off, p_law_reduced2, p_law_more, p_near_parts, p_best_parts, p_mean, p_law_mean]
    rintro x x0 x1
    obtain ⟨m, hm⟩ := Int.eq_ofNat_of_zero_le (show 0 ≤ 1 + x by omega)
    rw [hm]
    refine ⟨hn, ?_⟩
    rw [w_forq, w_for]
    simp only [w_nil, w_asg, w_asgL, w_unp, w_par, w_par3, w_aug, w_app, w_ext, w_seti, w_frz, w_expr, w_ret, w_raise, w_brk, w_cont, w_pass, wp, getV, getB, initE, endF, bindG, List.map_cons, List.map_nil, List.length_cons, List.length_nil, List.cons_append, List.nil_append, List.append_nil, List.getElem?_cons_zero, List.getElem?_cons_succ, List.set_cons_zero, List.set_cons_succ, partD, k_L, k_T, l_lenT, l_lenL, l_int, l_intB, l_abs, l_max2, l_max3, l_max4, l_min2, l_maxL, l_minL, l_sum, l_all, l_any, l_tupL, l_tupT, l_lisL, l_lisT, r_1, r_2, r_l, i_L, i_T, i_A, if_true, if_false, ite_true, ite_false, not_false_eq_true, not_true_eq_false, Bool.false_eq_true, ite_not, b_add, b_addT, b_addL, b_sub, b_subB, b_mul, b_mulT, b_mulL, b_fdiv, b_mod, b_pow, a_add, a_sub, a_mul, a_fdiv, c_lt, c_le, c_gt, c_ge, c_eqI, c_neI, c_eqB, c_neB, seqP, pysD, Option.map_some, List.replicate_zero, List.replicate_succ, Nat.zero_add, Nat.add_zero, Nat.reduceAdd, Nat.reduceSub, Nat.reduceLeDiff, decide_eq_true_eq, Bool.not_eq_true', decide_eq_false_iff_not, Nat.sub_self, Option.some.injEq, exists_eq_left', exists_eq_left, x_pick, f_pr, f_qd, f_prT, f_qdT, x_pr0, x_pr1, x_qd0, x_qd1, x_qd2, x_qd3, g_pr, g_qd, l_pr, l_qd, l_prs, l_ti, l_li, c_eq_pr, c_ne_pr, c_eq_qd, c_ne_qd, i_pr, i_qd, i_prs, i_ti, i_li, true_and, and_true, sl0, sl1, sl2, sl3, sl4, sl5, sl6, sl7, sl8, sl9, sl10, sl11, sl12, sl13, sl14, mketa, wipe1, shE_cons, shE_nil, shS_sh, shS_ow, shS_none, eq_self, and_self, decide_true, decide_false, reduceCtorEq, false_and, and_false, true_implies, false_implies, implies_true, not_true_eq_false, Bool.not_true, Bool.not_false, Bool.true_and, Bool.false_and, Bool.and_true, Bool.and_false, Bool.or_true, Bool.true_or, Bool.or_false, Bool.false_or, Int.reduceLT, Int.reduceLE, Nat.reduceLT, x_ru0, x_ru1, c_ev, c_pa, g_ti, k_ti1, wipe2, h_law_chains, h_law_next, h_law_off, h_law_reduced2, h_law_more, h_near_parts, h_best_parts, h_mean, h_law_mean, p_law_chains, p_law_next, p_law_off, p_law_reduced2, p_law_more, p_near_parts, p_best_parts, p_mean, p_law_mean]
    rw [show Int.toNat 4 = 4 from rfl, List.map_map]
    have m4 : 1 ≤ m ∧ m ≤ 4 := by omega
    refine forW_fold (l := chainsC n 4) (f := D.py ∘ ti) (b0 := (none : Option (List Int))) (g := fun c r => if decide ((r.length : Int) ≤ (m : Int)) = true then betC e c r else c) (fun c ρ => (∀ r, c = some r → goodC r) ∧ ∃ s0 s2 s8 s9 s10 s11 s12 s13 s14 s15 : Option Sl, ρ = [s0, some (.sh (.st)), s2, some (.sh (.py (pr e))), some (.sh (.I n)), some (.sh (.I (m : Int))), some (.sh (.py (.list ((chainsC n 4).map ti)))), some (.sh (.py (bL c))), s8, s9, s10, s11, s12, s13, s14, s15]) ⟨fun r z => (nomatch z), _, _, _, _, _, _, _, _, _, _, rfl⟩ ?_ ?_
    · rintro l1 x l2 ρ K hl ⟨hc, s0, s2, s8, s9, s10, s11, s12, s13, s14, s15, rfl⟩ hK
      generalize List.foldl (fun c r => if decide ((r.length : Int) ≤ (m : Int)) = true then betC e c r else c) none l1 = c at *
      have hxm : x ∈ chainsC n 4 := by rw [hl]; exact List.mem_append_right _ (List.mem_cons_self ..)
      have hg := chains_goodC hn.2 (Nat.le_refl 4) hxm
      have ob := off_b hg he e2
      rw [Function.comp_apply]
      simp only [w_nil, w_asg, w_asgL, w_unp, w_par, w_par3, w_aug, w_app, w_ext, w_seti, w_frz, w_expr, w_ret, w_raise, w_brk, w_cont, w_pass, wp, getV, getB, initE, endF, bindG, List.map_cons, List.map_nil, List.length_cons, List.length_nil, List.cons_append, List.nil_append, List.append_nil, List.getElem?_cons_zero, List.getElem?_cons_succ, List.set_cons_zero, List.set_cons_succ, partD, k_L, k_T, l_lenT, l_lenL, l_int, l_intB, l_abs, l_max2, l_max3, l_max4, l_min2, l_maxL, l_minL, l_sum, l_all, l_any, l_tupL, l_tupT, l_lisL, l_lisT, r_1, r_2, r_l, i_L, i_T, i_A, if_true, if_false, ite_true, ite_false, not_false_eq_true, not_true_eq_false, Bool.false_eq_true, ite_not, b_add, b_addT, b_addL, b_sub, b_subB, b_mul, b_mulT, b_mulL, b_fdiv, b_mod, b_pow, a_add, a_sub, a_mul, a_fdiv, c_lt, c_le, c_gt, c_ge, c_eqI, c_neI, c_eqB, c_neB, seqP, pysD, Option.map_some, List.replicate_zero, List.replicate_succ, Nat.zero_add, Nat.add_zero, Nat.reduceAdd, Nat.reduceSub, Nat.reduceLeDiff, decide_eq_true_eq, Bool.not_eq_true', decide_eq_false_iff_not, Nat.sub_self, Option.some.injEq, exists_eq_left', exists_eq_left, x_pick, f_pr, f_qd, f_prT, f_qdT, x_pr0, x_pr1, x_qd0, x_qd1, x_qd2, x_qd3, g_pr, g_qd, l_pr, l_qd, l_prs, l_ti, l_li, c_eq_pr, c_ne_pr, c_eq_qd, c_ne_qd, i_pr, i_qd, i_prs, i_ti, i_li, true_and, and_true, sl0, sl1, sl2, sl3, sl4, sl5, sl6, sl7, sl8, sl9, sl10, sl11, sl12, sl13, sl14, mketa, wipe1, shE_cons, shE_nil, shS_sh, shS_ow, shS_none, eq_self, and_self, decide_true, decide_false, reduceCtorEq, false_and, and_false, true_implies, false_implies, implies_true, not_true_eq_false, Bool.not_true, Bool.not_false, Bool.true_and, Bool.false_and, Bool.and_true, Bool.and_false, Bool.or_true, Bool.true_or, Bool.or_false, Bool.false_or, Int.reduceLT, Int.reduceLE, Nat.reduceLT, x_ru0, x_ru1, c_ev, c_pa, g_ti, k_ti1, wipe2, h_law_chains, h_law_next, h_law_off, h_law_reduced2, h_law_more, h_near_parts, h_best_parts, h_mean, h_law_mean, p_law_chains, p_law_next, p_law_off, p_law_reduced2, p_law_more, p_near_parts, p_best_parts, p_mean, p_law_mean]
      rw [w_ite]
      simp only [w_nil, w_asg, w_asgL, w_unp, w_par, w_par3, w_aug, w_app, w_ext, w_seti, w_frz, w_expr, w_ret, w_raise, w_brk, w_cont, w_pass, wp, getV, getB, initE, endF, bindG, List.map_cons, List.map_nil, List.length_cons, List.length_nil, List.cons_append, List.nil_append, List.append_nil, List.getElem?_cons_zero, List.getElem?_cons_succ, List.set_cons_zero, List.set_cons_succ, partD, k_L, k_T, l_lenT, l_lenL, l_int, l_intB, l_abs, l_max2, l_max3, l_max4, l_min2, l_maxL, l_minL, l_sum, l_all, l_any, l_tupL, l_tupT, l_lisL, l_lisT, r_1, r_2, r_l, i_L, i_T, i_A, if_true, if_false, ite_true, ite_false, not_false_eq_true, not_true_eq_false, Bool.false_eq_true, ite_not, b_add, b_addT, b_addL, b_sub, b_subB, b_mul, b_mulT, b_mulL, b_fdiv, b_mod, b_pow, a_add, a_sub, a_mul, a_fdiv, c_lt, c_le, c_gt, c_ge, c_eqI, c_neI, c_eqB, c_neB, seqP, pysD, Option.map_some, List.replicate_zero, List.replicate_succ, Nat.zero_add, Nat.add_zero, Nat.reduceAdd, Nat.reduceSub, Nat.reduceLeDiff, decide_eq_true_eq, Bool.not_eq_true', decide_eq_false_iff_not, Nat.sub_self, Option.some.injEq, exists_eq_left', exists_eq_left, x_pick, f_pr, f_qd, f_prT, f_qdT, x_pr0, x_pr1, x_qd0, x_qd1, x_qd2, x_qd3, g_pr, g_qd, l_pr, l_qd, l_prs, l_ti, l_li, c_eq_pr, c_ne_pr, c_eq_qd, c_ne_qd, i_pr, i_qd, i_prs, i_ti, i_li, true_and, and_true, sl0, sl1, sl2, sl3, sl4, sl5, sl6, sl7, sl8, sl9, sl10, sl11, sl12, sl13, sl14, mketa, wipe1, shE_cons, shE_nil, shS_sh, shS_ow, shS_none, eq_self, and_self, decide_true, decide_false, reduceCtorEq, false_and, and_false, true_implies, false_implies, implies_true, not_true_eq_false, Bool.not_true, Bool.not_false, Bool.true_and, Bool.false_and, Bool.and_true, Bool.and_false, Bool.or_true, Bool.true_or, Bool.or_false, Bool.false_or, Int.reduceLT, Int.reduceLE, Nat.reduceLT, x_ru0, x_ru1, c_ev, c_pa, g_ti, k_ti1, wipe2, h_law_chains, h_law_next, h_law_off, h_law_reduced2, h_law_more, h_near_parts, h_best_parts, h_mean, h_law_mean, p_law_chains, p_law_next, p_law_off, p_law_reduced2, p_law_more, p_near_parts, p_best_parts, p_mean, p_law_mean, c_isN]
      by_cases hlen : (x.length : Int) ≤ (m : Int)
      · rw [if_pos hlen]
        rw [decide_eq_true hlen, if_pos rfl] at hK
        cases c with
        | none =>
          rw [if_pos (show isNone (bL none) = true from rfl)]
          exact hK _ ⟨fun r z => (by cases z; exact hg), _, _, _, _, _, _, _, _, _, _, rfl⟩
        | some c =>
          have hgc := hc c rfl
          have oc := off_b hgc he e2
          have z1 : ZF 900 (offL x e) := ⟨(Z.at64 (i := (offL x e).1) (by omega)).mono (by decide), (Z.at64 (i := (offL x e).2) (by omega)).mono (by decide)⟩
          have z2 : ZF 900 (offL c e) := ⟨(Z.at64 (i := (offL c e).1) (by omega)).mono (by decide), (Z.at64 (i := (offL c e).2) (by omega)).mono (by decide)⟩
          rw [if_neg (show ¬ isNone (bL (some c)) = true from fun z => nomatch z)]
          rw [show D.py (bL (some c)) = D.py (ti c) from rfl]
          simp only [w_nil, w_asg, w_asgL, w_unp, w_par, w_par3, w_aug, w_app, w_ext, w_seti, w_frz, w_expr, w_ret, w_raise, w_brk, w_cont, w_pass, wp, getV, getB, initE, endF, bindG, List.map_cons, List.map_nil, List.length_cons, List.length_nil, List.cons_append, List.nil_append, List.append_nil, List.getElem?_cons_zero, List.getElem?_cons_succ, List.set_cons_zero, List.set_cons_succ, partD, k_L, k_T, l_lenT, l_lenL, l_int, l_intB, l_abs, l_max2, l_max3, l_max4, l_min2, l_maxL, l_minL, l_sum, l_all, l_any, l_tupL, l_tupT, l_lisL, l_lisT, r_1, r_2, r_l, i_L, i_T, i_A, if_true, if_false, ite_true, ite_false, not_false_eq_true, not_true_eq_false, Bool.false_eq_true, ite_not, b_add, b_addT, b_addL, b_sub, b_subB, b_mul, b_mulT, b_mulL, b_fdiv, b_mod, b_pow, a_add, a_sub, a_mul, a_fdiv, c_lt, c_le, c_gt, c_ge, c_eqI, c_neI, c_eqB, c_neB, seqP, pysD, Option.map_some, List.replicate_zero, List.replicate_succ, Nat.zero_add, Nat.add_zero, Nat.reduceAdd, Nat.reduceSub, Nat.reduceLeDiff, decide_eq_true_eq, Bool.not_eq_true', decide_eq_false_iff_not, Nat.sub_self, Option.some.injEq, exists_eq_left', exists_eq_left, x_pick, f_pr, f_qd, f_prT, f_qdT, x_pr0, x_pr1, x_qd0, x_qd1, x_qd2, x_qd3, g_pr, g_qd, l_pr, l_qd, l_prs, l_ti, l_li, c_eq_pr, c_ne_pr, c_eq_qd, c_ne_qd, i_pr, i_qd, i_prs, i_ti, i_li, true_and, and_true, sl0, sl1, sl2, sl3, sl4, sl5, sl6, sl7, sl8, sl9, sl10, sl11, sl12, sl13, sl14, mketa, wipe1, shE_cons, shE_nil, shS_sh, shS_ow, shS_none, eq_self, and_self, decide_true, decide_false, reduceCtorEq, false_and, and_false, true_implies, false_implies, implies_true, not_true_eq_false, Bool.not_true, Bool.not_false, Bool.true_and, Bool.false_and, Bool.and_true, Bool.and_false, Bool.or_true, Bool.true_or, Bool.or_false, Bool.false_or, Int.reduceLT, Int.reduceLE, Nat.reduceLT, x_ru0, x_ru1, c_ev, c_pa, g_ti, k_ti1, wipe2, h_law_chains, h_law_next, h_law_off, h_law_reduced2, h_law_more, h_near_parts, h_best_parts, h_mean, h_law_mean, p_law_chains, p_law_next, p_law_off, p_law_reduced2, p_law_more, p_near_parts, p_best_parts, p_mean, p_law_mean]
          refine ⟨hgc, he, e2, hg, he, e2, z2, z1, ?_⟩
          have be : betC e (some c) x = if (offL x e).1 * (offL c e).2 < (offL c e).1 * (offL x e).2 then some x else some c := rfl
          by_cases w : (offL x e).1 * (offL c e).2 < (offL c e).1 * (offL x e).2
          · rw [if_pos w] at be
            rw [be] at hK
            rw [if_pos (show ltF (offL x e) (offL c e) from w)]
            exact hK _ ⟨fun r z => (by cases z; exact hg), _, _, _, _, _, _, _, _, _, _, rfl⟩
          · rw [if_neg w] at be
            rw [be] at hK
            rw [if_neg (show ¬ ltF (offL x e) (offL c e) from w)]
            exact hK _ ⟨fun r z => (by cases z; exact hgc), _, _, _, _, _, _, _, _, _, _, rfl⟩
      · rw [if_neg hlen]
        rw [decide_eq_false hlen, if_neg (by decide)] at hK
        exact hK _ ⟨hc, _, _, _, _, _, _, _, _, _, _, rfl⟩
    · rintro ρ ⟨hc, s0, s2, s8, s9, s10, s11, s12, s13, s14, s15, rfl⟩
      rw [← List.foldl_filter, chains_few, show min 4 m = m by omega] at hc ⊢
      obtain ⟨r, hrm, hr⟩ := best_some (e := e) (chains_ne hn.1 (m := m) m4.1)
      have hr' : List.foldl (betC e) none (chainsC n m) = some r := hr
      rw [hr'] at hc ⊢
      have hg := hc r rfl
      have sTt : ∀ {r : List Int}, goodC r → Sh 5 1 (ti r) := fun {r} hg => by
        have gd := goodC_d hg
        exact Sh.ti (m := 5) (fun x hx => by have := (gd.2.1 x hx).1; have := gd.2.2.2.2 x hx; exact (Z.at64 (i := x) (by omega)).big (by decide)) (by omega)
      have sR : ∀ {r : List Int}, goodC r → ReprOk (.list [told (ti r)]) := fun hg => (Sh.told (sTt hg)).ok1 (by decide) (by decide)
      have hm4 : (1 ≤ (m : Int) ∧ (m : Int) ≤ 4) ∧ 1 ≤ n ∧ n ≤ 60 := by omega
      rw [w_ite]
      simp only [w_nil, w_asg, w_asgL, w_unp, w_par, w_par3, w_aug, w_app, w_ext, w_seti, w_frz, w_expr, w_ret, w_raise, w_brk, w_cont, w_pass, wp, getV, getB, initE, endF, bindG, List.map_cons, List.map_nil, List.length_cons, List.length_nil, List.cons_append, List.nil_append, List.append_nil, List.getElem?_cons_zero, List.getElem?_cons_succ, List.set_cons_zero, List.set_cons_succ, partD, k_L, k_T, l_lenT, l_lenL, l_int, l_intB, l_abs, l_max2, l_max3, l_max4, l_min2, l_maxL, l_minL, l_sum, l_all, l_any, l_tupL, l_tupT, l_lisL, l_lisT, r_1, r_2, r_l, i_L, i_T, i_A, if_true, if_false, ite_true, ite_false, not_false_eq_true, not_true_eq_false, Bool.false_eq_true, ite_not, b_add, b_addT, b_addL, b_sub, b_subB, b_mul, b_mulT, b_mulL, b_fdiv, b_mod, b_pow, a_add, a_sub, a_mul, a_fdiv, c_lt, c_le, c_gt, c_ge, c_eqI, c_neI, c_eqB, c_neB, seqP, pysD, Option.map_some, List.replicate_zero, List.replicate_succ, Nat.zero_add, Nat.add_zero, Nat.reduceAdd, Nat.reduceSub, Nat.reduceLeDiff, decide_eq_true_eq, Bool.not_eq_true', decide_eq_false_iff_not, Nat.sub_self, Option.some.injEq, exists_eq_left', exists_eq_left, x_pick, f_pr, f_qd, f_prT, f_qdT, x_pr0, x_pr1, x_qd0, x_qd1, x_qd2, x_qd3, g_pr, g_qd, l_pr, l_qd, l_prs, l_ti, l_li, c_eq_pr, c_ne_pr, c_eq_qd, c_ne_qd, i_pr, i_qd, i_prs, i_ti, i_li, true_and, and_true, sl0, sl1, sl2, sl3, sl4, sl5, sl6, sl7, sl8, sl9, sl10, sl11, sl12, sl13, sl14, mketa, wipe1, shE_cons, shE_nil, shS_sh, shS_ow, shS_none, eq_self, and_self, decide_true, decide_false, reduceCtorEq, false_and, and_false, true_implies, false_implies, implies_true, not_true_eq_false, Bool.not_true, Bool.not_false, Bool.true_and, Bool.false_and, Bool.and_true, Bool.and_false, Bool.or_true, Bool.true_or, Bool.or_false, Bool.false_or, Int.reduceLT, Int.reduceLE, Nat.reduceLT, x_ru0, x_ru1, c_ev, c_pa, g_ti, k_ti1, wipe2, h_law_chains, h_law_next, h_law_off, h_law_reduced2, h_law_more, h_near_parts, h_best_parts, h_mean, h_law_mean, p_law_chains, p_law_next, p_law_off, p_law_reduced2, p_law_more, p_near_parts, p_best_parts, p_mean, p_law_mean, he, hm4]
      refine ⟨e2, fun r1 h1 => ?_⟩
      rw [Int.toNat_natCast, hr] at h1
      obtain rfl : r = r1 := Option.some.inj h1
      refine ⟨⟨sR hg, sR hg⟩, ?_⟩
      rw [if_pos (show (PyData.list [PyData.tuple [PyData.str "told", ti r]]).shown = (PyData.list [PyData.tuple [PyData.str "told", bL (some r)]]).shown from rfl)]
      rw [w_forq, w_for, show D.py (bL (some r)) = D.py (ti r) from rfl]
      simp only [w_nil, w_asg, w_asgL, w_unp, w_par, w_par3, w_aug, w_app, w_ext, w_seti, w_frz, w_expr, w_ret, w_raise, w_brk, w_cont, w_pass, wp, getV, getB, initE, endF, bindG, List.map_cons, List.map_nil, List.length_cons, List.length_nil, List.cons_append, List.nil_append, List.append_nil, List.getElem?_cons_zero, List.getElem?_cons_succ, List.set_cons_zero, List.set_cons_succ, partD, k_L, k_T, l_lenT, l_lenL, l_int, l_intB, l_abs, l_max2, l_max3, l_max4, l_min2, l_maxL, l_minL, l_sum, l_all, l_any, l_tupL, l_tupT, l_lisL, l_lisT, r_1, r_2, r_l, i_L, i_T, i_A, if_true, if_false, ite_true, ite_false, not_false_eq_true, not_true_eq_false, Bool.false_eq_true, ite_not, b_add, b_addT, b_addL, b_sub, b_subB, b_mul, b_mulT, b_mulL, b_fdiv, b_mod, b_pow, a_add, a_sub, a_mul, a_fdiv, c_lt, c_le, c_gt, c_ge, c_eqI, c_neI, c_eqB, c_neB, seqP, pysD, Option.map_some, List.replicate_zero, List.replicate_succ, Nat.zero_add, Nat.add_zero, Nat.reduceAdd, Nat.reduceSub, Nat.reduceLeDiff, decide_eq_true_eq, Bool.not_eq_true', decide_eq_false_iff_not, Nat.sub_self, Option.some.injEq, exists_eq_left', exists_eq_left, x_pick, f_pr, f_qd, f_prT, f_qdT, x_pr0, x_pr1, x_qd0, x_qd1, x_qd2, x_qd3, g_pr, g_qd, l_pr, l_qd, l_prs, l_ti, l_li, c_eq_pr, c_ne_pr, c_eq_qd, c_ne_qd, i_pr, i_qd, i_prs, i_ti, i_li, true_and, and_true, sl0, sl1, sl2, sl3, sl4, sl5, sl6, sl7, sl8, sl9, sl10, sl11, sl12, sl13, sl14, mketa, wipe1, shE_cons, shE_nil, shS_sh, shS_ow, shS_none, eq_self, and_self, decide_true, decide_false, reduceCtorEq, false_and, and_false, true_implies, false_implies, implies_true, not_true_eq_false, Bool.not_true, Bool.not_false, Bool.true_and, Bool.false_and, Bool.and_true, Bool.and_false, Bool.or_true, Bool.true_or, Bool.or_false, Bool.false_or, Int.reduceLT, Int.reduceLE, Nat.reduceLT, x_ru0, x_ru1, c_ev, c_pa, g_ti, k_ti1, wipe2, h_law_chains, h_law_next, h_law_off, h_law_reduced2, h_law_more, h_near_parts, h_best_parts, h_mean, h_law_mean, p_law_chains, p_law_next, p_law_off, p_law_reduced2, p_law_more, p_near_parts, p_best_parts, p_mean, p_law_mean, b400]
      refine ⟨hg, he, e2, ?_⟩
      rintro y y0 y1
      have ob := off_b hg he e2
      refine forW_rule (fun i ρ => ∃ s0 s2 s5 s7 s8 s9 s10 s11 s12 s13 s14 s15 : Option Sl, ρ = [s0, some (.sh (.st)), s2, some (.sh (.py (pr e))), some (.sh (.I n)), s5, some (.sh (.py (.list ((chainsC n 4).map ti)))), s7, s8, s9, s10, s11, s12, s13, s14, s15]) ⟨_, _, _, _, _, _, _, _, _, _, _, _, rfl⟩ ?_ ?_
      · rintro i d ρ K hd ⟨s0, s2, s5, s7, s8, s9, s10, s11, s12, s13, s14, s15, rfl⟩ hK
        obtain ⟨b, rfl, hb⟩ : ∃ b, d = .py (pr b) ∧ (0 ≤ b.1 ∧ b.1 ≤ 1000000) ∧ 1 ≤ b.2 ∧ b.2 ≤ 100000 := by
          have hd := List.mem_of_getElem? hd
          simp only [List.mem_cons, List.not_mem_nil, or_false] at hd
          have er := ex_red (x := y) (b := 400) (by omega) (by decide)
          have er2 := (okF_parts er.1.1).1
          have er1 := er.1.2
          rcases hd with rfl | rfl | rfl | rfl
          · exact ⟨_, rfl, by omega⟩
          · exact ⟨_, rfl, by omega⟩
          · exact ⟨(0, 1), rfl, by decide⟩
          · exact ⟨(1, 1), rfl, by decide⟩
        clear hd y0 y1 ob
        have okb := frac_ok (a := b.1) (b := b.2) (by omega)
        have eqb := frac_red (a := b.1) (b := b.2) (by omega)
        have crb := frac_cross (a := b.1) (b := b.2) (by omega)
        rw [eqb] at okb crb
        have zb : ZF 64 (red b.1 b.2) := Is.z ⟨okb, crb⟩ (by omega) (by omega)
        have nb : 0 ≤ (red b.1 b.2).1 := by
          have r2 := (okF_parts okb).1
          rcases Int.lt_or_le (red b.1 b.2).1 0 with z | z
          · have : (red b.1 b.2).1 * b.2 < 0 := Int.mul_neg_of_neg_of_pos z (by omega)
            have : 0 ≤ b.1 * (red b.1 b.2).2 := Int.mul_nonneg (by omega) (by omega)
            omega
          · exact z
        simp only [w_nil, w_asg, w_asgL, w_unp, w_par, w_par3, w_aug, w_app, w_ext, w_seti, w_frz, w_expr, w_ret, w_raise, w_brk, w_cont, w_pass, wp, getV, getB, initE, endF, bindG, List.map_cons, List.map_nil, List.length_cons, List.length_nil, List.cons_append, List.nil_append, List.append_nil, List.getElem?_cons_zero, List.getElem?_cons_succ, List.set_cons_zero, List.set_cons_succ, partD, k_L, k_T, l_lenT, l_lenL, l_int, l_intB, l_abs, l_max2, l_max3, l_max4, l_min2, l_maxL, l_minL, l_sum, l_all, l_any, l_tupL, l_tupT, l_lisL, l_lisT, r_1, r_2, r_l, i_L, i_T, i_A, if_true, if_false, ite_true, ite_false, not_false_eq_true, not_true_eq_false, Bool.false_eq_true, ite_not, b_add, b_addT, b_addL, b_sub, b_subB, b_mul, b_mulT, b_mulL, b_fdiv, b_mod, b_pow, a_add, a_sub, a_mul, a_fdiv, c_lt, c_le, c_gt, c_ge, c_eqI, c_neI, c_eqB, c_neB, seqP, pysD, Option.map_some, List.replicate_zero, List.replicate_succ, Nat.zero_add, Nat.add_zero, Nat.reduceAdd, Nat.reduceSub, Nat.reduceLeDiff, decide_eq_true_eq, Bool.not_eq_true', decide_eq_false_iff_not, Nat.sub_self, Option.some.injEq, exists_eq_left', exists_eq_left, x_pick, f_pr, f_qd, f_prT, f_qdT, x_pr0, x_pr1, x_qd0, x_qd1, x_qd2, x_qd3, g_pr, g_qd, l_pr, l_qd, l_prs, l_ti, l_li, c_eq_pr, c_ne_pr, c_eq_qd, c_ne_qd, i_pr, i_qd, i_prs, i_ti, i_li, true_and, and_true, sl0, sl1, sl2, sl3, sl4, sl5, sl6, sl7, sl8, sl9, sl10, sl11, sl12, sl13, sl14, mketa, wipe1, shE_cons, shE_nil, shS_sh, shS_ow, shS_none, eq_self, and_self, decide_true, decide_false, reduceCtorEq, false_and, and_false, true_implies, false_implies, implies_true, not_true_eq_false, Bool.not_true, Bool.not_false, Bool.true_and, Bool.false_and, Bool.and_true, Bool.and_false, Bool.or_true, Bool.true_or, Bool.or_false, Bool.false_or, Int.reduceLT, Int.reduceLE, Nat.reduceLT, x_ru0, x_ru1, c_ev, c_pa, g_ti, k_ti1, wipe2, h_law_chains, h_law_next, h_law_off, h_law_reduced2, h_law_more, h_near_parts, h_best_parts, h_mean, h_law_mean, p_law_chains, p_law_next, p_law_off, p_law_reduced2, p_law_more, p_near_parts, p_best_parts, p_mean, p_law_mean]
        refine ⟨by omega, (Z.at64 (i := b.2) (by omega)).big (by decide), ?_⟩
        clear eqb crb
        generalize red b.1 b.2 = bb at *
        rw [List.map_map]
        refine compW_filter (l := chainsC n 4) (f := D.py ∘ ti) (p := fun r => !decide (bb.1 * (offL r e).2 < (offL r e).1 * bb.2)) (g := ti) (Nat.le_trans (chains_len4 hn.2 (Nat.le_refl 4)).1 (by decide)) (fun x hx K' h1 h2 => ?_) ?_
        · have hgx := chains_goodC hn.2 (Nat.le_refl 4) hx
          have ox := off_b hgx he e2
          have z1 : ZF 900 (offL x e) := ⟨(Z.at64 (i := (offL x e).1) (by omega)).mono (by decide), (Z.at64 (i := (offL x e).2) (by omega)).mono (by decide)⟩
          rw [Function.comp_apply]
          simp only [w_nil, w_asg, w_asgL, w_unp, w_par, w_par3, w_aug, w_app, w_ext, w_seti, w_frz, w_expr, w_ret, w_raise, w_brk, w_cont, w_pass, wp, getV, getB, initE, endF, bindG, List.map_cons, List.map_nil, List.length_cons, List.length_nil, List.cons_append, List.nil_append, List.append_nil, List.getElem?_cons_zero, List.getElem?_cons_succ, List.set_cons_zero, List.set_cons_succ, partD, k_L, k_T, l_lenT, l_lenL, l_int, l_intB, l_abs, l_max2, l_max3, l_max4, l_min2, l_maxL, l_minL, l_sum, l_all, l_any, l_tupL, l_tupT, l_lisL, l_lisT, r_1, r_2, r_l, i_L, i_T, i_A, if_true, if_false, ite_true, ite_false, not_false_eq_true, not_true_eq_false, Bool.false_eq_true, ite_not, b_add, b_addT, b_addL, b_sub, b_subB, b_mul, b_mulT, b_mulL, b_fdiv, b_mod, b_pow, a_add, a_sub, a_mul, a_fdiv, c_lt, c_le, c_gt, c_ge, c_eqI, c_neI, c_eqB, c_neB, seqP, pysD, Option.map_some, List.replicate_zero, List.replicate_succ, Nat.zero_add, Nat.add_zero, Nat.reduceAdd, Nat.reduceSub, Nat.reduceLeDiff, decide_eq_true_eq, Bool.not_eq_true', decide_eq_false_iff_not, Nat.sub_self, Option.some.injEq, exists_eq_left', exists_eq_left, x_pick, f_pr, f_qd, f_prT, f_qdT, x_pr0, x_pr1, x_qd0, x_qd1, x_qd2, x_qd3, g_pr, g_qd, l_pr, l_qd, l_prs, l_ti, l_li, c_eq_pr, c_ne_pr, c_eq_qd, c_ne_qd, i_pr, i_qd, i_prs, i_ti, i_li, true_and, and_true, sl0, sl1, sl2, sl3, sl4, sl5, sl6, sl7, sl8, sl9, sl10, sl11, sl12, sl13, sl14, mketa, wipe1, shE_cons, shE_nil, shS_sh, shS_ow, shS_none, eq_self, and_self, decide_true, decide_false, reduceCtorEq, false_and, and_false, true_implies, false_implies, implies_true, not_true_eq_false, Bool.not_true, Bool.not_false, Bool.true_and, Bool.false_and, Bool.and_true, Bool.and_false, Bool.or_true, Bool.true_or, Bool.or_false, Bool.false_or, Int.reduceLT, Int.reduceLE, Nat.reduceLT, x_ru0, x_ru1, c_ev, c_pa, g_ti, k_ti1, wipe2, h_law_chains, h_law_next, h_law_off, h_law_reduced2, h_law_more, h_near_parts, h_best_parts, h_mean, h_law_mean, p_law_chains, p_law_next, p_law_off, p_law_reduced2, p_law_more, p_near_parts, p_best_parts, p_mean, p_law_mean]
          refine ⟨hgx, he, e2, z1, ⟨zb.1.mono (by decide), zb.2.mono (by decide)⟩, ?_⟩
          by_cases w : bb.1 * (offL x e).2 < (offL x e).1 * bb.2
          · rw [if_pos (show ltF bb (offL x e) from w)]
            exact h2 (by rw [decide_eq_true w]; rfl)
          · rw [if_neg (show ¬ ltF bb (offL x e) from w)]
            exact h1 (by rw [decide_eq_false w]; rfl)
        · have hb4 : okF bb = true ∧ 0 ≤ bb.1 ∧ 1 ≤ n ∧ n ≤ 60 := ⟨okb, nb, hn.1, hn.2⟩
          cases hF : (chainsC n 4).filter fun r => !decide (bb.1 * (offL r e).2 < (offL r e).1 * bb.2) with
          | nil =>
            have rm : ReprOk (.list [.tuple [.str "missing"]]) := (Sh.tup (ShA.cons (Sh.str (x := "missing") (by decide +kernel)) ShA.nil)).ok1 (by decide +kernel) (by decide)
            rw [w_ite]
            simp only [w_nil, w_asg, w_asgL, w_unp, w_par, w_par3, w_aug, w_app, w_ext, w_seti, w_frz, w_expr, w_ret, w_raise, w_brk, w_cont, w_pass, wp, getV, getB, initE, endF, bindG, List.map_cons, List.map_nil, List.length_cons, List.length_nil, List.cons_append, List.nil_append, List.append_nil, List.getElem?_cons_zero, List.getElem?_cons_succ, List.set_cons_zero, List.set_cons_succ, partD, k_L, k_T, l_lenT, l_lenL, l_int, l_intB, l_abs, l_max2, l_max3, l_max4, l_min2, l_maxL, l_minL, l_sum, l_all, l_any, l_tupL, l_tupT, l_lisL, l_lisT, r_1, r_2, r_l, i_L, i_T, i_A, if_true, if_false, ite_true, ite_false, not_false_eq_true, not_true_eq_false, Bool.false_eq_true, ite_not, b_add, b_addT, b_addL, b_sub, b_subB, b_mul, b_mulT, b_mulL, b_fdiv, b_mod, b_pow, a_add, a_sub, a_mul, a_fdiv, c_lt, c_le, c_gt, c_ge, c_eqI, c_neI, c_eqB, c_neB, seqP, pysD, Option.map_some, List.replicate_zero, List.replicate_succ, Nat.zero_add, Nat.add_zero, Nat.reduceAdd, Nat.reduceSub, Nat.reduceLeDiff, decide_eq_true_eq, Bool.not_eq_true', decide_eq_false_iff_not, Nat.sub_self, Option.some.injEq, exists_eq_left', exists_eq_left, x_pick, f_pr, f_qd, f_prT, f_qdT, x_pr0, x_pr1, x_qd0, x_qd1, x_qd2, x_qd3, g_pr, g_qd, l_pr, l_qd, l_prs, l_ti, l_li, c_eq_pr, c_ne_pr, c_eq_qd, c_ne_qd, i_pr, i_qd, i_prs, i_ti, i_li, true_and, and_true, sl0, sl1, sl2, sl3, sl4, sl5, sl6, sl7, sl8, sl9, sl10, sl11, sl12, sl13, sl14, mketa, wipe1, shE_cons, shE_nil, shS_sh, shS_ow, shS_none, eq_self, and_self, decide_true, decide_false, reduceCtorEq, false_and, and_false, true_implies, false_implies, implies_true, not_true_eq_false, Bool.not_true, Bool.not_false, Bool.true_and, Bool.false_and, Bool.and_true, Bool.and_false, Bool.or_true, Bool.true_or, Bool.or_false, Bool.false_or, Int.reduceLT, Int.reduceLE, Nat.reduceLT, x_ru0, x_ru1, c_ev, c_pa, g_ti, k_ti1, wipe2, h_law_chains, h_law_next, h_law_off, h_law_reduced2, h_law_more, h_near_parts, h_best_parts, h_mean, h_law_mean, p_law_chains, p_law_next, p_law_off, p_law_reduced2, p_law_more, p_near_parts, p_best_parts, p_mean, p_law_mean, he, hb4]
            rw [hF]
            refine ⟨e2, zb, fun r s z => (nomatch z), fun _ => ?_⟩
            rw [show exName 2 = ("missing" : Str) from rfl, w_ite]
            simp only [w_nil, w_asg, w_asgL, w_unp, w_par, w_par3, w_aug, w_app, w_ext, w_seti, w_frz, w_expr, w_ret, w_raise, w_brk, w_cont, w_pass, wp, getV, getB, initE, endF, bindG, List.map_cons, List.map_nil, List.length_cons, List.length_nil, List.cons_append, List.nil_append, List.append_nil, List.getElem?_cons_zero, List.getElem?_cons_succ, List.set_cons_zero, List.set_cons_succ, partD, k_L, k_T, l_lenT, l_lenL, l_int, l_intB, l_abs, l_max2, l_max3, l_max4, l_min2, l_maxL, l_minL, l_sum, l_all, l_any, l_tupL, l_tupT, l_lisL, l_lisT, r_1, r_2, r_l, i_L, i_T, i_A, if_true, if_false, ite_true, ite_false, not_false_eq_true, not_true_eq_false, Bool.false_eq_true, ite_not, b_add, b_addT, b_addL, b_sub, b_subB, b_mul, b_mulT, b_mulL, b_fdiv, b_mod, b_pow, a_add, a_sub, a_mul, a_fdiv, c_lt, c_le, c_gt, c_ge, c_eqI, c_neI, c_eqB, c_neB, seqP, pysD, Option.map_some, List.replicate_zero, List.replicate_succ, Nat.zero_add, Nat.add_zero, Nat.reduceAdd, Nat.reduceSub, Nat.reduceLeDiff, decide_eq_true_eq, Bool.not_eq_true', decide_eq_false_iff_not, Nat.sub_self, Option.some.injEq, exists_eq_left', exists_eq_left, x_pick, f_pr, f_qd, f_prT, f_qdT, x_pr0, x_pr1, x_qd0, x_qd1, x_qd2, x_qd3, g_pr, g_qd, l_pr, l_qd, l_prs, l_ti, l_li, c_eq_pr, c_ne_pr, c_eq_qd, c_ne_qd, i_pr, i_qd, i_prs, i_ti, i_li, true_and, and_true, sl0, sl1, sl2, sl3, sl4, sl5, sl6, sl7, sl8, sl9, sl10, sl11, sl12, sl13, sl14, mketa, wipe1, shE_cons, shE_nil, shS_sh, shS_ow, shS_none, eq_self, and_self, decide_true, decide_false, reduceCtorEq, false_and, and_false, true_implies, false_implies, implies_true, not_true_eq_false, Bool.not_true, Bool.not_false, Bool.true_and, Bool.false_and, Bool.and_true, Bool.and_false, Bool.or_true, Bool.true_or, Bool.or_false, Bool.false_or, Int.reduceLT, Int.reduceLE, Nat.reduceLT, x_ru0, x_ru1, c_ev, c_pa, g_ti, k_ti1, wipe2, h_law_chains, h_law_next, h_law_off, h_law_reduced2, h_law_more, h_near_parts, h_best_parts, h_mean, h_law_mean, p_law_chains, p_law_next, p_law_off, p_law_reduced2, p_law_more, p_near_parts, p_best_parts, p_mean, p_law_mean, rm]
            rw [w_ite]
            simp only [w_nil, w_asg, w_asgL, w_unp, w_par, w_par3, w_aug, w_app, w_ext, w_seti, w_frz, w_expr, w_ret, w_raise, w_brk, w_cont, w_pass, wp, getV, getB, initE, endF, bindG, List.map_cons, List.map_nil, List.length_cons, List.length_nil, List.cons_append, List.nil_append, List.append_nil, List.getElem?_cons_zero, List.getElem?_cons_succ, List.set_cons_zero, List.set_cons_succ, partD, k_L, k_T, l_lenT, l_lenL, l_int, l_intB, l_abs, l_max2, l_max3, l_max4, l_min2, l_maxL, l_minL, l_sum, l_all, l_any, l_tupL, l_tupT, l_lisL, l_lisT, r_1, r_2, r_l, i_L, i_T, i_A, if_true, if_false, ite_true, ite_false, not_false_eq_true, not_true_eq_false, Bool.false_eq_true, ite_not, b_add, b_addT, b_addL, b_sub, b_subB, b_mul, b_mulT, b_mulL, b_fdiv, b_mod, b_pow, a_add, a_sub, a_mul, a_fdiv, c_lt, c_le, c_gt, c_ge, c_eqI, c_neI, c_eqB, c_neB, seqP, pysD, Option.map_some, List.replicate_zero, List.replicate_succ, Nat.zero_add, Nat.add_zero, Nat.reduceAdd, Nat.reduceSub, Nat.reduceLeDiff, decide_eq_true_eq, Bool.not_eq_true', decide_eq_false_iff_not, Nat.sub_self, Option.some.injEq, exists_eq_left', exists_eq_left, x_pick, f_pr, f_qd, f_prT, f_qdT, x_pr0, x_pr1, x_qd0, x_qd1, x_qd2, x_qd3, g_pr, g_qd, l_pr, l_qd, l_prs, l_ti, l_li, c_eq_pr, c_ne_pr, c_eq_qd, c_ne_qd, i_pr, i_qd, i_prs, i_ti, i_li, true_and, and_true, sl0, sl1, sl2, sl3, sl4, sl5, sl6, sl7, sl8, sl9, sl10, sl11, sl12, sl13, sl14, mketa, wipe1, shE_cons, shE_nil, shS_sh, shS_ow, shS_none, eq_self, and_self, decide_true, decide_false, reduceCtorEq, false_and, and_false, true_implies, false_implies, implies_true, not_true_eq_false, Bool.not_true, Bool.not_false, Bool.true_and, Bool.false_and, Bool.and_true, Bool.and_false, Bool.or_true, Bool.true_or, Bool.or_false, Bool.false_or, Int.reduceLT, Int.reduceLE, Nat.reduceLT, x_ru0, x_ru1, c_ev, c_pa, g_ti, k_ti1, wipe2, h_law_chains, h_law_next, h_law_off, h_law_reduced2, h_law_more, h_near_parts, h_best_parts, h_mean, h_law_mean, p_law_chains, p_law_next, p_law_off, p_law_reduced2, p_law_more, p_near_parts, p_best_parts, p_mean, p_law_mean]
            refine ixT_of (p := .str "missing") (by decide) rfl (c_toldE (by decide +kernel) (by decide +kernel) (k := false) (by decide +kernel) ?_)
            simp only [w_nil, w_asg, w_asgL, w_unp, w_par, w_par3, w_aug, w_app, w_ext, w_seti, w_frz, w_expr, w_ret, w_raise, w_brk, w_cont, w_pass, wp, getV, getB, initE, endF, bindG, List.map_cons, List.map_nil, List.length_cons, List.length_nil, List.cons_append, List.nil_append, List.append_nil, List.getElem?_cons_zero, List.getElem?_cons_succ, List.set_cons_zero, List.set_cons_succ, partD, k_L, k_T, l_lenT, l_lenL, l_int, l_intB, l_abs, l_max2, l_max3, l_max4, l_min2, l_maxL, l_minL, l_sum, l_all, l_any, l_tupL, l_tupT, l_lisL, l_lisT, r_1, r_2, r_l, i_L, i_T, i_A, if_true, if_false, ite_true, ite_false, not_false_eq_true, not_true_eq_false, Bool.false_eq_true, ite_not, b_add, b_addT, b_addL, b_sub, b_subB, b_mul, b_mulT, b_mulL, b_fdiv, b_mod, b_pow, a_add, a_sub, a_mul, a_fdiv, c_lt, c_le, c_gt, c_ge, c_eqI, c_neI, c_eqB, c_neB, seqP, pysD, Option.map_some, List.replicate_zero, List.replicate_succ, Nat.zero_add, Nat.add_zero, Nat.reduceAdd, Nat.reduceSub, Nat.reduceLeDiff, decide_eq_true_eq, Bool.not_eq_true', decide_eq_false_iff_not, Nat.sub_self, Option.some.injEq, exists_eq_left', exists_eq_left, x_pick, f_pr, f_qd, f_prT, f_qdT, x_pr0, x_pr1, x_qd0, x_qd1, x_qd2, x_qd3, g_pr, g_qd, l_pr, l_qd, l_prs, l_ti, l_li, c_eq_pr, c_ne_pr, c_eq_qd, c_ne_qd, i_pr, i_qd, i_prs, i_ti, i_li, true_and, and_true, sl0, sl1, sl2, sl3, sl4, sl5, sl6, sl7, sl8, sl9, sl10, sl11, sl12, sl13, sl14, mketa, wipe1, shE_cons, shE_nil, shS_sh, shS_ow, shS_none, eq_self, and_self, decide_true, decide_false, reduceCtorEq, false_and, and_false, true_implies, false_implies, implies_true, not_true_eq_false, Bool.not_true, Bool.not_false, Bool.true_and, Bool.false_and, Bool.and_true, Bool.and_false, Bool.or_true, Bool.true_or, Bool.or_false, Bool.false_or, Int.reduceLT, Int.reduceLE, Nat.reduceLT, x_ru0, x_ru1, c_ev, c_pa, g_ti, k_ti1, wipe2, h_law_chains, h_law_next, h_law_off, h_law_reduced2, h_law_more, h_near_parts, h_best_parts, h_mean, h_law_mean, p_law_chains, p_law_next, p_law_off, p_law_reduced2, p_law_more, p_near_parts, p_best_parts, p_mean, p_law_mean]
            exact hK _ ⟨_, _, _, _, _, _, _, _, _, _, _, _, rfl⟩
          | cons r2 s =>
            have hr2 : r2 ∈ chainsC n 4 := (List.mem_filter.mp (by rw [hF]; exact List.mem_cons_self ..)).1
            have hg2 := chains_goodC hn.2 (Nat.le_refl 4) hr2
            have s2r := sR hg2
            rw [w_ite]
            simp only [w_nil, w_asg, w_asgL, w_unp, w_par, w_par3, w_aug, w_app, w_ext, w_seti, w_frz, w_expr, w_ret, w_raise, w_brk, w_cont, w_pass, wp, getV, getB, initE, endF, bindG, List.map_cons, List.map_nil, List.length_cons, List.length_nil, List.cons_append, List.nil_append, List.append_nil, List.getElem?_cons_zero, List.getElem?_cons_succ, List.set_cons_zero, List.set_cons_succ, partD, k_L, k_T, l_lenT, l_lenL, l_int, l_intB, l_abs, l_max2, l_max3, l_max4, l_min2, l_maxL, l_minL, l_sum, l_all, l_any, l_tupL, l_tupT, l_lisL, l_lisT, r_1, r_2, r_l, i_L, i_T, i_A, if_true, if_false, ite_true, ite_false, not_false_eq_true, not_true_eq_false, Bool.false_eq_true, ite_not, b_add, b_addT, b_addL, b_sub, b_subB, b_mul, b_mulT, b_mulL, b_fdiv, b_mod, b_pow, a_add, a_sub, a_mul, a_fdiv, c_lt, c_le, c_gt, c_ge, c_eqI, c_neI, c_eqB, c_neB, seqP, pysD, Option.map_some, List.replicate_zero, List.replicate_succ, Nat.zero_add, Nat.add_zero, Nat.reduceAdd, Nat.reduceSub, Nat.reduceLeDiff, decide_eq_true_eq, Bool.not_eq_true', decide_eq_false_iff_not, Nat.sub_self, Option.some.injEq, exists_eq_left', exists_eq_left, x_pick, f_pr, f_qd, f_prT, f_qdT, x_pr0, x_pr1, x_qd0, x_qd1, x_qd2, x_qd3, g_pr, g_qd, l_pr, l_qd, l_prs, l_ti, l_li, c_eq_pr, c_ne_pr, c_eq_qd, c_ne_qd, i_pr, i_qd, i_prs, i_ti, i_li, true_and, and_true, sl0, sl1, sl2, sl3, sl4, sl5, sl6, sl7, sl8, sl9, sl10, sl11, sl12, sl13, sl14, mketa, wipe1, shE_cons, shE_nil, shS_sh, shS_ow, shS_none, eq_self, and_self, decide_true, decide_false, reduceCtorEq, false_and, and_false, true_implies, false_implies, implies_true, not_true_eq_false, Bool.not_true, Bool.not_false, Bool.true_and, Bool.false_and, Bool.and_true, Bool.and_false, Bool.or_true, Bool.true_or, Bool.or_false, Bool.false_or, Int.reduceLT, Int.reduceLE, Nat.reduceLT, x_ru0, x_ru1, c_ev, c_pa, g_ti, k_ti1, wipe2, h_law_chains, h_law_next, h_law_off, h_law_reduced2, h_law_more, h_near_parts, h_best_parts, h_mean, h_law_mean, p_law_chains, p_law_next, p_law_off, p_law_reduced2, p_law_more, p_near_parts, p_best_parts, p_mean, p_law_mean, he, hb4]
            rw [if_pos (by omega), hF]
            refine ixL_of (p := ti r2) (by decide) rfl ⟨_, rfl, by show 2 ≤ sizeLine; decide, e2, zb, fun r3 s3 z => ?_, fun z => (nomatch z)⟩
            obtain rfl : r2 = r3 := by injection z
            rw [w_ite]
            simp only [w_nil, w_asg, w_asgL, w_unp, w_par, w_par3, w_aug, w_app, w_ext, w_seti, w_frz, w_expr, w_ret, w_raise, w_brk, w_cont, w_pass, wp, getV, getB, initE, endF, bindG, List.map_cons, List.map_nil, List.length_cons, List.length_nil, List.cons_append, List.nil_append, List.append_nil, List.getElem?_cons_zero, List.getElem?_cons_succ, List.set_cons_zero, List.set_cons_succ, partD, k_L, k_T, l_lenT, l_lenL, l_int, l_intB, l_abs, l_max2, l_max3, l_max4, l_min2, l_maxL, l_minL, l_sum, l_all, l_any, l_tupL, l_tupT, l_lisL, l_lisT, r_1, r_2, r_l, i_L, i_T, i_A, if_true, if_false, ite_true, ite_false, not_false_eq_true, not_true_eq_false, Bool.false_eq_true, ite_not, b_add, b_addT, b_addL, b_sub, b_subB, b_mul, b_mulT, b_mulL, b_fdiv, b_mod, b_pow, a_add, a_sub, a_mul, a_fdiv, c_lt, c_le, c_gt, c_ge, c_eqI, c_neI, c_eqB, c_neB, seqP, pysD, Option.map_some, List.replicate_zero, List.replicate_succ, Nat.zero_add, Nat.add_zero, Nat.reduceAdd, Nat.reduceSub, Nat.reduceLeDiff, decide_eq_true_eq, Bool.not_eq_true', decide_eq_false_iff_not, Nat.sub_self, Option.some.injEq, exists_eq_left', exists_eq_left, x_pick, f_pr, f_qd, f_prT, f_qdT, x_pr0, x_pr1, x_qd0, x_qd1, x_qd2, x_qd3, g_pr, g_qd, l_pr, l_qd, l_prs, l_ti, l_li, c_eq_pr, c_ne_pr, c_eq_qd, c_ne_qd, i_pr, i_qd, i_prs, i_ti, i_li, true_and, and_true, sl0, sl1, sl2, sl3, sl4, sl5, sl6, sl7, sl8, sl9, sl10, sl11, sl12, sl13, sl14, mketa, wipe1, shE_cons, shE_nil, shS_sh, shS_ow, shS_none, eq_self, and_self, decide_true, decide_false, reduceCtorEq, false_and, and_false, true_implies, false_implies, implies_true, not_true_eq_false, Bool.not_true, Bool.not_false, Bool.true_and, Bool.false_and, Bool.and_true, Bool.and_false, Bool.or_true, Bool.true_or, Bool.or_false, Bool.false_or, Int.reduceLT, Int.reduceLE, Nat.reduceLT, x_ru0, x_ru1, c_ev, c_pa, g_ti, k_ti1, wipe2, h_law_chains, h_law_next, h_law_off, h_law_reduced2, h_law_more, h_near_parts, h_best_parts, h_mean, h_law_mean, p_law_chains, p_law_next, p_law_off, p_law_reduced2, p_law_more, p_near_parts, p_best_parts, p_mean, p_law_mean, s2r]
            rw [w_ite]
            simp only [w_nil, w_asg, w_asgL, w_unp, w_par, w_par3, w_aug, w_app, w_ext, w_seti, w_frz, w_expr, w_ret, w_raise, w_brk, w_cont, w_pass, wp, getV, getB, initE, endF, bindG, List.map_cons, List.map_nil, List.length_cons, List.length_nil, List.cons_append, List.nil_append, List.append_nil, List.getElem?_cons_zero, List.getElem?_cons_succ, List.set_cons_zero, List.set_cons_succ, partD, k_L, k_T, l_lenT, l_lenL, l_int, l_intB, l_abs, l_max2, l_max3, l_max4, l_min2, l_maxL, l_minL, l_sum, l_all, l_any, l_tupL, l_tupT, l_lisL, l_lisT, r_1, r_2, r_l, i_L, i_T, i_A, if_true, if_false, ite_true, ite_false, not_false_eq_true, not_true_eq_false, Bool.false_eq_true, ite_not, b_add, b_addT, b_addL, b_sub, b_subB, b_mul, b_mulT, b_mulL, b_fdiv, b_mod, b_pow, a_add, a_sub, a_mul, a_fdiv, c_lt, c_le, c_gt, c_ge, c_eqI, c_neI, c_eqB, c_neB, seqP, pysD, Option.map_some, List.replicate_zero, List.replicate_succ, Nat.zero_add, Nat.add_zero, Nat.reduceAdd, Nat.reduceSub, Nat.reduceLeDiff, decide_eq_true_eq, Bool.not_eq_true', decide_eq_false_iff_not, Nat.sub_self, Option.some.injEq, exists_eq_left', exists_eq_left, x_pick, f_pr, f_qd, f_prT, f_qdT, x_pr0, x_pr1, x_qd0, x_qd1, x_qd2, x_qd3, g_pr, g_qd, l_pr, l_qd, l_prs, l_ti, l_li, c_eq_pr, c_ne_pr, c_eq_qd, c_ne_qd, i_pr, i_qd, i_prs, i_ti, i_li, true_and, and_true, sl0, sl1, sl2, sl3, sl4, sl5, sl6, sl7, sl8, sl9, sl10, sl11, sl12, sl13, sl14, mketa, wipe1, shE_cons, shE_nil, shS_sh, shS_ow, shS_none, eq_self, and_self, decide_true, decide_false, reduceCtorEq, false_and, and_false, true_implies, false_implies, implies_true, not_true_eq_false, Bool.not_true, Bool.not_false, Bool.true_and, Bool.false_and, Bool.and_true, Bool.and_false, Bool.or_true, Bool.true_or, Bool.or_false, Bool.false_or, Int.reduceLT, Int.reduceLE, Nat.reduceLT, x_ru0, x_ru1, c_ev, c_pa, g_ti, k_ti1, wipe2, h_law_chains, h_law_next, h_law_off, h_law_reduced2, h_law_more, h_near_parts, h_best_parts, h_mean, h_law_mean, p_law_chains, p_law_next, p_law_off, p_law_reduced2, p_law_more, p_near_parts, p_best_parts, p_mean, p_law_mean]
            obtain ⟨gL, gd, g1, g4, g60⟩ := goodC_d hg2
            have hne : r2 ≠ [] := List.length_pos_iff.mp (by omega)
            have gR : goodR (.pa, r2) := by
              obtain ⟨j, hj, q1, q2, q3, q4⟩ := hg2
              exact .inl ⟨rfl, g1, g4, fun q hq => ⟨(gd q hq).1, by have := g60 q hq; omega⟩, q3⟩
            have er : frac (cnt (.pa, r2) (per (.pa, r2))) (per (.pa, r2)) = red (altC 1 r2 (las r2)) (las r2) := frac_red (show 0 < las r2 by omega)
            have ab := altC_b (L := las r2) (by omega) r2 fun q hq => (gd q hq).1
            have a1 : (r2.length : Int) * las r2 ≤ 4 * 60 := Int.mul_le_mul (by omega) (by omega) (by omega) (by decide)
            have zr : ZF 64 (red (altC 1 r2 (las r2)) (las r2)) := by
              rw [← frac_red (show 0 < las r2 by omega)]
              exact ZF.frac (n := 64) (m := 64) (Z.at64 (by omega)) (Z.at64 (by omega))
            have sm : ReprOk (.list [told (pr (red (altC 1 r2 (las r2)) (las r2)))]) := (Sh.told (ZF0 zr.1 zr.2 (by decide))).ok1 (by decide) (by decide)
            refine ixT_of (p := .str "told") (by decide) rfl (c_toldE (by decide +kernel) (by decide +kernel) (k := true) (by decide +kernel) ?_)
            simp only [w_nil, w_asg, w_asgL, w_unp, w_par, w_par3, w_aug, w_app, w_ext, w_seti, w_frz, w_expr, w_ret, w_raise, w_brk, w_cont, w_pass, wp, getV, getB, initE, endF, bindG, List.map_cons, List.map_nil, List.length_cons, List.length_nil, List.cons_append, List.nil_append, List.append_nil, List.getElem?_cons_zero, List.getElem?_cons_succ, List.set_cons_zero, List.set_cons_succ, partD, k_L, k_T, l_lenT, l_lenL, l_int, l_intB, l_abs, l_max2, l_max3, l_max4, l_min2, l_maxL, l_minL, l_sum, l_all, l_any, l_tupL, l_tupT, l_lisL, l_lisT, r_1, r_2, r_l, i_L, i_T, i_A, if_true, if_false, ite_true, ite_false, not_false_eq_true, not_true_eq_false, Bool.false_eq_true, ite_not, b_add, b_addT, b_addL, b_sub, b_subB, b_mul, b_mulT, b_mulL, b_fdiv, b_mod, b_pow, a_add, a_sub, a_mul, a_fdiv, c_lt, c_le, c_gt, c_ge, c_eqI, c_neI, c_eqB, c_neB, seqP, pysD, Option.map_some, List.replicate_zero, List.replicate_succ, Nat.zero_add, Nat.add_zero, Nat.reduceAdd, Nat.reduceSub, Nat.reduceLeDiff, decide_eq_true_eq, Bool.not_eq_true', decide_eq_false_iff_not, Nat.sub_self, Option.some.injEq, exists_eq_left', exists_eq_left, x_pick, f_pr, f_qd, f_prT, f_qdT, x_pr0, x_pr1, x_qd0, x_qd1, x_qd2, x_qd3, g_pr, g_qd, l_pr, l_qd, l_prs, l_ti, l_li, c_eq_pr, c_ne_pr, c_eq_qd, c_ne_qd, i_pr, i_qd, i_prs, i_ti, i_li, true_and, and_true, sl0, sl1, sl2, sl3, sl4, sl5, sl6, sl7, sl8, sl9, sl10, sl11, sl12, sl13, sl14, mketa, wipe1, shE_cons, shE_nil, shS_sh, shS_ow, shS_none, eq_self, and_self, decide_true, decide_false, reduceCtorEq, false_and, and_false, true_implies, false_implies, implies_true, not_true_eq_false, Bool.not_true, Bool.not_false, Bool.true_and, Bool.false_and, Bool.and_true, Bool.and_false, Bool.or_true, Bool.true_or, Bool.or_false, Bool.false_or, Int.reduceLT, Int.reduceLE, Nat.reduceLT, x_ru0, x_ru1, c_ev, c_pa, g_ti, k_ti1, wipe2, h_law_chains, h_law_next, h_law_off, h_law_reduced2, h_law_more, h_near_parts, h_best_parts, h_mean, h_law_mean, p_law_chains, p_law_next, p_law_off, p_law_reduced2, p_law_more, p_near_parts, p_best_parts, p_mean, p_law_mean]
            refine ixT_of (p := ti r2) (by decide) rfl ⟨_, rfl, by show 2 ≤ sizeLine; decide, ?_⟩
            show C_mean [.py (ru (.pa, r2))] _ _
            rw [p_mean]
            refine ⟨goodR_sh gR, fun _ => ?_, fun z => absurd gR z⟩
            rw [er]
            simp only [w_nil, w_asg, w_asgL, w_unp, w_par, w_par3, w_aug, w_app, w_ext, w_seti, w_frz, w_expr, w_ret, w_raise, w_brk, w_cont, w_pass, wp, getV, getB, initE, endF, bindG, List.map_cons, List.map_nil, List.length_cons, List.length_nil, List.cons_append, List.nil_append, List.append_nil, List.getElem?_cons_zero, List.getElem?_cons_succ, List.set_cons_zero, List.set_cons_succ, partD, k_L, k_T, l_lenT, l_lenL, l_int, l_intB, l_abs, l_max2, l_max3, l_max4, l_min2, l_maxL, l_minL, l_sum, l_all, l_any, l_tupL, l_tupT, l_lisL, l_lisT, r_1, r_2, r_l, i_L, i_T, i_A, if_true, if_false, ite_true, ite_false, not_false_eq_true, not_true_eq_false, Bool.false_eq_true, ite_not, b_add, b_addT, b_addL, b_sub, b_subB, b_mul, b_mulT, b_mulL, b_fdiv, b_mod, b_pow, a_add, a_sub, a_mul, a_fdiv, c_lt, c_le, c_gt, c_ge, c_eqI, c_neI, c_eqB, c_neB, seqP, pysD, Option.map_some, List.replicate_zero, List.replicate_succ, Nat.zero_add, Nat.add_zero, Nat.reduceAdd, Nat.reduceSub, Nat.reduceLeDiff, decide_eq_true_eq, Bool.not_eq_true', decide_eq_false_iff_not, Nat.sub_self, Option.some.injEq, exists_eq_left', exists_eq_left, x_pick, f_pr, f_qd, f_prT, f_qdT, x_pr0, x_pr1, x_qd0, x_qd1, x_qd2, x_qd3, g_pr, g_qd, l_pr, l_qd, l_prs, l_ti, l_li, c_eq_pr, c_ne_pr, c_eq_qd, c_ne_qd, i_pr, i_qd, i_prs, i_ti, i_li, true_and, and_true, sl0, sl1, sl2, sl3, sl4, sl5, sl6, sl7, sl8, sl9, sl10, sl11, sl12, sl13, sl14, mketa, wipe1, shE_cons, shE_nil, shS_sh, shS_ow, shS_none, eq_self, and_self, decide_true, decide_false, reduceCtorEq, false_and, and_false, true_implies, false_implies, implies_true, not_true_eq_false, Bool.not_true, Bool.not_false, Bool.true_and, Bool.false_and, Bool.and_true, Bool.and_false, Bool.or_true, Bool.true_or, Bool.or_false, Bool.false_or, Int.reduceLT, Int.reduceLE, Nat.reduceLT, x_ru0, x_ru1, c_ev, c_pa, g_ti, k_ti1, wipe2, h_law_chains, h_law_next, h_law_off, h_law_reduced2, h_law_more, h_near_parts, h_best_parts, h_mean, h_law_mean, p_law_chains, p_law_next, p_law_off, p_law_reduced2, p_law_more, p_near_parts, p_best_parts, p_mean, p_law_mean]
            refine ixT_of (p := ti r2) (by decide) rfl ?_
            simp only [w_nil, w_asg, w_asgL, w_unp, w_par, w_par3, w_aug, w_app, w_ext, w_seti, w_frz, w_expr, w_ret, w_raise, w_brk, w_cont, w_pass, wp, getV, getB, initE, endF, bindG, List.map_cons, List.map_nil, List.length_cons, List.length_nil, List.cons_append, List.nil_append, List.append_nil, List.getElem?_cons_zero, List.getElem?_cons_succ, List.set_cons_zero, List.set_cons_succ, partD, k_L, k_T, l_lenT, l_lenL, l_int, l_intB, l_abs, l_max2, l_max3, l_max4, l_min2, l_maxL, l_minL, l_sum, l_all, l_any, l_tupL, l_tupT, l_lisL, l_lisT, r_1, r_2, r_l, i_L, i_T, i_A, if_true, if_false, ite_true, ite_false, not_false_eq_true, not_true_eq_false, Bool.false_eq_true, ite_not, b_add, b_addT, b_addL, b_sub, b_subB, b_mul, b_mulT, b_mulL, b_fdiv, b_mod, b_pow, a_add, a_sub, a_mul, a_fdiv, c_lt, c_le, c_gt, c_ge, c_eqI, c_neI, c_eqB, c_neB, seqP, pysD, Option.map_some, List.replicate_zero, List.replicate_succ, Nat.zero_add, Nat.add_zero, Nat.reduceAdd, Nat.reduceSub, Nat.reduceLeDiff, decide_eq_true_eq, Bool.not_eq_true', decide_eq_false_iff_not, Nat.sub_self, Option.some.injEq, exists_eq_left', exists_eq_left, x_pick, f_pr, f_qd, f_prT, f_qdT, x_pr0, x_pr1, x_qd0, x_qd1, x_qd2, x_qd3, g_pr, g_qd, l_pr, l_qd, l_prs, l_ti, l_li, c_eq_pr, c_ne_pr, c_eq_qd, c_ne_qd, i_pr, i_qd, i_prs, i_ti, i_li, true_and, and_true, sl0, sl1, sl2, sl3, sl4, sl5, sl6, sl7, sl8, sl9, sl10, sl11, sl12, sl13, sl14, mketa, wipe1, shE_cons, shE_nil, shS_sh, shS_ow, shS_none, eq_self, and_self, decide_true, decide_false, reduceCtorEq, false_and, and_false, true_implies, false_implies, implies_true, not_true_eq_false, Bool.not_true, Bool.not_false, Bool.true_and, Bool.false_and, Bool.and_true, Bool.and_false, Bool.or_true, Bool.true_or, Bool.or_false, Bool.false_or, Int.reduceLT, Int.reduceLE, Nat.reduceLT, x_ru0, x_ru1, c_ev, c_pa, g_ti, k_ti1, wipe2, h_law_chains, h_law_next, h_law_off, h_law_reduced2, h_law_more, h_near_parts, h_best_parts, h_mean, h_law_mean, p_law_chains, p_law_next, p_law_off, p_law_reduced2, p_law_more, p_near_parts, p_best_parts, p_mean, p_law_mean]
            refine ⟨hg2, ixT_of (p := ti r2) (by decide) rfl (ix_las hne ?_)⟩
            simp only [w_nil, w_asg, w_asgL, w_unp, w_par, w_par3, w_aug, w_app, w_ext, w_seti, w_frz, w_expr, w_ret, w_raise, w_brk, w_cont, w_pass, wp, getV, getB, initE, endF, bindG, List.map_cons, List.map_nil, List.length_cons, List.length_nil, List.cons_append, List.nil_append, List.append_nil, List.getElem?_cons_zero, List.getElem?_cons_succ, List.set_cons_zero, List.set_cons_succ, partD, k_L, k_T, l_lenT, l_lenL, l_int, l_intB, l_abs, l_max2, l_max3, l_max4, l_min2, l_maxL, l_minL, l_sum, l_all, l_any, l_tupL, l_tupT, l_lisL, l_lisT, r_1, r_2, r_l, i_L, i_T, i_A, if_true, if_false, ite_true, ite_false, not_false_eq_true, not_true_eq_false, Bool.false_eq_true, ite_not, b_add, b_addT, b_addL, b_sub, b_subB, b_mul, b_mulT, b_mulL, b_fdiv, b_mod, b_pow, a_add, a_sub, a_mul, a_fdiv, c_lt, c_le, c_gt, c_ge, c_eqI, c_neI, c_eqB, c_neB, seqP, pysD, Option.map_some, List.replicate_zero, List.replicate_succ, Nat.zero_add, Nat.add_zero, Nat.reduceAdd, Nat.reduceSub, Nat.reduceLeDiff, decide_eq_true_eq, Bool.not_eq_true', decide_eq_false_iff_not, Nat.sub_self, Option.some.injEq, exists_eq_left', exists_eq_left, x_pick, f_pr, f_qd, f_prT, f_qdT, x_pr0, x_pr1, x_qd0, x_qd1, x_qd2, x_qd3, g_pr, g_qd, l_pr, l_qd, l_prs, l_ti, l_li, c_eq_pr, c_ne_pr, c_eq_qd, c_ne_qd, i_pr, i_qd, i_prs, i_ti, i_li, true_and, and_true, sl0, sl1, sl2, sl3, sl4, sl5, sl6, sl7, sl8, sl9, sl10, sl11, sl12, sl13, sl14, mketa, wipe1, shE_cons, shE_nil, shS_sh, shS_ow, shS_none, eq_self, and_self, decide_true, decide_false, reduceCtorEq, false_and, and_false, true_implies, false_implies, implies_true, not_true_eq_false, Bool.not_true, Bool.not_false, Bool.true_and, Bool.false_and, Bool.and_true, Bool.and_false, Bool.or_true, Bool.true_or, Bool.or_false, Bool.false_or, Int.reduceLT, Int.reduceLE, Nat.reduceLT, x_ru0, x_ru1, c_ev, c_pa, g_ti, k_ti1, wipe2, h_law_chains, h_law_next, h_law_off, h_law_reduced2, h_law_more, h_near_parts, h_best_parts, h_mean, h_law_mean, p_law_chains, p_law_next, p_law_off, p_law_reduced2, p_law_more, p_near_parts, p_best_parts, p_mean, p_law_mean]
            refine ⟨by omega, (Z.at64 (i := las r2) (by omega)).big (by decide), sm, ?_⟩
            exact hK _ ⟨_, _, _, _, _, _, _, _, _, _, _, _, rfl⟩
      · rintro ρ ⟨s0, s2, s5, s7, s8, s9, s10, s11, s12, s13, s14, s15, rfl⟩
        rw [w_forq, w_for]
        simp only [w_nil, w_asg, w_asgL, w_unp, w_par, w_par3, w_aug, w_app, w_ext, w_seti, w_frz, w_expr, w_ret, w_raise, w_brk, w_cont, w_pass, wp, getV, getB, initE, endF, bindG, List.map_cons, List.map_nil, List.length_cons, List.length_nil, List.cons_append, List.nil_append, List.append_nil, List.getElem?_cons_zero, List.getElem?_cons_succ, List.set_cons_zero, List.set_cons_succ, partD, k_L, k_T, l_lenT, l_lenL, l_int, l_intB, l_abs, l_max2, l_max3, l_max4, l_min2, l_maxL, l_minL, l_sum, l_all, l_any, l_tupL, l_tupT, l_lisL, l_lisT, r_1, r_2, r_l, i_L, i_T, i_A, if_true, if_false, ite_true, ite_false, not_false_eq_true, not_true_eq_false, Bool.false_eq_true, ite_not, b_add, b_addT, b_addL, b_sub, b_subB, b_mul, b_mulT, b_mulL, b_fdiv, b_mod, b_pow, a_add, a_sub, a_mul, a_fdiv, c_lt, c_le, c_gt, c_ge, c_eqI, c_neI, c_eqB, c_neB, seqP, pysD, Option.map_some, List.replicate_zero, List.replicate_succ, Nat.zero_add, Nat.add_zero, Nat.reduceAdd, Nat.reduceSub, Nat.reduceLeDiff, decide_eq_true_eq, Bool.not_eq_true', decide_eq_false_iff_not, Nat.sub_self, Option.some.injEq, exists_eq_left', exists_eq_left, x_pick, f_pr, f_qd, f_prT, f_qdT, x_pr0, x_pr1, x_qd0, x_qd1, x_qd2, x_qd3, g_pr, g_qd, l_pr, l_qd, l_prs, l_ti, l_li, c_eq_pr, c_ne_pr, c_eq_qd, c_ne_qd, i_pr, i_qd, i_prs, i_ti, i_li, true_and, and_true, sl0, sl1, sl2, sl3, sl4, sl5, sl6, sl7, sl8, sl9, sl10, sl11, sl12, sl13, sl14, mketa, wipe1, shE_cons, shE_nil, shS_sh, shS_ow, shS_none, eq_self, and_self, decide_true, decide_false, reduceCtorEq, false_and, and_false, true_implies, false_implies, implies_true, not_true_eq_false, Bool.not_true, Bool.not_false, Bool.true_and, Bool.false_and, Bool.and_true, Bool.and_false, Bool.or_true, Bool.true_or, Bool.or_false, Bool.false_or, Int.reduceLT, Int.reduceLE, Nat.reduceLT, x_ru0, x_ru1, c_ev, c_pa, g_ti, k_ti1, wipe2, h_law_chains, h_law_next, h_law_off, h_law_reduced2, h_law_more, h_near_parts, h_best_parts, h_mean, h_law_mean, p_law_chains, p_law_next, p_law_off, p_law_reduced2, p_law_more, p_near_parts, p_best_parts, p_mean, p_law_mean]
        refine forW_rule (fun i ρ => ∃ s0 s2 s4 s5 s6 s7 s8 s9 s10 s11 s12 s13 s14 s15 : Option Sl, ρ = [s0, some (.sh (.st)), s2, some (.sh (.py (pr e))), s4, s5, s6, s7, s8, s9, s10, s11, s12, s13, s14, s15]) ⟨_, _, _, _, _, _, _, _, _, _, _, _, _, _, rfl⟩ ?_ ?_
        · rintro i d ρ K2 hd ⟨s0, s2, s4, s5, s6, s7, s8, s9, s10, s11, s12, s13, s14, s15, rfl⟩ hK2
          obtain ⟨x, a, b, rfl, hb⟩ : ∃ (x : Int × Int) (a b : Int), d = .T [pr x, .int a, .int b] ∧ (¬ exC x ∨ (exC x ∧ ¬ ((1 ≤ a ∧ a ≤ 4) ∧ 1 ≤ b ∧ b ≤ 60))) := by
            have hd := List.mem_of_getElem? hd
            simp only [List.mem_cons, List.not_mem_nil, or_false] at hd
            rcases hd with rfl | rfl | rfl | rfl | rfl | rfl | rfl
            · exact ⟨(2, 4), 1, 9, rfl, .inl (by decide)⟩
            · exact ⟨(-1, 2), 1, 9, rfl, .inl (by decide)⟩
            · exact ⟨(3, 2), 1, 9, rfl, .inl (by decide)⟩
            · exact ⟨e, 0, 9, rfl, .inr ⟨he, by decide⟩⟩
            · exact ⟨e, 5, 9, rfl, .inr ⟨he, by decide⟩⟩
            · exact ⟨e, 1, 0, rfl, .inr ⟨he, by decide⟩⟩
            · exact ⟨e, 1, 61, rfl, .inr ⟨he, by decide⟩⟩
          simp only [w_nil, w_asg, w_asgL, w_unp, w_par, w_par3, w_aug, w_app, w_ext, w_seti, w_frz, w_expr, w_ret, w_raise, w_brk, w_cont, w_pass, wp, getV, getB, initE, endF, bindG, List.map_cons, List.map_nil, List.length_cons, List.length_nil, List.cons_append, List.nil_append, List.append_nil, List.getElem?_cons_zero, List.getElem?_cons_succ, List.set_cons_zero, List.set_cons_succ, partD, k_L, k_T, l_lenT, l_lenL, l_int, l_intB, l_abs, l_max2, l_max3, l_max4, l_min2, l_maxL, l_minL, l_sum, l_all, l_any, l_tupL, l_tupT, l_lisL, l_lisT, r_1, r_2, r_l, i_L, i_T, i_A, if_true, if_false, ite_true, ite_false, not_false_eq_true, not_true_eq_false, Bool.false_eq_true, ite_not, b_add, b_addT, b_addL, b_sub, b_subB, b_mul, b_mulT, b_mulL, b_fdiv, b_mod, b_pow, a_add, a_sub, a_mul, a_fdiv, c_lt, c_le, c_gt, c_ge, c_eqI, c_neI, c_eqB, c_neB, seqP, pysD, Option.map_some, List.replicate_zero, List.replicate_succ, Nat.zero_add, Nat.add_zero, Nat.reduceAdd, Nat.reduceSub, Nat.reduceLeDiff, decide_eq_true_eq, Bool.not_eq_true', decide_eq_false_iff_not, Nat.sub_self, Option.some.injEq, exists_eq_left', exists_eq_left, x_pick, f_pr, f_qd, f_prT, f_qdT, x_pr0, x_pr1, x_qd0, x_qd1, x_qd2, x_qd3, g_pr, g_qd, l_pr, l_qd, l_prs, l_ti, l_li, c_eq_pr, c_ne_pr, c_eq_qd, c_ne_qd, i_pr, i_qd, i_prs, i_ti, i_li, true_and, and_true, sl0, sl1, sl2, sl3, sl4, sl5, sl6, sl7, sl8, sl9, sl10, sl11, sl12, sl13, sl14, mketa, wipe1, shE_cons, shE_nil, shS_sh, shS_ow, shS_none, eq_self, and_self, decide_true, decide_false, reduceCtorEq, false_and, and_false, true_implies, false_implies, implies_true, not_true_eq_false, Bool.not_true, Bool.not_false, Bool.true_and, Bool.false_and, Bool.and_true, Bool.and_false, Bool.or_true, Bool.true_or, Bool.or_false, Bool.false_or, Int.reduceLT, Int.reduceLE, Nat.reduceLT, x_ru0, x_ru1, c_ev, c_pa, g_ti, k_ti1, wipe2, h_law_chains, h_law_next, h_law_off, h_law_reduced2, h_law_more, h_near_parts, h_best_parts, h_mean, h_law_mean, p_law_chains, p_law_next, p_law_off, p_law_reduced2, p_law_more, p_near_parts, p_best_parts, p_mean, p_law_mean]
          rw [w_ite]
          simp only [w_nil, w_asg, w_asgL, w_unp, w_par, w_par3, w_aug, w_app, w_ext, w_seti, w_frz, w_expr, w_ret, w_raise, w_brk, w_cont, w_pass, wp, getV, getB, initE, endF, bindG, List.map_cons, List.map_nil, List.length_cons, List.length_nil, List.cons_append, List.nil_append, List.append_nil, List.getElem?_cons_zero, List.getElem?_cons_succ, List.set_cons_zero, List.set_cons_succ, partD, k_L, k_T, l_lenT, l_lenL, l_int, l_intB, l_abs, l_max2, l_max3, l_max4, l_min2, l_maxL, l_minL, l_sum, l_all, l_any, l_tupL, l_tupT, l_lisL, l_lisT, r_1, r_2, r_l, i_L, i_T, i_A, if_true, if_false, ite_true, ite_false, not_false_eq_true, not_true_eq_false, Bool.false_eq_true, ite_not, b_add, b_addT, b_addL, b_sub, b_subB, b_mul, b_mulT, b_mulL, b_fdiv, b_mod, b_pow, a_add, a_sub, a_mul, a_fdiv, c_lt, c_le, c_gt, c_ge, c_eqI, c_neI, c_eqB, c_neB, seqP, pysD, Option.map_some, List.replicate_zero, List.replicate_succ, Nat.zero_add, Nat.add_zero, Nat.reduceAdd, Nat.reduceSub, Nat.reduceLeDiff, decide_eq_true_eq, Bool.not_eq_true', decide_eq_false_iff_not, Nat.sub_self, Option.some.injEq, exists_eq_left', exists_eq_left, x_pick, f_pr, f_qd, f_prT, f_qdT, x_pr0, x_pr1, x_qd0, x_qd1, x_qd2, x_qd3, g_pr, g_qd, l_pr, l_qd, l_prs, l_ti, l_li, c_eq_pr, c_ne_pr, c_eq_qd, c_ne_qd, i_pr, i_qd, i_prs, i_ti, i_li, true_and, and_true, sl0, sl1, sl2, sl3, sl4, sl5, sl6, sl7, sl8, sl9, sl10, sl11, sl12, sl13, sl14, mketa, wipe1, shE_cons, shE_nil, shS_sh, shS_ow, shS_none, eq_self, and_self, decide_true, decide_false, reduceCtorEq, false_and, and_false, true_implies, false_implies, implies_true, not_true_eq_false, Bool.not_true, Bool.not_false, Bool.true_and, Bool.false_and, Bool.and_true, Bool.and_false, Bool.or_true, Bool.true_or, Bool.or_false, Bool.false_or, Int.reduceLT, Int.reduceLE, Nat.reduceLT, x_ru0, x_ru1, c_ev, c_pa, g_ti, k_ti1, wipe2, h_law_chains, h_law_next, h_law_off, h_law_reduced2, h_law_more, h_near_parts, h_best_parts, h_mean, h_law_mean, p_law_chains, p_law_next, p_law_off, p_law_reduced2, p_law_more, p_near_parts, p_best_parts, p_mean, p_law_mean]
          have fin : cmpD .NotEq (.T [.str (exName 0)]) (.T [.str "refused"]) fun x_1 => match x_1 with
              | D.py (PyData.bool k) => if k = true then D.py (PyData.bool false) = D.B true else K2 [s0, some (Sl.sh D.st), s2, some (Sl.sh (D.py (pr e))), s4, s5, s6, s7, s8, s9, s10, s11, s12, some (Sl.sh (D.py (pr x))), some (Sl.sh (D.py (PyData.int a))), some (Sl.sh (D.py (PyData.int b)))]
              | x => False := c_refused (by
            simp only [w_nil, w_asg, w_asgL, w_unp, w_par, w_par3, w_aug, w_app, w_ext, w_seti, w_frz, w_expr, w_ret, w_raise, w_brk, w_cont, w_pass, wp, getV, getB, initE, endF, bindG, List.map_cons, List.map_nil, List.length_cons, List.length_nil, List.cons_append, List.nil_append, List.append_nil, List.getElem?_cons_zero, List.getElem?_cons_succ, List.set_cons_zero, List.set_cons_succ, partD, k_L, k_T, l_lenT, l_lenL, l_int, l_intB, l_abs, l_max2, l_max3, l_max4, l_min2, l_maxL, l_minL, l_sum, l_all, l_any, l_tupL, l_tupT, l_lisL, l_lisT, r_1, r_2, r_l, i_L, i_T, i_A, if_true, if_false, ite_true, ite_false, not_false_eq_true, not_true_eq_false, Bool.false_eq_true, ite_not, b_add, b_addT, b_addL, b_sub, b_subB, b_mul, b_mulT, b_mulL, b_fdiv, b_mod, b_pow, a_add, a_sub, a_mul, a_fdiv, c_lt, c_le, c_gt, c_ge, c_eqI, c_neI, c_eqB, c_neB, seqP, pysD, Option.map_some, List.replicate_zero, List.replicate_succ, Nat.zero_add, Nat.add_zero, Nat.reduceAdd, Nat.reduceSub, Nat.reduceLeDiff, decide_eq_true_eq, Bool.not_eq_true', decide_eq_false_iff_not, Nat.sub_self, Option.some.injEq, exists_eq_left', exists_eq_left, x_pick, f_pr, f_qd, f_prT, f_qdT, x_pr0, x_pr1, x_qd0, x_qd1, x_qd2, x_qd3, g_pr, g_qd, l_pr, l_qd, l_prs, l_ti, l_li, c_eq_pr, c_ne_pr, c_eq_qd, c_ne_qd, i_pr, i_qd, i_prs, i_ti, i_li, true_and, and_true, sl0, sl1, sl2, sl3, sl4, sl5, sl6, sl7, sl8, sl9, sl10, sl11, sl12, sl13, sl14, mketa, wipe1, shE_cons, shE_nil, shS_sh, shS_ow, shS_none, eq_self, and_self, decide_true, decide_false, reduceCtorEq, false_and, and_false, true_implies, false_implies, implies_true, not_true_eq_false, Bool.not_true, Bool.not_false, Bool.true_and, Bool.false_and, Bool.and_true, Bool.and_false, Bool.or_true, Bool.true_or, Bool.or_false, Bool.false_or, Int.reduceLT, Int.reduceLE, Nat.reduceLT, x_ru0, x_ru1, c_ev, c_pa, g_ti, k_ti1, wipe2, h_law_chains, h_law_next, h_law_off, h_law_reduced2, h_law_more, h_near_parts, h_best_parts, h_mean, h_law_mean, p_law_chains, p_law_next, p_law_off, p_law_reduced2, p_law_more, p_near_parts, p_best_parts, p_mean, p_law_mean]
            exact hK2 _ ⟨_, _, _, _, _, _, _, _, _, _, _, _, _, _, rfl⟩)
          exact ⟨fun _ => fin, fun h => hb.elim (fun z => absurd h z) fun z => ⟨fun _ => fin, fun w => absurd w z.2⟩⟩
        · rintro ρ ⟨s0, s2, s4, s5, s6, s7, s8, s9, s10, s11, s12, s13, s14, s15, rfl⟩
          rw [w_forq, w_for]
          simp only [w_nil, w_asg, w_asgL, w_unp, w_par, w_par3, w_aug, w_app, w_ext, w_seti, w_frz, w_expr, w_ret, w_raise, w_brk, w_cont, w_pass, wp, getV, getB, initE, endF, bindG, List.map_cons, List.map_nil, List.length_cons, List.length_nil, List.cons_append, List.nil_append, List.append_nil, List.getElem?_cons_zero, List.getElem?_cons_succ, List.set_cons_zero, List.set_cons_succ, partD, k_L, k_T, l_lenT, l_lenL, l_int, l_intB, l_abs, l_max2, l_max3, l_max4, l_min2, l_maxL, l_minL, l_sum, l_all, l_any, l_tupL, l_tupT, l_lisL, l_lisT, r_1, r_2, r_l, i_L, i_T, i_A, if_true, if_false, ite_true, ite_false, not_false_eq_true, not_true_eq_false, Bool.false_eq_true, ite_not, b_add, b_addT, b_addL, b_sub, b_subB, b_mul, b_mulT, b_mulL, b_fdiv, b_mod, b_pow, a_add, a_sub, a_mul, a_fdiv, c_lt, c_le, c_gt, c_ge, c_eqI, c_neI, c_eqB, c_neB, seqP, pysD, Option.map_some, List.replicate_zero, List.replicate_succ, Nat.zero_add, Nat.add_zero, Nat.reduceAdd, Nat.reduceSub, Nat.reduceLeDiff, decide_eq_true_eq, Bool.not_eq_true', decide_eq_false_iff_not, Nat.sub_self, Option.some.injEq, exists_eq_left', exists_eq_left, x_pick, f_pr, f_qd, f_prT, f_qdT, x_pr0, x_pr1, x_qd0, x_qd1, x_qd2, x_qd3, g_pr, g_qd, l_pr, l_qd, l_prs, l_ti, l_li, c_eq_pr, c_ne_pr, c_eq_qd, c_ne_qd, i_pr, i_qd, i_prs, i_ti, i_li, true_and, and_true, sl0, sl1, sl2, sl3, sl4, sl5, sl6, sl7, sl8, sl9, sl10, sl11, sl12, sl13, sl14, mketa, wipe1, shE_cons, shE_nil, shS_sh, shS_ow, shS_none, eq_self, and_self, decide_true, decide_false, reduceCtorEq, false_and, and_false, true_implies, false_implies, implies_true, not_true_eq_false, Bool.not_true, Bool.not_false, Bool.true_and, Bool.false_and, Bool.and_true, Bool.and_false, Bool.or_true, Bool.true_or, Bool.or_false, Bool.false_or, Int.reduceLT, Int.reduceLE, Nat.reduceLT, x_ru0, x_ru1, c_ev, c_pa, g_ti, k_ti1, wipe2, h_law_chains, h_law_next, h_law_off, h_law_reduced2, h_law_more, h_near_parts, h_best_parts, h_mean, h_law_mean, p_law_chains, p_law_next, p_law_off, p_law_reduced2, p_law_more, p_near_parts, p_best_parts, p_mean, p_law_mean]
          refine forW_rule (fun i ρ => ∃ s0 s2 s4 s5 s6 s7 s8 s9 s10 s11 s12 s13 s14 s15 : Option Sl, ρ = [s0, some (.sh (.st)), s2, some (.sh (.py (pr e))), s4, s5, s6, s7, s8, s9, s10, s11, s12, s13, s14, s15]) ⟨_, _, _, _, _, _, _, _, _, _, _, _, _, _, rfl⟩ ?_ ?_
          · rintro i d ρ K2 hd ⟨s0, s2, s4, s5, s6, s7, s8, s9, s10, s11, s12, s13, s14, s15, rfl⟩ hK2
            obtain ⟨x, a, b, rfl, hb⟩ : ∃ (x a : Int × Int) (b : Int), d = .T [pr x, pr a, .int b] ∧ (¬ exC x ∨ (exC x ∧ ¬ (okF a = true ∧ 0 ≤ a.1 ∧ 1 ≤ b ∧ b ≤ 60))) := by
              have hd := List.mem_of_getElem? hd
              simp only [List.mem_cons, List.not_mem_nil, or_false] at hd
              rcases hd with rfl | rfl | rfl | rfl | rfl
              · exact ⟨(2, 4), (1, 1), 9, rfl, .inl (by decide)⟩
              · exact ⟨e, (2, 4), 9, rfl, .inr ⟨he, by decide⟩⟩
              · exact ⟨e, (-1, 1), 9, rfl, .inr ⟨he, by decide⟩⟩
              · exact ⟨e, (1, 1), 0, rfl, .inr ⟨he, by decide⟩⟩
              · exact ⟨e, (1, 1), 61, rfl, .inr ⟨he, by decide⟩⟩
            simp only [w_nil, w_asg, w_asgL, w_unp, w_par, w_par3, w_aug, w_app, w_ext, w_seti, w_frz, w_expr, w_ret, w_raise, w_brk, w_cont, w_pass, wp, getV, getB, initE, endF, bindG, List.map_cons, List.map_nil, List.length_cons, List.length_nil, List.cons_append, List.nil_append, List.append_nil, List.getElem?_cons_zero, List.getElem?_cons_succ, List.set_cons_zero, List.set_cons_succ, partD, k_L, k_T, l_lenT, l_lenL, l_int, l_intB, l_abs, l_max2, l_max3, l_max4, l_min2, l_maxL, l_minL, l_sum, l_all, l_any, l_tupL, l_tupT, l_lisL, l_lisT, r_1, r_2, r_l, i_L, i_T, i_A, if_true, if_false, ite_true, ite_false, not_false_eq_true, not_true_eq_false, Bool.false_eq_true, ite_not, b_add, b_addT, b_addL, b_sub, b_subB, b_mul, b_mulT, b_mulL, b_fdiv, b_mod, b_pow, a_add, a_sub, a_mul, a_fdiv, c_lt, c_le, c_gt, c_ge, c_eqI, c_neI, c_eqB, c_neB, seqP, pysD, Option.map_some, List.replicate_zero, List.replicate_succ, Nat.zero_add, Nat.add_zero, Nat.reduceAdd, Nat.reduceSub, Nat.reduceLeDiff, decide_eq_true_eq, Bool.not_eq_true', decide_eq_false_iff_not, Nat.sub_self, Option.some.injEq, exists_eq_left', exists_eq_left, x_pick, f_pr, f_qd, f_prT, f_qdT, x_pr0, x_pr1, x_qd0, x_qd1, x_qd2, x_qd3, g_pr, g_qd, l_pr, l_qd, l_prs, l_ti, l_li, c_eq_pr, c_ne_pr, c_eq_qd, c_ne_qd, i_pr, i_qd, i_prs, i_ti, i_li, true_and, and_true, sl0, sl1, sl2, sl3, sl4, sl5, sl6, sl7, sl8, sl9, sl10, sl11, sl12, sl13, sl14, mketa, wipe1, shE_cons, shE_nil, shS_sh, shS_ow, shS_none, eq_self, and_self, decide_true, decide_false, reduceCtorEq, false_and, and_false, true_implies, false_implies, implies_true, not_true_eq_false, Bool.not_true, Bool.not_false, Bool.true_and, Bool.false_and, Bool.and_true, Bool.and_false, Bool.or_true, Bool.true_or, Bool.or_false, Bool.false_or, Int.reduceLT, Int.reduceLE, Nat.reduceLT, x_ru0, x_ru1, c_ev, c_pa, g_ti, k_ti1, wipe2, h_law_chains, h_law_next, h_law_off, h_law_reduced2, h_law_more, h_near_parts, h_best_parts, h_mean, h_law_mean, p_law_chains, p_law_next, p_law_off, p_law_reduced2, p_law_more, p_near_parts, p_best_parts, p_mean, p_law_mean]
            rw [w_ite]
            simp only [w_nil, w_asg, w_asgL, w_unp, w_par, w_par3, w_aug, w_app, w_ext, w_seti, w_frz, w_expr, w_ret, w_raise, w_brk, w_cont, w_pass, wp, getV, getB, initE, endF, bindG, List.map_cons, List.map_nil, List.length_cons, List.length_nil, List.cons_append, List.nil_append, List.append_nil, List.getElem?_cons_zero, List.getElem?_cons_succ, List.set_cons_zero, List.set_cons_succ, partD, k_L, k_T, l_lenT, l_lenL, l_int, l_intB, l_abs, l_max2, l_max3, l_max4, l_min2, l_maxL, l_minL, l_sum, l_all, l_any, l_tupL, l_tupT, l_lisL, l_lisT, r_1, r_2, r_l, i_L, i_T, i_A, if_true, if_false, ite_true, ite_false, not_false_eq_true, not_true_eq_false, Bool.false_eq_true, ite_not, b_add, b_addT, b_addL, b_sub, b_subB, b_mul, b_mulT, b_mulL, b_fdiv, b_mod, b_pow, a_add, a_sub, a_mul, a_fdiv, c_lt, c_le, c_gt, c_ge, c_eqI, c_neI, c_eqB, c_neB, seqP, pysD, Option.map_some, List.replicate_zero, List.replicate_succ, Nat.zero_add, Nat.add_zero, Nat.reduceAdd, Nat.reduceSub, Nat.reduceLeDiff, decide_eq_true_eq, Bool.not_eq_true', decide_eq_false_iff_not, Nat.sub_self, Option.some.injEq, exists_eq_left', exists_eq_left, x_pick, f_pr, f_qd, f_prT, f_qdT, x_pr0, x_pr1, x_qd0, x_qd1, x_qd2, x_qd3, g_pr, g_qd, l_pr, l_qd, l_prs, l_ti, l_li, c_eq_pr, c_ne_pr, c_eq_qd, c_ne_qd, i_pr, i_qd, i_prs, i_ti, i_li, true_and, and_true, sl0, sl1, sl2, sl3, sl4, sl5, sl6, sl7, sl8, sl9, sl10, sl11, sl12, sl13, sl14, mketa, wipe1, shE_cons, shE_nil, shS_sh, shS_ow, shS_none, eq_self, and_self, decide_true, decide_false, reduceCtorEq, false_and, and_false, true_implies, false_implies, implies_true, not_true_eq_false, Bool.not_true, Bool.not_false, Bool.true_and, Bool.false_and, Bool.and_true, Bool.and_false, Bool.or_true, Bool.true_or, Bool.or_false, Bool.false_or, Int.reduceLT, Int.reduceLE, Nat.reduceLT, x_ru0, x_ru1, c_ev, c_pa, g_ti, k_ti1, wipe2, h_law_chains, h_law_next, h_law_off, h_law_reduced2, h_law_more, h_near_parts, h_best_parts, h_mean, h_law_mean, p_law_chains, p_law_next, p_law_off, p_law_reduced2, p_law_more, p_near_parts, p_best_parts, p_mean, p_law_mean]
            have fin : cmpD .NotEq (.T [.str (exName 0)]) (.T [.str "refused"]) fun x_1 => match x_1 with
                | D.py (PyData.bool k) => if k = true then D.py (PyData.bool false) = D.B true else K2 [s0, some (Sl.sh D.st), s2, some (Sl.sh (D.py (pr e))), s4, s5, s6, s7, s8, s9, s10, s11, s12, some (Sl.sh (D.py (pr x))), some (Sl.sh (D.py (pr a))), some (Sl.sh (D.py (PyData.int b)))]
                | x => False := c_refused (by
              simp only [w_nil, w_asg, w_asgL, w_unp, w_par, w_par3, w_aug, w_app, w_ext, w_seti, w_frz, w_expr, w_ret, w_raise, w_brk, w_cont, w_pass, wp, getV, getB, initE, endF, bindG, List.map_cons, List.map_nil, List.length_cons, List.length_nil, List.cons_append, List.nil_append, List.append_nil, List.getElem?_cons_zero, List.getElem?_cons_succ, List.set_cons_zero, List.set_cons_succ, partD, k_L, k_T, l_lenT, l_lenL, l_int, l_intB, l_abs, l_max2, l_max3, l_max4, l_min2, l_maxL, l_minL, l_sum, l_all, l_any, l_tupL, l_tupT, l_lisL, l_lisT, r_1, r_2, r_l, i_L, i_T, i_A, if_true, if_false, ite_true, ite_false, not_false_eq_true, not_true_eq_false, Bool.false_eq_true, ite_not, b_add, b_addT, b_addL, b_sub, b_subB, b_mul, b_mulT, b_mulL, b_fdiv, b_mod, b_pow, a_add, a_sub, a_mul, a_fdiv, c_lt, c_le, c_gt, c_ge, c_eqI, c_neI, c_eqB, c_neB, seqP, pysD, Option.map_some, List.replicate_zero, List.replicate_succ, Nat.zero_add, Nat.add_zero, Nat.reduceAdd, Nat.reduceSub, Nat.reduceLeDiff, decide_eq_true_eq, Bool.not_eq_true', decide_eq_false_iff_not, Nat.sub_self, Option.some.injEq, exists_eq_left', exists_eq_left, x_pick, f_pr, f_qd, f_prT, f_qdT, x_pr0, x_pr1, x_qd0, x_qd1, x_qd2, x_qd3, g_pr, g_qd, l_pr, l_qd, l_prs, l_ti, l_li, c_eq_pr, c_ne_pr, c_eq_qd, c_ne_qd, i_pr, i_qd, i_prs, i_ti, i_li, true_and, and_true, sl0, sl1, sl2, sl3, sl4, sl5, sl6, sl7, sl8, sl9, sl10, sl11, sl12, sl13, sl14, mketa, wipe1, shE_cons, shE_nil, shS_sh, shS_ow, shS_none, eq_self, and_self, decide_true, decide_false, reduceCtorEq, false_and, and_false, true_implies, false_implies, implies_true, not_true_eq_false, Bool.not_true, Bool.not_false, Bool.true_and, Bool.false_and, Bool.and_true, Bool.and_false, Bool.or_true, Bool.true_or, Bool.or_false, Bool.false_or, Int.reduceLT, Int.reduceLE, Nat.reduceLT, x_ru0, x_ru1, c_ev, c_pa, g_ti, k_ti1, wipe2, h_law_chains, h_law_next, h_law_off, h_law_reduced2, h_law_more, h_near_parts, h_best_parts, h_mean, h_law_mean, p_law_chains, p_law_next, p_law_off, p_law_reduced2, p_law_more, p_near_parts, p_best_parts, p_mean, p_law_mean]
              exact hK2 _ ⟨_, _, _, _, _, _, _, _, _, _, _, _, _, _, rfl⟩)
            exact ⟨fun _ => fin, fun h => hb.elim (fun z => absurd h z) fun z => ⟨fun _ => fin, fun w => absurd w z.2⟩⟩
          · rintro ρ ⟨s0, s2, s4, s5, s6, s7, s8, s9, s10, s11, s12, s13, s14, s15, rfl⟩
            exact hK _ ⟨_, _, _, _, _, _, _, _, _, _, _, _, _, _, _, rfl⟩
  · rintro ρ ⟨s0, s2, s3, s4, s5, s6, s7, s8, s9, s10, s11, s12, s13, s14, s15, rfl⟩
    simp only [w_nil, w_asg, w_asgL, w_unp, w_par, w_par3, w_aug, w_app, w_ext, w_seti, w_frz, w_expr, w_ret, w_raise, w_brk, w_cont, w_pass, wp, getV, getB, initE, endF, bindG, List.map_cons, List.map_nil, List.length_cons, List.length_nil, List.cons_append, List.nil_append, List.append_nil, List.getElem?_cons_zero, List.getElem?_cons_succ, List.set_cons_zero, List.set_cons_succ, partD, k_L, k_T, l_lenT, l_lenL, l_int, l_intB, l_abs, l_max2, l_max3, l_max4, l_min2, l_maxL, l_minL, l_sum, l_all, l_any, l_tupL, l_tupT, l_lisL, l_lisT, r_1, r_2, r_l, i_L, i_T, i_A, if_true, if_false, ite_true, ite_false, not_false_eq_true, not_true_eq_false, Bool.false_eq_true, ite_not, b_add, b_addT, b_addL, b_sub, b_subB, b_mul, b_mulT, b_mulL, b_fdiv, b_mod, b_pow, a_add, a_sub, a_mul, a_fdiv, c_lt, c_le, c_gt, c_ge, c_eqI, c_neI, c_eqB, c_neB, seqP, pysD, Option.map_some, List.replicate_zero, List.replicate_succ, Nat.zero_add, Nat.add_zero, Nat.reduceAdd, Nat.reduceSub, Nat.reduceLeDiff, decide_eq_true_eq, Bool.not_eq_true', decide_eq_false_iff_not, Nat.sub_self, Option.some.injEq, exists_eq_left', exists_eq_left, x_pick, f_pr, f_qd, f_prT, f_qdT, x_pr0, x_pr1, x_qd0, x_qd1, x_qd2, x_qd3, g_pr, g_qd, l_pr, l_qd, l_prs, l_ti, l_li, c_eq_pr, c_ne_pr, c_eq_qd, c_ne_qd, i_pr, i_qd, i_prs, i_ti, i_li, true_and, and_true, sl0, sl1, sl2, sl3, sl4, sl5, sl6, sl7, sl8, sl9, sl10, sl11, sl12, sl13, sl14, mketa, wipe1, shE_cons, shE_nil, shS_sh, shS_ow, shS_none, eq_self, and_self, decide_true, decide_false, reduceCtorEq, false_and, and_false, true_implies, false_implies, implies_true, not_true_eq_false, Bool.not_true, Bool.not_false, Bool.true_and, Bool.false_and, Bool.and_true, Bool.and_false, Bool.or_true, Bool.true_or, Bool.or_false, Bool.false_or, Int.reduceLT, Int.reduceLE, Nat.reduceLT, x_ru0, x_ru1, c_ev, c_pa, g_ti, k_ti1, wipe2, h_law_chains, h_law_next, h_law_off, h_law_reduced2, h_law_more, h_near_parts, h_best_parts, h_mean, h_law_mean, p_law_chains, p_law_next, p_law_off, p_law_reduced2, p_law_more, p_near_parts, p_best_parts, p_mean, p_law_mean]
end Y

/-! part A49 -/
set_option Elab.async false
set_option linter.all false
set_option maxRecDepth 100000
set_option maxHeartbeats 0
set_option exponentiation.threshold 5000
namespace K49
open Y PySem PySem.Spec PyProof.Rows
def top (i : Nat) : Stmt := PySem.Challenge.pw_evenspread_k49_whole_limited_parts.main.body.getD i (.Pass ⟨0, 0, 0, 0⟩)
def drs : List Nat := [0, 1, 0, 0, 0, 0, 0, 0, 0, 0, 0, 0, 0, 0, 0, 0, 0, 0, 0, 0, 0, 0, 0, 0, 0, 0, 0, 0, 0, 0, 0, 0, 0, 0, 0, 0, 0, 0, 0, 0, 0, 0, 0, 0, 0, 0, 0, 0, 0, 0, 0, 0, 0, 0, 0, 0, 0, 0, 0, 0, 0, 0, 0, 0, 0, 0, 0, 0, 0, 0, 0, 0, 0, 0, 0, 0, 0, 0, 0, 0, 0, 0, 0, 0, 0, 0, 0, 0, 0, 0, 0, 0, 0, 0, 0, 0, 0, 0, 0, 0, 0, 0, 0, 0, 0, 0, 0, 0, 0, 0, 0, 0, 0, 0, 0, 0, 0, 0, 0, 0, 0, 0, 0, 0, 0, 0, 0, 0, 0, 0, 0, 0, 0, 0, 0, 0, 0, 0, 0, 0, 0, 0, 0, 0, 0, 0, 0, 0, 0, 0, 0, 0, 0, 0, 0, 0, 0, 0, 0, 0, 0, 0, 0]
def lvs : List Nat := [1, 1, 1000, 1000, 1000, 1000, 1000, 1000, 1000, 1, 1000, 1, 2, 3, 1000, 2, 1000, 1000, 1000, 1000, 1000, 1000, 1, 1000, 1000, 1, 1000, 1, 1000, 1000, 1000, 1000, 1000, 1000, 1000, 1000, 1000, 1000, 1000, 1000, 1000, 1000, 1000, 1000, 1000, 1000, 1000, 1000, 1000, 1000, 1000, 1000, 1000, 1000, 1000, 1000, 1000, 1000, 1000, 1000, 1000, 1000, 1000, 1000, 1000, 1000, 1000, 1000, 1000, 1000, 1000, 1000, 1000, 1000, 1000, 1000, 1000, 1000, 1000, 1000, 1000, 1000, 1000, 1000, 1000, 1000, 1000, 1000, 1000, 1000, 1000, 1000, 1000, 1000, 1000, 1000, 1000, 1000, 1000, 1000, 1000, 1000, 1000, 1000, 1000, 1000, 1000, 1000, 1000, 1000, 1000, 1000, 1000, 1000, 1000, 1000, 1000, 1000, 1000, 1000, 1000, 1000, 1000, 1000, 1000, 1000, 1000, 1000, 1000, 1000, 1000, 1000, 1000, 1000, 1000, 1000, 1, 1000, 1, 1000, 1000, 1, 3, 1000, 1000, 1, 2, 1000, 1000, 1000, 1000, 1000, 1000, 1000, 1, 1, 2, 3, 1, 3, 4, 5, 5]
def gts : List (Str × Gk) := ([(("_law_stream" : Str), Gk.fn 0), (("_law_chains" : Str), Gk.fn 154), (("_law_next" : Str), Gk.fn 1), (("_law_mean" : Str), Gk.fn 155), (("_law_size" : Str), Gk.fn 22), (("_law_off" : Str), Gk.fn 156), (("_law_divisor" : Str), Gk.fn 145), (("_law_reduced" : Str), Gk.fn 146), (("_law_more" : Str), Gk.fn 9), (("divisor" : Str), Gk.fn 11), (("is_fraction" : Str), Gk.fn 15), (("check_excess" : Str), Gk.fn 157), (("chains" : Str), Gk.fn 158), (("less" : Str), Gk.fn 27), (("size" : Str), Gk.fn 25), (("fraction" : Str), Gk.fn 12), (("added" : Str), Gk.fn 13), (("times" : Str), Gk.fn 159), (("chain_mean" : Str), Gk.fn 160), (("near_parts" : Str), Gk.fn 161), (("best_parts" : Str), Gk.fn 162), (("check_rule" : Str), Gk.fn 136), (("period" : Str), Gk.fn 141), (("counted" : Str), Gk.fn 138), (("mean" : Str), Gk.fn 142), (("MAX_PARTS" : Str), Gk.int 4), (("MAX_PERIOD" : Str), Gk.int 4000), (("MAX_LIMIT" : Str), Gk.int 60), (("len" : Str), Gk.abs), (("int" : Str), Gk.abs)] : List (Str × Gk)) ++ ([(("abs" : Str), Gk.abs), (("max" : Str), Gk.abs), (("all" : Str), Gk.abs), (("list" : Str), Gk.abs), (("range" : Str), Gk.abs), (("zip" : Str), Gk.abs), (("reversed" : Str), Gk.abs), (("repr" : Str), Gk.abs), (("isinstance" : Str), Gk.abs), (("NotAllowed" : Str), Gk.ex 0), (("TooLarge" : Str), Gk.ex 1), (("Missing" : Str), Gk.ex 2)] : List (Str × Gk))
def T : Tb := ⟨gts, fun k => lvs.getD k 1000⟩
def dr (k : Nat) : Nat := drs.getD k 0
def fnScope (i : Nat) : Scope := L2.defScope (top i)
def fnBody (i : Nat) : List Stmt := L2.defBody (top i)
theorem c_law_stream : fnCk T dr 0 n_law_stream ["script"] (fnScope 31) (fnBody 31) b_law_stream 0 = true := by decide +kernel
theorem c_law_chains : fnCk T dr 154 n_law_chains ["most", "limit"] (fnScope 46) (fnBody 46) b_law_chains 0 = true := by decide +kernel
theorem c_law_mean : fnCk T dr 155 n_law_mean ["parts"] (fnScope 47) (fnBody 47) b_law_mean 0 = true := by decide +kernel
theorem c_law_size : fnCk T dr 22 n_law_size ["value"] (fnScope 45) (fnBody 45) b_law_size 0 = true := by decide +kernel
theorem c_law_off : fnCk T dr 156 n_law_off ["parts", "excess"] (fnScope 48) (fnBody 48) b_law_off 1 = true := by decide +kernel
theorem c_law_divisor2 : fnCk T dr 145 n_law_divisor2 ["first", "second"] (fnScope 35) (fnBody 35) b_law_divisor2 0 = true := by decide +kernel
theorem c_law_reduced2 : fnCk T dr 146 n_law_reduced2 ["top", "below"] (fnScope 36) (fnBody 36) b_law_reduced2 1 = true := by decide +kernel
theorem c_law_more : fnCk T dr 9 n_law_more ["one", "other"] (fnScope 44) (fnBody 44) b_law_more 0 = true := by decide +kernel
theorem c_divisor : fnCk T dr 11 n_divisor ["first", "second"] (fnScope 9) (fnBody 9) b_divisor 0 = true := by decide +kernel
theorem c_is_fraction : fnCk T dr 15 n_is_fraction ["value"] (fnScope 11) (fnBody 11) b_is_fraction 1 = true := by decide +kernel
theorem c_check_excess : fnCk T dr 157 n_check_excess ["excess"] (fnScope 20) (fnBody 20) b_check_excess 2 = true := by decide +kernel
theorem c_chains : fnCk T dr 158 n_chains ["most", "limit"] (fnScope 25) (fnBody 25) b_chains 0 = true := by decide +kernel
theorem c_less : fnCk T dr 27 n_less ["first", "second"] (fnScope 14) (fnBody 14) b_less 0 = true := by decide +kernel
theorem c_size : fnCk T dr 25 n_size ["value"] (fnScope 24) (fnBody 24) b_size 0 = true := by decide +kernel
theorem c_fraction : fnCk T dr 12 n_fraction ["top", "below"] (fnScope 10) (fnBody 10) b_fraction 1 = true := by decide +kernel
theorem c_added : fnCk T dr 13 n_added ["first", "second"] (fnScope 12) (fnBody 12) b_added 2 = true := by decide +kernel
theorem c_times2 : fnCk T dr 159 n_times2 ["first", "second"] (fnScope 13) (fnBody 13) b_times2 2 = true := by decide +kernel
theorem c_chain_mean : fnCk T dr 160 n_chain_mean ["parts"] (fnScope 26) (fnBody 26) b_chain_mean 3 = true := by decide +kernel
theorem c_near_parts : fnCk T dr 161 n_near_parts ["excess", "bound", "limit"] (fnScope 28) (fnBody 28) b_near_parts 4 = true := by decide +kernel
theorem c_best_parts : fnCk T dr 162 n_best_parts ["excess", "most", "limit"] (fnScope 27) (fnBody 27) b_best_parts 4 = true := by decide +kernel
theorem c_check_rule : fnCk T dr 136 n_check_rule ["rule"] (fnScope 19) (fnBody 19) b_check_rule 0 = true := by decide +kernel
theorem c_period : fnCk T dr 141 n_period ["rule"] (fnScope 21) (fnBody 21) b_period 0 = true := by decide +kernel
theorem c_counted : fnCk T dr 138 n_counted ["rule", "year"] (fnScope 22) (fnBody 22) b_counted 0 = true := by decide +kernel
theorem c_mean : fnCk T dr 142 n_mean ["rule"] (fnScope 23) (fnBody 23) b_mean 2 = true := by decide +kernel
theorem c_next : (nextSc (fnScope 32) && isNx (fnBody 32)) = true := by decide +kernel
theorem c_told : toldB (fnScope 34) (fnBody 34) = true := by decide +kernel
theorem c_same : sameB (fnScope 30) (fnBody 30) = true := by decide +kernel
theorem c_sc : C8.scC n_k49 ["script"] (fnScope 49) = true := by decide +kernel
theorem c_l0 : law0B T dr 0 1 n_k49 (fnScope 49) 7 b_k49 (fnBody 49) = true := by decide +kernel
theorem c_dw : decide (drwS dr b_k49 ≤ BIG) = true := by decide +kernel
def Φ : PhiT := fun k => match k with
  | 0 => C_law_stream
  | 154 => C_law_chains
  | 1 => C_law_next
  | 155 => C_law_mean
  | 22 => C_law_size
  | 156 => C_law_off
  | 145 => C_law_divisor2
  | 146 => C_law_reduced2
  | 9 => C_law_more
  | 11 => C_divisor
  | 15 => C_is_fraction
  | 157 => C_check_excess
  | 158 => C_chains
  | 27 => C_less
  | 25 => C_size
  | 12 => C_fraction
  | 13 => C_added
  | 159 => C_times2
  | 160 => C_chain_mean
  | 161 => C_near_parts
  | 162 => C_best_parts
  | 136 => C_check_rule
  | 141 => C_period
  | 138 => C_counted
  | 142 => C_mean
  | _ => fun _ _ _ => False
def nums : List Nat := [0, 154, 1, 155, 22, 156, 145, 146, 9, 11, 15, 157, 158, 27, 25, 12, 13, 159, 160, 161, 162, 136, 141, 138, 142]
theorem lv_big : ∀ j, lvs.length ≤ j → lvs.getD j 1000 = 1000 := fun j h => by rw [List.getD_eq_getElem?_getD, List.getElem?_eq_none h] <;> rfl
theorem inv0 : ∀ j < lvs.length, lvs.getD j 1000 ≤ 900 → j ∈ nums := by decide +kernel
theorem inv (j : Nat) (h : lvs.getD j 1000 ≤ 900) : j ∈ nums := by
  rcases Nat.lt_or_ge j lvs.length with z | z
  · exact inv0 j z h
  · rw [lv_big j z] at h
    exact absurd h (by decide)
theorem low : ∀ j ∈ nums, ¬ lvs.getD j 1000 ≤ 0 := by decide +kernel
def dd (x : Str) (i : Nat) : He.DefD := dDef x (top i)
def fn : List He.DefD := ([dd "_law_stream" 31, dd "_law_chains" 46, dd "_law_next" 32, dd "_law_mean" 47, dd "_law_size" 45, dd "_law_off" 48, dd "_law_divisor" 35, dd "_law_reduced" 36, dd "_law_more" 44, dd "divisor" 9, dd "is_fraction" 11, dd "check_excess" 20, dd "chains" 25, dd "less" 14, dd "size" 24, dd "fraction" 10, dd "added" 12, dd "times" 13, dd "chain_mean" 26, dd "near_parts" 28, dd "best_parts" 27, dd "check_rule" 19, dd "period" 21, dd "counted" 22, dd "mean" 23, dd "_law_told" 34, dd "_law_same" 30, dd "law" 49] : List He.DefD)
section
variable {P : Program} {w : World} {K : PySem.W.Frag} {mg : Str → Option Value} {base h : Heap}
theorem lvT (j : Nat) : T.lv j = lvs.getD j 1000 := rfl
theorem k_law_stream (c : He.SaysD (faOf gts) fn K) (bs : Bas (SOf gts P w K mg base) T) (fh : ∀ j, T.lv j ≤ 0 → FHeld (SOf gts P w K mg base) Φ dr T.lv j) : FHeld (SOf gts P w K mg base) Φ dr T.lv 0 := by
  obtain ⟨fd, F⟩ := def_of (x := "_law_stream") (st := top 31) c (by unfold fn dd; simp only [List.mem_append, List.mem_cons, true_or, or_true])
  have e : He.ga K "_law_stream" = (SOf gts P w K mg base).fa 0 := by
    show _ = He.ga K (nmOf gts 0)
    rw [show nmOf gts 0 = ("_law_stream" : Str) by decide +kernel]
  rw [e] at F
  refine fheld (L := 0) (ps := ["script"]) bs (fnCk_ok c_law_stream) F (L2.FunD.bindsN F fun _ _ _ _ _ _ us hl => match us, hl with | [_], _ => rfl) fh fun ds Q E h => ?_
  exact s_law_stream (Φ := Φ)  ds Q E h
theorem k_law_chains (c : He.SaysD (faOf gts) fn K) (bs : Bas (SOf gts P w K mg base) T) (fh : ∀ j, T.lv j ≤ 0 → FHeld (SOf gts P w K mg base) Φ dr T.lv j) : FHeld (SOf gts P w K mg base) Φ dr T.lv 154 := by
  obtain ⟨fd, F⟩ := def_of (x := "_law_chains") (st := top 46) c (by unfold fn dd; simp only [List.mem_append, List.mem_cons, true_or, or_true])
  have e : He.ga K "_law_chains" = (SOf gts P w K mg base).fa 154 := by
    show _ = He.ga K (nmOf gts 154)
    rw [show nmOf gts 154 = ("_law_chains" : Str) by decide +kernel]
  rw [e] at F
  refine fheld (L := 0) (ps := ["most", "limit"]) bs (fnCk_ok c_law_chains) F (L2.FunD.bindsN F fun _ _ _ _ _ _ us hl => match us, hl with | [_, _], _ => rfl) fh fun ds Q E h => ?_
  exact s_law_chains (Φ := Φ)  ds Q E h
theorem k_law_next (c : He.SaysD (faOf gts) fn K) (bs : Bas (SOf gts P w K mg base) T) (fh : ∀ j, T.lv j ≤ 0 → FHeld (SOf gts P w K mg base) Φ dr T.lv j) (mL : mg "len" = none) (mI : mg "int" = none) : FHeld (SOf gts P w K mg base) Φ dr T.lv 1 := by
  obtain ⟨fd, F⟩ := def_of (x := "_law_next") (st := top 32) c (by unfold fn dd; simp only [List.mem_append, List.mem_cons, true_or, or_true])
  have e : He.ga K "_law_next" = (SOf gts P w K mg base).fa 1 := by
    show _ = He.ga K (nmOf gts 1)
    rw [show nmOf gts 1 = ("_law_next" : Str) by decide +kernel]
  rw [e] at F
  have cc := c_next
  rw [Bool.and_eq_true] at cc
  refine next_held F (L2.FunD.bindsN F fun _ _ _ _ _ _ us hl => match us, hl with | [_, _], _ => rfl) cc.1 cc.2 mL mI (by decide +kernel) (by decide +kernel) fun ds Q E h => h
theorem k_law_mean (c : He.SaysD (faOf gts) fn K) (bs : Bas (SOf gts P w K mg base) T) (fh : ∀ j, T.lv j ≤ 0 → FHeld (SOf gts P w K mg base) Φ dr T.lv j) : FHeld (SOf gts P w K mg base) Φ dr T.lv 155 := by
  obtain ⟨fd, F⟩ := def_of (x := "_law_mean") (st := top 47) c (by unfold fn dd; simp only [List.mem_append, List.mem_cons, true_or, or_true])
  have e : He.ga K "_law_mean" = (SOf gts P w K mg base).fa 155 := by
    show _ = He.ga K (nmOf gts 155)
    rw [show nmOf gts 155 = ("_law_mean" : Str) by decide +kernel]
  rw [e] at F
  refine fheld (L := 0) (ps := ["parts"]) bs (fnCk_ok c_law_mean) F (L2.FunD.bindsN F fun _ _ _ _ _ _ us hl => match us, hl with | [_], _ => rfl) fh fun ds Q E h => ?_
  exact s_law_mean (Φ := Φ)  ds Q E h
theorem k_law_size (c : He.SaysD (faOf gts) fn K) (bs : Bas (SOf gts P w K mg base) T) (fh : ∀ j, T.lv j ≤ 0 → FHeld (SOf gts P w K mg base) Φ dr T.lv j) : FHeld (SOf gts P w K mg base) Φ dr T.lv 22 := by
  obtain ⟨fd, F⟩ := def_of (x := "_law_size") (st := top 45) c (by unfold fn dd; simp only [List.mem_append, List.mem_cons, true_or, or_true])
  have e : He.ga K "_law_size" = (SOf gts P w K mg base).fa 22 := by
    show _ = He.ga K (nmOf gts 22)
    rw [show nmOf gts 22 = ("_law_size" : Str) by decide +kernel]
  rw [e] at F
  refine fheld (L := 0) (ps := ["value"]) bs (fnCk_ok c_law_size) F (L2.FunD.bindsN F fun _ _ _ _ _ _ us hl => match us, hl with | [_], _ => rfl) fh fun ds Q E h => ?_
  exact s_law_size (Φ := Φ)  ds Q E h
theorem k_law_off (c : He.SaysD (faOf gts) fn K) (bs : Bas (SOf gts P w K mg base) T) (fh : ∀ j, T.lv j ≤ 1 → FHeld (SOf gts P w K mg base) Φ dr T.lv j) : FHeld (SOf gts P w K mg base) Φ dr T.lv 156 := by
  obtain ⟨fd, F⟩ := def_of (x := "_law_off") (st := top 48) c (by unfold fn dd; simp only [List.mem_append, List.mem_cons, true_or, or_true])
  have e : He.ga K "_law_off" = (SOf gts P w K mg base).fa 156 := by
    show _ = He.ga K (nmOf gts 156)
    rw [show nmOf gts 156 = ("_law_off" : Str) by decide +kernel]
  rw [e] at F
  refine fheld (L := 1) (ps := ["parts", "excess"]) bs (fnCk_ok c_law_off) F (L2.FunD.bindsN F fun _ _ _ _ _ _ us hl => match us, hl with | [_, _], _ => rfl) fh fun ds Q E h => ?_
  exact s_law_off (Φ := Φ) rfl rfl ds Q E h
theorem k_law_divisor2 (c : He.SaysD (faOf gts) fn K) (bs : Bas (SOf gts P w K mg base) T) (fh : ∀ j, T.lv j ≤ 0 → FHeld (SOf gts P w K mg base) Φ dr T.lv j) : FHeld (SOf gts P w K mg base) Φ dr T.lv 145 := by
  obtain ⟨fd, F⟩ := def_of (x := "_law_divisor") (st := top 35) c (by unfold fn dd; simp only [List.mem_append, List.mem_cons, true_or, or_true])
  have e : He.ga K "_law_divisor" = (SOf gts P w K mg base).fa 145 := by
    show _ = He.ga K (nmOf gts 145)
    rw [show nmOf gts 145 = ("_law_divisor" : Str) by decide +kernel]
  rw [e] at F
  refine fheld (L := 0) (ps := ["first", "second"]) bs (fnCk_ok c_law_divisor2) F (L2.FunD.bindsN F fun _ _ _ _ _ _ us hl => match us, hl with | [_, _], _ => rfl) fh fun ds Q E h => ?_
  exact s_law_divisor2 (Φ := Φ)  ds Q E h
theorem k_law_reduced2 (c : He.SaysD (faOf gts) fn K) (bs : Bas (SOf gts P w K mg base) T) (fh : ∀ j, T.lv j ≤ 1 → FHeld (SOf gts P w K mg base) Φ dr T.lv j) : FHeld (SOf gts P w K mg base) Φ dr T.lv 146 := by
  obtain ⟨fd, F⟩ := def_of (x := "_law_reduced") (st := top 36) c (by unfold fn dd; simp only [List.mem_append, List.mem_cons, true_or, or_true])
  have e : He.ga K "_law_reduced" = (SOf gts P w K mg base).fa 146 := by
    show _ = He.ga K (nmOf gts 146)
    rw [show nmOf gts 146 = ("_law_reduced" : Str) by decide +kernel]
  rw [e] at F
  refine fheld (L := 1) (ps := ["top", "below"]) bs (fnCk_ok c_law_reduced2) F (L2.FunD.bindsN F fun _ _ _ _ _ _ us hl => match us, hl with | [_, _], _ => rfl) fh fun ds Q E h => ?_
  exact s_law_reduced2 (Φ := Φ) rfl ds Q E h
theorem k_law_more (c : He.SaysD (faOf gts) fn K) (bs : Bas (SOf gts P w K mg base) T) (fh : ∀ j, T.lv j ≤ 0 → FHeld (SOf gts P w K mg base) Φ dr T.lv j) : FHeld (SOf gts P w K mg base) Φ dr T.lv 9 := by
  obtain ⟨fd, F⟩ := def_of (x := "_law_more") (st := top 44) c (by unfold fn dd; simp only [List.mem_append, List.mem_cons, true_or, or_true])
  have e : He.ga K "_law_more" = (SOf gts P w K mg base).fa 9 := by
    show _ = He.ga K (nmOf gts 9)
    rw [show nmOf gts 9 = ("_law_more" : Str) by decide +kernel]
  rw [e] at F
  refine fheld (L := 0) (ps := ["one", "other"]) bs (fnCk_ok c_law_more) F (L2.FunD.bindsN F fun _ _ _ _ _ _ us hl => match us, hl with | [_, _], _ => rfl) fh fun ds Q E h => ?_
  exact s_law_more (Φ := Φ)  ds Q E h
theorem k_divisor (c : He.SaysD (faOf gts) fn K) (bs : Bas (SOf gts P w K mg base) T) (fh : ∀ j, T.lv j ≤ 0 → FHeld (SOf gts P w K mg base) Φ dr T.lv j) : FHeld (SOf gts P w K mg base) Φ dr T.lv 11 := by
  obtain ⟨fd, F⟩ := def_of (x := "divisor") (st := top 9) c (by unfold fn dd; simp only [List.mem_append, List.mem_cons, true_or, or_true])
  have e : He.ga K "divisor" = (SOf gts P w K mg base).fa 11 := by
    show _ = He.ga K (nmOf gts 11)
    rw [show nmOf gts 11 = ("divisor" : Str) by decide +kernel]
  rw [e] at F
  refine fheld (L := 0) (ps := ["first", "second"]) bs (fnCk_ok c_divisor) F (L2.FunD.bindsN F fun _ _ _ _ _ _ us hl => match us, hl with | [_, _], _ => rfl) fh fun ds Q E h => ?_
  exact s_divisor (Φ := Φ)  ds Q E h
theorem k_is_fraction (c : He.SaysD (faOf gts) fn K) (bs : Bas (SOf gts P w K mg base) T) (fh : ∀ j, T.lv j ≤ 1 → FHeld (SOf gts P w K mg base) Φ dr T.lv j) : FHeld (SOf gts P w K mg base) Φ dr T.lv 15 := by
  obtain ⟨fd, F⟩ := def_of (x := "is_fraction") (st := top 11) c (by unfold fn dd; simp only [List.mem_append, List.mem_cons, true_or, or_true])
  have e : He.ga K "is_fraction" = (SOf gts P w K mg base).fa 15 := by
    show _ = He.ga K (nmOf gts 15)
    rw [show nmOf gts 15 = ("is_fraction" : Str) by decide +kernel]
  rw [e] at F
  refine fheld (L := 1) (ps := ["value"]) bs (fnCk_ok c_is_fraction) F (L2.FunD.bindsN F fun _ _ _ _ _ _ us hl => match us, hl with | [_], _ => rfl) fh fun ds Q E h => ?_
  exact s_is_fraction (Φ := Φ) rfl ds Q E h
theorem k_check_excess (c : He.SaysD (faOf gts) fn K) (bs : Bas (SOf gts P w K mg base) T) (fh : ∀ j, T.lv j ≤ 2 → FHeld (SOf gts P w K mg base) Φ dr T.lv j) : FHeld (SOf gts P w K mg base) Φ dr T.lv 157 := by
  obtain ⟨fd, F⟩ := def_of (x := "check_excess") (st := top 20) c (by unfold fn dd; simp only [List.mem_append, List.mem_cons, true_or, or_true])
  have e : He.ga K "check_excess" = (SOf gts P w K mg base).fa 157 := by
    show _ = He.ga K (nmOf gts 157)
    rw [show nmOf gts 157 = ("check_excess" : Str) by decide +kernel]
  rw [e] at F
  refine fheld (L := 2) (ps := ["excess"]) bs (fnCk_ok c_check_excess) F (L2.FunD.bindsN F fun _ _ _ _ _ _ us hl => match us, hl with | [_], _ => rfl) fh fun ds Q E h => ?_
  exact s_check_excess (Φ := Φ) rfl ds Q E h
theorem k_chains (c : He.SaysD (faOf gts) fn K) (bs : Bas (SOf gts P w K mg base) T) (fh : ∀ j, T.lv j ≤ 0 → FHeld (SOf gts P w K mg base) Φ dr T.lv j) : FHeld (SOf gts P w K mg base) Φ dr T.lv 158 := by
  obtain ⟨fd, F⟩ := def_of (x := "chains") (st := top 25) c (by unfold fn dd; simp only [List.mem_append, List.mem_cons, true_or, or_true])
  have e : He.ga K "chains" = (SOf gts P w K mg base).fa 158 := by
    show _ = He.ga K (nmOf gts 158)
    rw [show nmOf gts 158 = ("chains" : Str) by decide +kernel]
  rw [e] at F
  refine fheld (L := 0) (ps := ["most", "limit"]) bs (fnCk_ok c_chains) F (L2.FunD.bindsN F fun _ _ _ _ _ _ us hl => match us, hl with | [_, _], _ => rfl) fh fun ds Q E h => ?_
  exact s_chains (Φ := Φ)  ds Q E h
theorem k_less (c : He.SaysD (faOf gts) fn K) (bs : Bas (SOf gts P w K mg base) T) (fh : ∀ j, T.lv j ≤ 0 → FHeld (SOf gts P w K mg base) Φ dr T.lv j) : FHeld (SOf gts P w K mg base) Φ dr T.lv 27 := by
  obtain ⟨fd, F⟩ := def_of (x := "less") (st := top 14) c (by unfold fn dd; simp only [List.mem_append, List.mem_cons, true_or, or_true])
  have e : He.ga K "less" = (SOf gts P w K mg base).fa 27 := by
    show _ = He.ga K (nmOf gts 27)
    rw [show nmOf gts 27 = ("less" : Str) by decide +kernel]
  rw [e] at F
  refine fheld (L := 0) (ps := ["first", "second"]) bs (fnCk_ok c_less) F (L2.FunD.bindsN F fun _ _ _ _ _ _ us hl => match us, hl with | [_, _], _ => rfl) fh fun ds Q E h => ?_
  exact s_less (Φ := Φ)  ds Q E h
theorem k_size (c : He.SaysD (faOf gts) fn K) (bs : Bas (SOf gts P w K mg base) T) (fh : ∀ j, T.lv j ≤ 0 → FHeld (SOf gts P w K mg base) Φ dr T.lv j) : FHeld (SOf gts P w K mg base) Φ dr T.lv 25 := by
  obtain ⟨fd, F⟩ := def_of (x := "size") (st := top 24) c (by unfold fn dd; simp only [List.mem_append, List.mem_cons, true_or, or_true])
  have e : He.ga K "size" = (SOf gts P w K mg base).fa 25 := by
    show _ = He.ga K (nmOf gts 25)
    rw [show nmOf gts 25 = ("size" : Str) by decide +kernel]
  rw [e] at F
  refine fheld (L := 0) (ps := ["value"]) bs (fnCk_ok c_size) F (L2.FunD.bindsN F fun _ _ _ _ _ _ us hl => match us, hl with | [_], _ => rfl) fh fun ds Q E h => ?_
  exact s_size (Φ := Φ)  ds Q E h
theorem k_fraction (c : He.SaysD (faOf gts) fn K) (bs : Bas (SOf gts P w K mg base) T) (fh : ∀ j, T.lv j ≤ 1 → FHeld (SOf gts P w K mg base) Φ dr T.lv j) : FHeld (SOf gts P w K mg base) Φ dr T.lv 12 := by
  obtain ⟨fd, F⟩ := def_of (x := "fraction") (st := top 10) c (by unfold fn dd; simp only [List.mem_append, List.mem_cons, true_or, or_true])
  have e : He.ga K "fraction" = (SOf gts P w K mg base).fa 12 := by
    show _ = He.ga K (nmOf gts 12)
    rw [show nmOf gts 12 = ("fraction" : Str) by decide +kernel]
  rw [e] at F
  refine fheld (L := 1) (ps := ["top", "below"]) bs (fnCk_ok c_fraction) F (L2.FunD.bindsN F fun _ _ _ _ _ _ us hl => match us, hl with | [_, _], _ => rfl) fh fun ds Q E h => ?_
  exact s_fraction (Φ := Φ) rfl ds Q E h
theorem k_added (c : He.SaysD (faOf gts) fn K) (bs : Bas (SOf gts P w K mg base) T) (fh : ∀ j, T.lv j ≤ 2 → FHeld (SOf gts P w K mg base) Φ dr T.lv j) : FHeld (SOf gts P w K mg base) Φ dr T.lv 13 := by
  obtain ⟨fd, F⟩ := def_of (x := "added") (st := top 12) c (by unfold fn dd; simp only [List.mem_append, List.mem_cons, true_or, or_true])
  have e : He.ga K "added" = (SOf gts P w K mg base).fa 13 := by
    show _ = He.ga K (nmOf gts 13)
    rw [show nmOf gts 13 = ("added" : Str) by decide +kernel]
  rw [e] at F
  refine fheld (L := 2) (ps := ["first", "second"]) bs (fnCk_ok c_added) F (L2.FunD.bindsN F fun _ _ _ _ _ _ us hl => match us, hl with | [_, _], _ => rfl) fh fun ds Q E h => ?_
  exact s_added (Φ := Φ) rfl ds Q E h
theorem k_times2 (c : He.SaysD (faOf gts) fn K) (bs : Bas (SOf gts P w K mg base) T) (fh : ∀ j, T.lv j ≤ 2 → FHeld (SOf gts P w K mg base) Φ dr T.lv j) : FHeld (SOf gts P w K mg base) Φ dr T.lv 159 := by
  obtain ⟨fd, F⟩ := def_of (x := "times") (st := top 13) c (by unfold fn dd; simp only [List.mem_append, List.mem_cons, true_or, or_true])
  have e : He.ga K "times" = (SOf gts P w K mg base).fa 159 := by
    show _ = He.ga K (nmOf gts 159)
    rw [show nmOf gts 159 = ("times" : Str) by decide +kernel]
  rw [e] at F
  refine fheld (L := 2) (ps := ["first", "second"]) bs (fnCk_ok c_times2) F (L2.FunD.bindsN F fun _ _ _ _ _ _ us hl => match us, hl with | [_, _], _ => rfl) fh fun ds Q E h => ?_
  exact s_times2 (Φ := Φ) rfl ds Q E h
theorem k_chain_mean (c : He.SaysD (faOf gts) fn K) (bs : Bas (SOf gts P w K mg base) T) (fh : ∀ j, T.lv j ≤ 3 → FHeld (SOf gts P w K mg base) Φ dr T.lv j) : FHeld (SOf gts P w K mg base) Φ dr T.lv 160 := by
  obtain ⟨fd, F⟩ := def_of (x := "chain_mean") (st := top 26) c (by unfold fn dd; simp only [List.mem_append, List.mem_cons, true_or, or_true])
  have e : He.ga K "chain_mean" = (SOf gts P w K mg base).fa 160 := by
    show _ = He.ga K (nmOf gts 160)
    rw [show nmOf gts 160 = ("chain_mean" : Str) by decide +kernel]
  rw [e] at F
  refine fheld (L := 3) (ps := ["parts"]) bs (fnCk_ok c_chain_mean) F (L2.FunD.bindsN F fun _ _ _ _ _ _ us hl => match us, hl with | [_], _ => rfl) fh fun ds Q E h => ?_
  exact s_chain_mean (Φ := Φ) rfl rfl ds Q E h
theorem k_near_parts (c : He.SaysD (faOf gts) fn K) (bs : Bas (SOf gts P w K mg base) T) (fh : ∀ j, T.lv j ≤ 4 → FHeld (SOf gts P w K mg base) Φ dr T.lv j) : FHeld (SOf gts P w K mg base) Φ dr T.lv 161 := by
  obtain ⟨fd, F⟩ := def_of (x := "near_parts") (st := top 28) c (by unfold fn dd; simp only [List.mem_append, List.mem_cons, true_or, or_true])
  have e : He.ga K "near_parts" = (SOf gts P w K mg base).fa 161 := by
    show _ = He.ga K (nmOf gts 161)
    rw [show nmOf gts 161 = ("near_parts" : Str) by decide +kernel]
  rw [e] at F
  refine fheld (L := 4) (ps := ["excess", "bound", "limit"]) bs (fnCk_ok c_near_parts) F (L2.FunD.bindsN F fun _ _ _ _ _ _ us hl => match us, hl with | [_, _, _], _ => rfl) fh fun ds Q E h => ?_
  exact s_near_parts (Φ := Φ) rfl rfl rfl rfl rfl rfl rfl rfl ds Q E h
theorem k_best_parts (c : He.SaysD (faOf gts) fn K) (bs : Bas (SOf gts P w K mg base) T) (fh : ∀ j, T.lv j ≤ 4 → FHeld (SOf gts P w K mg base) Φ dr T.lv j) : FHeld (SOf gts P w K mg base) Φ dr T.lv 162 := by
  obtain ⟨fd, F⟩ := def_of (x := "best_parts") (st := top 27) c (by unfold fn dd; simp only [List.mem_append, List.mem_cons, true_or, or_true])
  have e : He.ga K "best_parts" = (SOf gts P w K mg base).fa 162 := by
    show _ = He.ga K (nmOf gts 162)
    rw [show nmOf gts 162 = ("best_parts" : Str) by decide +kernel]
  rw [e] at F
  refine fheld (L := 4) (ps := ["excess", "most", "limit"]) bs (fnCk_ok c_best_parts) F (L2.FunD.bindsN F fun _ _ _ _ _ _ us hl => match us, hl with | [_, _, _], _ => rfl) fh fun ds Q E h => ?_
  exact s_best_parts (Φ := Φ) rfl rfl rfl rfl rfl rfl rfl ds Q E h
theorem k_check_rule (c : He.SaysD (faOf gts) fn K) (bs : Bas (SOf gts P w K mg base) T) (fh : ∀ j, T.lv j ≤ 0 → FHeld (SOf gts P w K mg base) Φ dr T.lv j) : FHeld (SOf gts P w K mg base) Φ dr T.lv 136 := by
  obtain ⟨fd, F⟩ := def_of (x := "check_rule") (st := top 19) c (by unfold fn dd; simp only [List.mem_append, List.mem_cons, true_or, or_true])
  have e : He.ga K "check_rule" = (SOf gts P w K mg base).fa 136 := by
    show _ = He.ga K (nmOf gts 136)
    rw [show nmOf gts 136 = ("check_rule" : Str) by decide +kernel]
  rw [e] at F
  refine fheld (L := 0) (ps := ["rule"]) bs (fnCk_ok c_check_rule) F (L2.FunD.bindsN F fun _ _ _ _ _ _ us hl => match us, hl with | [_], _ => rfl) fh fun ds Q E h => ?_
  exact s_check_rule (Φ := Φ)  ds Q E h
theorem k_period (c : He.SaysD (faOf gts) fn K) (bs : Bas (SOf gts P w K mg base) T) (fh : ∀ j, T.lv j ≤ 0 → FHeld (SOf gts P w K mg base) Φ dr T.lv j) : FHeld (SOf gts P w K mg base) Φ dr T.lv 141 := by
  obtain ⟨fd, F⟩ := def_of (x := "period") (st := top 21) c (by unfold fn dd; simp only [List.mem_append, List.mem_cons, true_or, or_true])
  have e : He.ga K "period" = (SOf gts P w K mg base).fa 141 := by
    show _ = He.ga K (nmOf gts 141)
    rw [show nmOf gts 141 = ("period" : Str) by decide +kernel]
  rw [e] at F
  refine fheld (L := 0) (ps := ["rule"]) bs (fnCk_ok c_period) F (L2.FunD.bindsN F fun _ _ _ _ _ _ us hl => match us, hl with | [_], _ => rfl) fh fun ds Q E h => ?_
  exact s_period (Φ := Φ)  ds Q E h
theorem k_counted (c : He.SaysD (faOf gts) fn K) (bs : Bas (SOf gts P w K mg base) T) (fh : ∀ j, T.lv j ≤ 0 → FHeld (SOf gts P w K mg base) Φ dr T.lv j) : FHeld (SOf gts P w K mg base) Φ dr T.lv 138 := by
  obtain ⟨fd, F⟩ := def_of (x := "counted") (st := top 22) c (by unfold fn dd; simp only [List.mem_append, List.mem_cons, true_or, or_true])
  have e : He.ga K "counted" = (SOf gts P w K mg base).fa 138 := by
    show _ = He.ga K (nmOf gts 138)
    rw [show nmOf gts 138 = ("counted" : Str) by decide +kernel]
  rw [e] at F
  refine fheld (L := 0) (ps := ["rule", "year"]) bs (fnCk_ok c_counted) F (L2.FunD.bindsN F fun _ _ _ _ _ _ us hl => match us, hl with | [_, _], _ => rfl) fh fun ds Q E h => ?_
  exact s_counted (Φ := Φ)  ds Q E h
theorem k_mean (c : He.SaysD (faOf gts) fn K) (bs : Bas (SOf gts P w K mg base) T) (fh : ∀ j, T.lv j ≤ 2 → FHeld (SOf gts P w K mg base) Φ dr T.lv j) : FHeld (SOf gts P w K mg base) Φ dr T.lv 142 := by
  obtain ⟨fd, F⟩ := def_of (x := "mean") (st := top 23) c (by unfold fn dd; simp only [List.mem_append, List.mem_cons, true_or, or_true])
  have e : He.ga K "mean" = (SOf gts P w K mg base).fa 142 := by
    show _ = He.ga K (nmOf gts 142)
    rw [show nmOf gts 142 = ("mean" : Str) by decide +kernel]
  rw [e] at F
  refine fheld (L := 2) (ps := ["rule"]) bs (fnCk_ok c_mean) F (L2.FunD.bindsN F fun _ _ _ _ _ _ us hl => match us, hl with | [_], _ => rfl) fh fun ds Q E h => ?_
  exact s_mean (Φ := Φ) rfl rfl rfl rfl ds Q E h
theorem helds (c : He.SaysD (faOf gts) fn K) (bs : Bas (SOf gts P w K mg base) T) (mL : mg "len" = none) (mI : mg "int" = none) : ∀ n, n ≤ 900 → ∀ j, T.lv j ≤ n → FHeld (SOf gts P w K mg base) Φ dr T.lv j := by
  intro n
  induction n with
  | zero =>
    intro _ j hj
    have h1 : lvs.getD j 1000 ≤ 0 := hj
    have hm := inv j (by omega)
    exact absurd h1 (low j hm)
  | succ n ih =>
    intro hn j hj
    have hj' : lvs.getD j 1000 ≤ n + 1 := hj
    have hm := inv j (by omega)
    have ih := ih (by omega)
    unfold nums at hm
    simp only [List.mem_cons, List.not_mem_nil, or_false] at hm
    rcases hm with rfl | rfl | rfl | rfl | rfl | rfl | rfl | rfl | rfl | rfl | rfl | rfl | rfl | rfl | rfl | rfl | rfl | rfl | rfl | rfl | rfl | rfl | rfl | rfl | rfl
    · exact k_law_stream c bs (fun i hi => ih i (Nat.le_trans hi (by have h2 : 1 ≤ n + 1 := hj'; omega)))
    · exact k_law_chains c bs (fun i hi => ih i (Nat.le_trans hi (by have h2 : 1 ≤ n + 1 := hj'; omega)))
    · exact k_law_next c bs (fun i hi => ih i (Nat.le_trans hi (by have h2 : 1 ≤ n + 1 := hj'; omega))) mL mI
    · exact k_law_mean c bs (fun i hi => ih i (Nat.le_trans hi (by have h2 : 1 ≤ n + 1 := hj'; omega)))
    · exact k_law_size c bs (fun i hi => ih i (Nat.le_trans hi (by have h2 : 1 ≤ n + 1 := hj'; omega)))
    · exact k_law_off c bs (fun i hi => ih i (Nat.le_trans hi (by have h2 : 2 ≤ n + 1 := hj'; omega)))
    · exact k_law_divisor2 c bs (fun i hi => ih i (Nat.le_trans hi (by have h2 : 1 ≤ n + 1 := hj'; omega)))
    · exact k_law_reduced2 c bs (fun i hi => ih i (Nat.le_trans hi (by have h2 : 2 ≤ n + 1 := hj'; omega)))
    · exact k_law_more c bs (fun i hi => ih i (Nat.le_trans hi (by have h2 : 1 ≤ n + 1 := hj'; omega)))
    · exact k_divisor c bs (fun i hi => ih i (Nat.le_trans hi (by have h2 : 1 ≤ n + 1 := hj'; omega)))
    · exact k_is_fraction c bs (fun i hi => ih i (Nat.le_trans hi (by have h2 : 2 ≤ n + 1 := hj'; omega)))
    · exact k_check_excess c bs (fun i hi => ih i (Nat.le_trans hi (by have h2 : 3 ≤ n + 1 := hj'; omega)))
    · exact k_chains c bs (fun i hi => ih i (Nat.le_trans hi (by have h2 : 1 ≤ n + 1 := hj'; omega)))
    · exact k_less c bs (fun i hi => ih i (Nat.le_trans hi (by have h2 : 1 ≤ n + 1 := hj'; omega)))
    · exact k_size c bs (fun i hi => ih i (Nat.le_trans hi (by have h2 : 1 ≤ n + 1 := hj'; omega)))
    · exact k_fraction c bs (fun i hi => ih i (Nat.le_trans hi (by have h2 : 2 ≤ n + 1 := hj'; omega)))
    · exact k_added c bs (fun i hi => ih i (Nat.le_trans hi (by have h2 : 3 ≤ n + 1 := hj'; omega)))
    · exact k_times2 c bs (fun i hi => ih i (Nat.le_trans hi (by have h2 : 3 ≤ n + 1 := hj'; omega)))
    · exact k_chain_mean c bs (fun i hi => ih i (Nat.le_trans hi (by have h2 : 4 ≤ n + 1 := hj'; omega)))
    · exact k_near_parts c bs (fun i hi => ih i (Nat.le_trans hi (by have h2 : 5 ≤ n + 1 := hj'; omega)))
    · exact k_best_parts c bs (fun i hi => ih i (Nat.le_trans hi (by have h2 : 5 ≤ n + 1 := hj'; omega)))
    · exact k_check_rule c bs (fun i hi => ih i (Nat.le_trans hi (by have h2 : 1 ≤ n + 1 := hj'; omega)))
    · exact k_period c bs (fun i hi => ih i (Nat.le_trans hi (by have h2 : 1 ≤ n + 1 := hj'; omega)))
    · exact k_counted c bs (fun i hi => ih i (Nat.le_trans hi (by have h2 : 1 ≤ n + 1 := hj'; omega)))
    · exact k_mean c bs (fun i hi => ih i (Nat.le_trans hi (by have h2 : 3 ≤ n + 1 := hj'; omega)))
end
theorem pk : Pk gts T.lv dr fn Φ 7 (top 34) (top 30) (top 49) n_k49 b_k49 0 1 where
  ok := by decide +kernel
  mT := by unfold fn dd; simp only [List.mem_append, List.mem_cons, true_or, or_true]
  mS := by unfold fn dd; simp only [List.mem_append, List.mem_cons, true_or, or_true]
  mL := by unfold fn dd; simp only [List.mem_append, List.mem_cons, true_or, or_true]
  told := c_told
  same := c_same
  bT := fun F => L2.FunD.bindsN F fun _ _ _ _ _ _ us hl => match us, hl with | [_], _ => rfl
  bS := fun F => L2.FunD.bindsN F fun _ _ _ _ _ _ us hl => match us, hl with | [_, _], _ => rfl
  bL := fun F s u => L2.FunD.bindsA (ps := ["script"]) F (fun _ _ _ _ _ _ us hl => match us, hl with | [_], _ => rfl) s [u] rfl
  sc := c_sc
  l0 := c_l0
  rm := ⟨by decide, by decide, by decide⟩
  lS := by decide +kernel
  dS := by decide +kernel
  dw := of_decide_eq_true c_dw
  i0 := by decide
  fh := fun P w K mg base h X G c bs j hj => helds c bs (He.free_ok X G (c.facts (fa_free (by simp)))) (He.free_ok X G (c.facts (fa_free (by simp)))) 7 (by decide) j hj
  str := fun Q h => ⟨rfl, h⟩
  law := s_k49 (Φ := Φ) rfl rfl rfl rfl rfl rfl rfl rfl rfl
abbrev R : PySem.W.OpenRow := PySem.W.OpenLaw.row PySem.Challenge.rw_evenspread_k49_whole_limited_parts
abbrev hk : PySem.W.Hook := He.hookX 4 (faOf gts) fn [] [("law", none)] (exG gts)
def ob (s : PySem.W.SharedT) : He.AlX := He.obsX 4 (faOf gts) fn [] [("law", none)] (exG gts) (HandSHeadRun.getT s)
theorem ob_eq (s : PySem.W.SharedT) : ob s = hk.obs s.abs := He.obsX_eq (HandSHeadRun.getT_eq s)
def loose : List PySem.Str := (["__name__", "SpreadError", "NotAllowed", "TooLarge", "Missing", "BadPaper", "BadForm", "Broken", "__name__", "divisor", "fraction", "is_fraction", "added", "times", "less", "__name__", "MAX_PARTS", "MAX_PERIOD", "MAX_LIMIT", "check_rule", "check_excess", "period", "counted", "mean", "size", "chains", "chain_mean", "best_parts", "near_parts", "__name__"] : List PySem.Str) ++ (["_law_same", "_law_stream", "_law_next", "_law_great", "_law_told", "_law_divisor", "_law_reduced", "_law_rule", "_law_count", "_law_leaps", "_law_period", "_law_wrong_rule", "_law_excess", "_law_drift", "_law_more", "_law_size", "_law_chains", "_law_mean", "_law_off"] : List PySem.Str)
theorem run (w : World) : HandSHeadRun.RunEq R (PySem.W.view R.prog [49]) hk ob 4000 loose w := by
  intro os
  kernel_rfl
end K49
open PySem PySem.W PySem.Calls PyProof.Rows
set_option maxRecDepth 100000 in
set_option maxHeartbeats 0 in
theorem PySem.Challenge.cw_evenspread_k49_whole_limited_parts_holds : PySem.Challenge.rw_evenspread_k49_whole_limited_parts.Holds := by
  w_on; o_law
  refine HandSHeadRun.head_any (r := OpenLaw.row PySem.Challenge.rw_evenspread_k49_whole_limited_parts) (q := view (OpenLaw.row PySem.Challenge.rw_evenspread_k49_whole_limited_parts).prog [49]) (H := K49.hk) (ob := K49.ob) (M := 4000) (loose := K49.loose) (d := HandSHeadRun.topDef (OpenLaw.row PySem.Challenge.rw_evenspread_k49_whole_limited_parts).prog 49) (kwd := []) K49.ob_eq
    (by kernel_rfl) (fun s => by kernel_rfl) K49.run (by kernel_rfl) (by kernel_rfl) (by kernel_rfl) (by rfl) (by first | assumption | decide +kernel) (by decide +kernel) ⟨rfl, rfl, rfl, rfl, rfl, by decide +kernel⟩ ?hw ?hc
  case hw => w_witness2
  case hc => exact Y.law_walk (l := PySem.Challenge.rw_evenspread_k49_whole_limited_parts) rfl (by kernel_rfl) (by kernel_rfl) K49.pk

