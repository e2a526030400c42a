import PyProof.Rows.All
import Wide.All
import OpenK.AllK
import Wide.FinOn
import PyProof.EqAt
import PyProof.EqKinds
import PyProof.TupleCall
import HandS.ForMost
import HandS.ForExc
import HandS.IsInst
import HandS.ExcIs
import HandS.ExcValue
import HandS.Wide
import PyProof.NoPylong
import HandS.Zip
import HandS.Flow
import HandS.TupAny
import HandS.Deep
import HandS.EndBits
import HandS.WideBits
import HandS.TupLe
import HandS.TupSets
import HandS.Style
import PySem.Challenge.RW_roundsides_k32_whole_sums_in_any_order
set_option Elab.async false
set_option linter.all false
set_option autoImplicit false
set_option maxRecDepth 100000
set_option maxHeartbeats 8000000
/-! The data layer, part A: plain data, a small syntax, what it computes. -/
namespace Dl
open PySem

/-- how many error classes the law's text has -/
class NC where
  n : Nat
/-- plain data; exc c: a caught error of class number c; ref a: a list that may change, told by the store -/
inductive D where
  | non | bl (b : Bool) | int (i : Int) | str (x : Str) | tup (xs : List D) | lst (xs : List D) | exc (c : Nat) | ref (a : Addr)
deriving Inhabited

mutual
def D.py : D → PyData
  | .non => .none
  | .bl b => .bool b
  | .int i => .int i
  | .str x => .str x
  | .tup xs => .tuple (pys xs)
  | .lst xs => .list (pys xs)
  | .exc _ => .none
  | .ref _ => .none
def pys : List D → List PyData
  | [] => []
  | x :: xs => x.py :: pys xs
end
/-- data that == may look at: no errors, no references, at most n deep -/
def fit : Nat → D → Bool
  | _, .non => true
  | _, .bl _ => true
  | _, .int _ => true
  | _, .str x => PyData.strOk x
  | n + 1, .tup xs => xs.all (fit n)
  | n + 1, .lst xs => xs.all (fit n)
  | _, _ => false
def deq (a b : D) : Bool := PyData.eqv a.py b.py

abbrev Mu := Addr → Option (List D)
def mset (μ : Mu) (a : Addr) (ds : List D) : Mu := fun b => if b = a then some ds else μ b
def mdel (μ : Mu) (a : Addr) : Mu := fun b => if b = a then none else μ b
theorem mset_same (μ : Mu) (a : Addr) (ds : List D) : mset μ a ds a = some ds := by unfold mset; rw [if_pos rfl]
theorem mset_ne (μ : Mu) {a b : Addr} (ds : List D) (h : b ≠ a) : mset μ a ds b = μ b := by unfold mset; rw [if_neg h]
theorem mset_mset (μ : Mu) (a : Addr) (ds es : List D) : mset (mset μ a ds) a es = mset μ a es := by
  funext b; unfold mset; split <;> rfl
theorem mdel_same (μ : Mu) (a : Addr) : mdel μ a a = none := by unfold mdel; rw [if_pos rfl]
theorem mdel_ne (μ : Mu) {a b : Addr} (h : b ≠ a) : mdel μ a b = μ b := by unfold mdel; rw [if_neg h]
theorem mdel_mset (μ : Mu) (a : Addr) (ds : List D) (h : μ a = none) : mdel (mset μ a ds) a = μ := by
  funext b; unfold mdel mset
  by_cases e : b = a
  · rw [if_pos e, e, h]
  · rw [if_neg e, if_neg e]
abbrev Rho := List (Option D)
abbrev Pst := D → Mu → Prop
abbrev Xst := Nat → Mu → Prop
/-- a def's promise over data -/
abbrev DSp := List D → Mu → Pst → Xst → Prop

def rg : Rho → Nat → Option D
  | [], _ => none
  | o :: _, 0 => o
  | _ :: r, n + 1 => rg r n
def rs : Rho → Nat → Option D → Rho
  | [], _, _ => []
  | _ :: r, 0, v => v :: r
  | o :: r, n + 1, v => o :: rs r n v

inductive Ty where
  | int | bool | tuple | list | str | cls (c : Nat) | vErr
inductive Op2 where
  | add | sub | mul | fdiv | mod | pow | shl
inductive Cop where
  | eq | ne | lt | le | gt | ge | in_ | notin | is_ | isnt | eqm | nem | inT | notinT
inductive Bl1 where
  | len | abs | sum | all | any | tuple | list | listM | int | str
inductive Bl2 where
  | max | min
/-- methods of a list that may change, without arguments -/
inductive Mth where
  | clear | reverse
inductive MT where
  | name (i : Nat) | tup (is : List Nat)

mutual
inductive ME where
  | var (i : Nat)
  | non | bl (b : Bool) | int (i : Int) | str (x : Str)
  | glob (x : Str) (d : D)
  | bin (o : Op2) (a b : ME)
  | neg (a : ME)
  | tup (a : MA) | lst (a : MA) | newl (a : MA)
  | ixc (a : ME) (n : Nat) | ix (a i : ME)
  | slc (a : ME) (lo hi : MO)
  | call (x : Str) (S : DSp) (a : MA)
  | bl1 (f : Bl1) (a : ME) | bl2 (f : Bl2) (a b : ME)
  | isi (a : ME) (t : Ty)
  | cmp (o : Cop) (a b : ME)
  | isN (yes : Bool) (a : ME)
  | bop (isAnd : Bool) (a : MA)
  | nt (a : ME)
  | ife (t a b : ME)
  | lc (mu : Bool) (tg : MT) (it : MI) (c : MO) (e : ME)
  | bits (a : ME)
  | callAt (fl : List (Str × DSp)) (i : ME) (a : MA)
  | rev (a : ME)
  | join (s : Str) (a : ME)
  | split (a : ME) (s : Str)
  | setl (a : ME)
  | cat (mu : Bool) (a b : ME)
  | isl (a : ME)
  | lcr (mu : Bool) (tg : MT) (a : ME) (c : MO) (e : ME)
  | frz (a : ME)
inductive MA where
  | nil | cons (e : ME) (a : MA)
inductive MO where
  | no | so (e : ME)
inductive MI where
  | seq (e : ME) | rng1 (a : ME) | rng2 (a b : ME) | zip (a b : ME)
end
mutual
inductive MS where
  | pas
  | asg (t : MT) (e : ME)
  | asgr (is : List Nat) (e : ME)
  | par (i j : Nat) (a b : ME)
  | par3 (i j l : Nat) (a b c : ME)
  | setix (o i e : ME)
  | app (o e : ME)
  | mth (f : Mth) (o : ME)
  | expr (e : ME)
  | ret (e : ME)
  | retN
  | ite (t : ME) (a b : MB)
  | loop (t : MT) (it : MI) (b : MB)
  | loopr (t : MT) (a : ME) (b : MB)
  | whl (t : ME) (b : MB)
  | brk | cnt
  | rais (c : Nat)
  | try1 (c : Nat) (b : MB) (i j : Nat)
inductive MB where
  | nil | cons (s : MS) (b : MB)
end

/-! ### what it computes -/
def ifD : Option D → (D → Prop) → Prop
  | some d, p => p d
  | none, _ => False
def ifB : Option Bool → (Bool → Prop) → Prop
  | some d, p => p d
  | none, _ => False
def ifL : Option (List D) → (List D → Prop) → Prop
  | some d, p => p d
  | none, _ => False
def asI : D → (Int → Prop) → Prop
  | .int i, p => p i
  | _, _ => False
def asB : D → (Bool → Prop) → Prop
  | .bl i, p => p i
  | _, _ => False
def isNon : D → Bool
  | .non => true
  | _ => false
/-- the items of a list or a tuple -/
def itemsOf : D → Mu → Option (List D)
  | .tup ds, _ => some ds
  | .lst ds, _ => some ds
  | .ref p, μ => μ p
  | _, _ => none
def itemsF : D → Option (List D)
  | .tup ds => some ds
  | .lst ds => some ds
  | _ => none
def strAt (z : Str) (n : Nat) : Option D := if z.length ≤ 100000 then (z.cps.toList[n]?).map fun c => D.str ⟨#[c]⟩ else none
def strAtI (z : Str) (n : Int) : Option D := if z.length ≤ 100000 then (L2.atI z.cps.toList n).map fun c => D.str ⟨#[c]⟩ else none
def selN : D → Mu → Nat → Option D
  | .tup ds, _, n => ds[n]?
  | .lst ds, _, n => ds[n]?
  | .ref p, μ, n => (μ p).bind fun ds => ds[n]?
  | .str z, _, n => strAt z n
  | _, _, _ => none
def selI : D → Mu → Int → Option D
  | .tup ds, _, n => L2.atI ds n
  | .lst ds, _, n => L2.atI ds n
  | .ref p, μ, n => (μ p).bind fun ds => L2.atI ds n
  | .str z, _, n => strAtI z n
  | _, _, _ => none
def truD : D → Mu → Option Bool
  | .bl b, _ => some b
  | .int i, _ => some (i != 0)
  | .non, _ => some false
  | .tup ds, _ => some (!ds.isEmpty)
  | .lst ds, _ => some (!ds.isEmpty)
  | .ref p, μ => (μ p).map fun ds => !ds.isEmpty
  | .str z, _ => if z.length ≤ 100000 then some (z.length != 0) else none
  | _, _ => none
def divOk (j : Int) : Prop := j ≠ 0
def mulOk (i j : Int) : Prop := i.natAbs.log2 + j.natAbs.log2 < 130000000
def powOk (i j : Int) : Prop := 0 ≤ j ∧ j ≤ 1000000 ∧ i.natAbs < 2 ^ 64
def opD : Op2 → D → D → Mu → Pst → Prop
  | .add, .int i, .int j, μ, Q => Q (.int (i + j)) μ
  | .add, .str x, .str y, μ, Q => x.length + y.length ≤ 100000 ∧ Q (.str (x ++ y)) μ
  | .add, .lst xs, .lst ys, μ, Q => xs.length + ys.length ≤ 100000 ∧ Q (.lst (xs ++ ys)) μ
  | .add, .tup xs, .tup ys, μ, Q => xs.length + ys.length ≤ 100000 ∧ Q (.tup (xs ++ ys)) μ
  | .sub, .int i, .int j, μ, Q => Q (.int (i - j)) μ
  | .mul, .int i, .int j, μ, Q => mulOk i j ∧ Q (.int (i * j)) μ
  | .fdiv, .int i, .int j, μ, Q => divOk j ∧ Q (.int (i.fdiv j)) μ
  | .mod, .int i, .int j, μ, Q => j ≠ 0 ∧ Q (.int (i.fmod j)) μ
  | .pow, .int i, .int j, μ, Q => powOk i j ∧ Q (.int (i ^ j.toNat)) μ
  | .shl, .int i, .int j, μ, Q => powOk i j ∧ Q (.int (i * 2 ^ j.toNat)) μ
  | _, _, _, _, _ => False
def cutD (xs : List D) (lo hi : Option Int) : List D := (xs.drop (HT.sIx xs.length 0 lo)).take (HT.sIx xs.length xs.length hi - HT.sIx xs.length 0 lo)
def slcD : D → Option Int → Option Int → Mu → Pst → Prop
  | .lst ds, lo, hi, μ, Q => Q (.lst (cutD ds lo hi)) μ
  | .tup ds, lo, hi, μ, Q => Q (.tup (cutD ds lo hi)) μ
  | .ref p, lo, hi, μ, Q => ifL (μ p) fun ds => Q (.lst (cutD ds lo hi)) μ
  | .str z, lo, hi, μ, Q => z.length ≤ 100000 ∧ Q (.str (L2.cutS z lo hi)) μ
  | _, _, _, _, _ => False
def intsD : List D → Option (List Int)
  | [] => some []
  | .int i :: r => (intsD r).map (i :: ·)
  | _ :: _ => none
def blsD : List D → Option (List Bool)
  | [] => some []
  | .bl i :: r => (blsD r).map (i :: ·)
  | _ :: _ => none
def ifIs : Option (List Int) → (List Int → Prop) → Prop
  | some d, p => p d
  | none, _ => False
def ifBs : Option (List Bool) → (List Bool → Prop) → Prop
  | some d, p => p d
  | none, _ => False
def b1D : Bl1 → D → Mu → Pst → Prop
  | .len, .str z, μ, Q => z.length ≤ 100000 ∧ Q (.int z.length) μ
  | .len, d, μ, Q => ifL (itemsOf d μ) fun ds => Q (.int ds.length) μ
  | .abs, .int i, μ, Q => Q (.int (i.natAbs : Nat)) μ
  | .sum, .lst ds, μ, Q => ifIs (intsD ds) fun ns => Q (.int ns.sum) μ
  | .all, .lst ds, μ, Q => ifBs (blsD ds) fun bs => Q (.bl (bs.all id)) μ
  | .any, .lst ds, μ, Q => ifBs (blsD ds) fun bs => Q (.bl (bs.any id)) μ
  | .tuple, d, μ, Q => ifL (itemsOf d μ) fun ds => Q (.tup ds) μ
  | .list, d, μ, Q => ifL (itemsOf d μ) fun ds => Q (.lst ds) μ
  | .listM, d, μ, Q => ifL (itemsOf d μ) fun ds => ∀ p, μ p = none → Q (.ref p) (mset μ p ds)
  | .int, .int i, μ, Q => Q (.int i) μ
  | .int, .bl b, μ, Q => Q (.int (if b then 1 else 0)) μ
  | .str, .int i, μ, Q => i.natAbs.log2 < 1920 ∧ Q (.str (toString i)) μ
  | .str, .str x, μ, Q => Q (.str x) μ
  | .str, d, μ, Q => fit 60 d = true ∧ d.py.showable = true ∧ d.py.shown.length ≤ 100000 ∧ Q (.str d.py.shown) μ
  | _, _, _, _ => False
def b2D : Bl2 → D → D → Mu → Pst → Prop
  | .max, .int i, .int j, μ, Q => Q (.int (if j > i then j else i)) μ
  | .min, .int i, .int j, μ, Q => Q (.int (if j < i then j else i)) μ
  | _, _, _, _, _ => False
/-- class number 0 is the base of all -/
def subC (c' c : Nat) : Bool := c == 0 || c' == c
def isiD [NC] : D → Ty → Option Bool
  | .int _, .int => some true
  | .bl _, .int => some true
  | .bl _, .bool => some true
  | .tup _, .tuple => some true
  | .lst _, .list => some true
  | .str _, .str => some true
  | .exc c', .cls c => if c' < NC.n then some (subC c' c) else none
  | .exc c', .vErr => if c' < NC.n then some true else none
  | .exc _, _ => none
  | .ref _, _ => none
  | _, .cls _ => none
  | _, .vErr => none
  | _, _ => some false
def flatD : D → Bool
  | .non => true
  | .bl _ => true
  | .int _ => true
  | .str _ => true
  | _ => false
def cmpD : Cop → D → D → Mu → Pst → Prop
  | .eq, a, b, μ, Q => fit 60 a = true ∧ fit 60 b = true ∧ Q (.bl (deq a b)) μ
  | .ne, a, b, μ, Q => fit 60 a = true ∧ fit 60 b = true ∧ Q (.bl (!deq a b)) μ
  | .lt, .int i, .int j, μ, Q => Q (.bl (decide (i < j))) μ
  | .le, .int i, .int j, μ, Q => Q (.bl (decide (i ≤ j))) μ
  | .gt, .int i, .int j, μ, Q => Q (.bl (decide (j < i))) μ
  | .ge, .int i, .int j, μ, Q => Q (.bl (decide (j ≤ i))) μ
  | .in_, a, .lst ds, μ, Q => fit 60 a = true ∧ fit 60 (.lst ds) = true ∧ Q (.bl (ds.any fun z => deq z a)) μ
  | .notin, a, .lst ds, μ, Q => fit 60 a = true ∧ fit 60 (.lst ds) = true ∧ Q (.bl (!ds.any fun z => deq z a)) μ
  | .is_, .bl a, .bl b, μ, Q => Q (.bl (decide (a = b))) μ
  | .inT, a, .tup ds, μ, Q => flatD a = true ∧ ds.all flatD = true ∧ Q (.bl (ds.any fun z => deq z a)) μ
  | .notinT, a, .tup ds, μ, Q => flatD a = true ∧ ds.all flatD = true ∧ Q (.bl (!ds.any fun z => deq z a)) μ
  | .isnt, .bl a, .bl b, μ, Q => Q (.bl (!decide (a = b))) μ
  | .eqm, .ref p, b, μ, Q => ifL (μ p) fun ds => fit 60 (.lst ds) = true ∧ fit 60 b = true ∧ Q (.bl (deq (.lst ds) b)) μ
  | .nem, .ref p, b, μ, Q => ifL (μ p) fun ds => fit 60 (.lst ds) = true ∧ fit 60 b = true ∧ Q (.bl (!deq (.lst ds) b)) μ
  | _, _, _, _, _ => False
def bindAll : List Nat → List D → Rho → Option Rho
  | [], [], ρ => some ρ
  | i :: is, d :: ds, ρ => bindAll is ds (rs ρ i (some d))
  | _, _, _ => none
def ifR : Option Rho → (Rho → Prop) → Prop
  | some d, p => p d
  | none, _ => False
def bindT : MT → D → Rho → (Rho → Prop) → Prop
  | .name i, d, ρ, k => k (rs ρ i (some d))
  | .tup is, d, ρ, k => ifL (itemsF d) fun ds => ifR (bindAll is ds ρ) k
def MT.slots : MT → List Nat
  | .name i => [i]
  | .tup is => is
def wipeD (ρ : Rho) : List Nat → Rho
  | [] => ρ
  | i :: is => rs (wipeD ρ is) i none
def lcW (f : D → Mu → (Option D → Mu → Prop) → Prop) : List D → List D → Mu → (List D → Mu → Prop) → Prop
  | [], acc, μ, Q => Q acc μ
  | d :: ds, acc, μ, Q => f d μ fun o μ' => lcW f ds (acc ++ o.toList) μ' Q
/-- a comprehension's list: data, or a list that may change -/
def lcEnd : Bool → Pst → List D → Mu → Prop
  | false, Q, acc, μ => Q (.lst acc) μ
  | true, Q, acc, μ => ∀ p, μ p = none → Q (.ref p) (mset μ p acc)
/-- a list that may change is taken as it is from here on -/
def frzD : D → Mu → Pst → Prop
  | .ref p, μ, Q => ifL (μ p) fun ds => Q (.lst ds) (mdel μ p)
  | .lst ds, μ, Q => Q (.lst ds) μ
  | _, _, _ => False
/-- the items of a list, that may change or not -/
def itemsL : D → Mu → Option (List D)
  | .lst ds, _ => some ds
  | .ref p, μ => μ p
  | _, _ => none
/-- two lists put together -/
def catD (mu : Bool) (d1 d2 : D) (μ : Mu) (Q : Pst) : Prop := ifL (itemsL d1 μ) fun xs => ifL (itemsL d2 μ) fun ys => xs.length + ys.length ≤ 100000 ∧ lcEnd mu Q (xs ++ ys) μ
def strsD : List D → Option (List Str)
  | [] => some []
  | .str x :: r => (strsD r).map (x :: ·)
  | _ :: _ => none
def ifSs : Option (List Str) → (List Str → Prop) → Prop
  | some d, p => p d
  | none, _ => False
def joinD (s : Str) : D → Mu → Pst → Prop
  | .lst ds, μ, Q => ifSs (strsD ds) fun ys => (ys.map (·.length)).sum + ys.length * s.length ≤ 100000 ∧ Q (.str (Txt.join s ys)) μ
  | .tup ds, μ, Q => ifSs (strsD ds) fun ys => (ys.map (·.length)).sum + ys.length * s.length ≤ 100000 ∧ Q (.str (Txt.join s ys)) μ
  | _, _, _ => False
def splitD (s : Str) : D → Mu → Pst → Prop
  | .str z, μ, Q => (s.length == 0) = false ∧ z.length + 2 ≤ 100000 ∧ Q (.lst ((Txt.split z s).map .str)) μ
  | _, _, _ => False
/-- rows of whole numbers -/
def rowsD : List D → Option (List (List Int))
  | [] => some []
  | .tup ds :: r => (intsD ds).bind fun ns => (rowsD r).map (ns :: ·)
  | _ :: _ => none
/-- how many unlike rows -/
def setlD : D → Mu → Pst → Prop
  | .lst ds, μ, Q => ∃ L, rowsD ds = some L ∧ ds.length < 64 ∧ Q (.int L.eraseDups.length) μ
  | _, _, _ => False
def mthL : Mth → List D → List D
  | .clear, _ => []
  | .reverse, ds => ds.reverse
def revD : D → Mu → Pst → Prop
  | .lst ds, μ, Q => Q (.lst ds.reverse) μ
  | .tup ds, μ, Q => Q (.tup ds.reverse) μ
  | .ref p, μ, Q => ifL (μ p) fun ds => Q (.lst ds.reverse) μ
  | _, _, _ => False
def rngD (lo : Int) (n : Nat) : List D := (List.range n).map fun (k : Nat) => D.int (lo + (k : Int))
def zipD (xs ys : List D) : List D := List.zipWith (fun x y => D.tup [x, y]) xs ys

section
variable [NC]
mutual
def wpE : ME → Rho → Mu → Pst → Xst → Prop
  | .var i, ρ, μ, Q, _ => ifD (rg ρ i) fun d => Q d μ
  | .non, _, μ, Q, _ => Q .non μ
  | .bl b, _, μ, Q, _ => Q (.bl b) μ
  | .int i, _, μ, Q, _ => Q (.int i) μ
  | .str x, _, μ, Q, _ => Q (.str x) μ
  | .glob _ d, _, μ, Q, _ => Q d μ
  | .bin o a b, ρ, μ, Q, X => wpE a ρ μ (fun d1 μ1 => wpE b ρ μ1 (fun d2 μ2 => opD o d1 d2 μ2 Q) X) X
  | .neg a, ρ, μ, Q, X => wpE a ρ μ (fun d1 μ1 => asI d1 fun i => Q (.int (-i)) μ1) X
  | .tup a, ρ, μ, Q, X => wpA a ρ μ (fun ds μ1 => Q (.tup ds) μ1) X
  | .lst a, ρ, μ, Q, X => wpA a ρ μ (fun ds μ1 => Q (.lst ds) μ1) X
  | .newl a, ρ, μ, Q, X => wpA a ρ μ (fun ds μ1 => ∀ p, μ1 p = none → Q (.ref p) (mset μ1 p ds)) X
  | .ixc a n, ρ, μ, Q, X => wpE a ρ μ (fun d μ1 => ifD (selN d μ1 n) fun x => Q x μ1) X
  | .ix a i, ρ, μ, Q, X => wpE a ρ μ (fun d μ1 => wpE i ρ μ1 (fun j μ2 => asI j fun n => ifD (selI d μ2 n) fun x => Q x μ2) X) X
  | .slc a lo hi, ρ, μ, Q, X => wpE a ρ μ (fun d μ1 => wpO lo ρ μ1 (fun l μ2 => wpO hi ρ μ2 (fun h μ3 => slcD d l h μ3 Q) X) X) X
  | .call _ S a, ρ, μ, Q, X => wpA a ρ μ (fun ds μ1 => S ds μ1 Q X) X
  | .bl1 f a, ρ, μ, Q, X => wpE a ρ μ (fun d μ1 => b1D f d μ1 Q) X
  | .bl2 f a b, ρ, μ, Q, X => wpE a ρ μ (fun d1 μ1 => wpE b ρ μ1 (fun d2 μ2 => b2D f d1 d2 μ2 Q) X) X
  | .isi a t, ρ, μ, Q, X => wpE a ρ μ (fun d μ1 => ifB (isiD d t) fun b => Q (.bl b) μ1) X
  | .cmp o a b, ρ, μ, Q, X => wpE a ρ μ (fun d1 μ1 => wpE b ρ μ1 (fun d2 μ2 => cmpD o d1 d2 μ2 Q) X) X
  | .isN yes a, ρ, μ, Q, X => wpE a ρ μ (fun d μ1 => Q (.bl (isNon d == yes)) μ1) X
  | .bop isAnd a, ρ, μ, Q, X => wpL isAnd a ρ μ Q X
  | .nt a, ρ, μ, Q, X => wpE a ρ μ (fun d μ1 => ifB (truD d μ1) fun b => Q (.bl (!b)) μ1) X
  | .ife t a b, ρ, μ, Q, X => wpE t ρ μ (fun d μ1 => ifB (truD d μ1) fun c => if c = true then wpE a ρ μ1 Q X else wpE b ρ μ1 Q X) X
  | .callAt fl i a, ρ, μ, Q, X => wpE i ρ μ (fun d μ1 => asI d fun n => ∃ p, L2.atI fl n = some p ∧ wpA a ρ μ1 (fun ds μ2 => p.2 ds μ2 Q X) X) X
  | .bits a, ρ, μ, Q, X => wpE a ρ μ (fun d μ1 => asI d fun i => Q (.int (Builtin.Int.intBits i : Nat)) μ1) X
  | .rev a, ρ, μ, Q, X => wpE a ρ μ (fun d μ1 => revD d μ1 Q) X
  | .join s a, ρ, μ, Q, X => wpE a ρ μ (fun d μ1 => joinD s d μ1 Q) X
  | .split a s, ρ, μ, Q, X => wpE a ρ μ (fun d μ1 => splitD s d μ1 Q) X
  | .cat mu a b, ρ, μ, Q, X => wpE a ρ μ (fun d1 μ1 => wpE b ρ μ1 (fun d2 μ2 => catD mu d1 d2 μ2 Q) X) X
  | .setl a, ρ, μ, Q, X => wpE a ρ μ (fun d μ1 => setlD d μ1 Q) X
  | .lc mu tg it c e, ρ, μ, Q, X => wpI it ρ μ (fun ds μ1 => ds.length ≤ 100000 ∧
      lcW (fun d μ2 k => bindT tg d (wipeD ρ tg.slots) fun ρ1 => wpC c ρ1 μ2 (fun b μ3 => if b = true then wpE e ρ1 μ3 (fun y μ4 => k (some y) μ4) (fun _ _ => False) else k none μ3) (fun _ _ => False)) ds [] μ1 (lcEnd mu Q)) X
  | .isl a, ρ, μ, Q, X => wpE a ρ μ (fun d μ1 => match d with
      | .ref p => (μ1 p).isSome = true ∧ Q (.bl true) μ1
      | d => ifB (isiD d .list) fun b => Q (.bl b) μ1) X
  | .lcr mu tg a c e, ρ, μ, Q, X => wpE a ρ μ (fun d μ1 => match d with
      | .ref p => ifL (μ1 p) fun ds => ds.length ≤ 100000 ∧
        lcW (fun d μ2 k => μ2 p = some ds ∧ bindT tg d (wipeD ρ tg.slots) fun ρ1 => wpC c ρ1 μ2 (fun b μ3 => if b = true then wpE e ρ1 μ3 (fun y μ4 => k (some y) μ4) (fun _ _ => False) else k none μ3) (fun _ _ => False)) ds [] μ1 (fun acc μ' => μ' p = some ds ∧ lcEnd mu Q acc μ')
      | _ => False) X
  | .frz a, ρ, μ, Q, X => wpE a ρ μ (fun d μ1 => frzD d μ1 Q) X
def wpA : MA → Rho → Mu → (List D → Mu → Prop) → Xst → Prop
  | .nil, _, μ, Q, _ => Q [] μ
  | .cons e a, ρ, μ, Q, X => wpE e ρ μ (fun d μ1 => wpA a ρ μ1 (fun ds μ2 => Q (d :: ds) μ2) X) X
def wpO : MO → Rho → Mu → (Option Int → Mu → Prop) → Xst → Prop
  | .no, _, μ, Q, _ => Q none μ
  | .so e, ρ, μ, Q, X => wpE e ρ μ (fun d μ1 => asI d fun i => Q (some i) μ1) X
/-- a comprehension's test -/
def wpC : MO → Rho → Mu → (Bool → Mu → Prop) → Xst → Prop
  | .no, _, μ, Q, _ => Q true μ
  | .so e, ρ, μ, Q, X => wpE e ρ μ (fun d μ1 => ifB (truD d μ1) fun b => Q b μ1) X
def wpL : Bool → MA → Rho → Mu → Pst → Xst → Prop
  | _, .nil, _, _, _, _ => False
  | _, .cons e .nil, ρ, μ, Q, X => wpE e ρ μ Q X
  | k, .cons e (.cons e2 a), ρ, μ, Q, X => wpE e ρ μ (fun d μ1 => ifB (truD d μ1) fun b => if b = k then wpL k (.cons e2 a) ρ μ1 Q X else Q d μ1) X
def wpI : MI → Rho → Mu → (List D → Mu → Prop) → Xst → Prop
  | .seq e, ρ, μ, Q, X => wpE e ρ μ (fun d μ1 => ifL (itemsF d) fun ds => Q ds μ1) X
  | .rng1 a, ρ, μ, Q, X => wpE a ρ μ (fun d μ1 => asI d fun n => (-(2 ^ 62) ≤ n ∧ n < 2 ^ 62) ∧ Q (rngD 0 n.toNat) μ1) X
  | .rng2 a b, ρ, μ, Q, X => wpE a ρ μ (fun d μ1 => wpE b ρ μ1 (fun d2 μ2 => asI d fun m => asI d2 fun n => (-(2 ^ 62) ≤ m ∧ m < 2 ^ 62 ∧ -(2 ^ 62) ≤ n ∧ n < 2 ^ 62) ∧ Q (rngD m (n - m).toNat) μ2) X) X
  | .zip a b, ρ, μ, Q, X => wpE a ρ μ (fun d μ1 => wpE b ρ μ1 (fun d2 μ2 => match d, d2 with
      | .lst xs, .lst ys => Q (zipD xs ys) μ2
      | .tup xs, .tup ys => Q (zipD xs ys) μ2
      | _, _ => False) X) X
end
end

structure En where
  nx : Rho → Mu → Prop
  rt : Pst
  bk : Rho → Mu → Prop
  ct : Rho → Mu → Prop
  xx : Nat → Rho → Mu → Prop
def forW (f : D → Rho → Mu → (Rho → Mu → Prop) → Prop) : List D → Rho → Mu → (Rho → Mu → Prop) → Prop
  | [], ρ, μ, Q => Q ρ μ
  | d :: ds, ρ, μ, Q => f d ρ μ fun ρ' μ' => forW f ds ρ' μ' Q
def whW (f : Rho → Mu → (Rho → Mu → Prop) → Prop) : Nat → Rho → Mu → Prop
  | 0, _, _ => False
  | n + 1, ρ, μ => f ρ μ (whW f n)
section
variable [NC]
mutual
def wpS : MS → Rho → Mu → En → Prop
  | .pas, ρ, μ, K => K.nx ρ μ
  | .asg t e, ρ, μ, K => wpE e ρ μ (fun d μ1 => bindT t d ρ fun ρ1 => K.nx ρ1 μ1) (fun c μ1 => K.xx c ρ μ1)
  | .asgr is e, ρ, μ, K => wpE e ρ μ (fun d μ1 => ifL (itemsOf d μ1) fun ds => ifR (bindAll is ds ρ) fun ρ1 => K.nx ρ1 μ1) (fun c μ1 => K.xx c ρ μ1)
  | .par i j a b, ρ, μ, K => wpE a ρ μ (fun d1 μ1 => wpE b ρ μ1 (fun d2 μ2 => K.nx (rs (rs ρ i (some d1)) j (some d2)) μ2) (fun c μ1 => K.xx c ρ μ1)) (fun c μ1 => K.xx c ρ μ1)
  | .par3 i j l a b c, ρ, μ, K => wpE a ρ μ (fun d1 μ1 => wpE b ρ μ1 (fun d2 μ2 => wpE c ρ μ2 (fun d3 μ3 => K.nx (rs (rs (rs ρ i (some d1)) j (some d2)) l (some d3)) μ3) (fun c μ1 => K.xx c ρ μ1)) (fun c μ1 => K.xx c ρ μ1)) (fun c μ1 => K.xx c ρ μ1)
  | .setix o i e, ρ, μ, K => wpE e ρ μ (fun d μ1 => wpE o ρ μ1 (fun p μ2 => wpE i ρ μ2 (fun j μ3 => match p, j with
      | .ref a, .int n => ifL (μ3 a) fun ds => ∃ k, L2.ixN ds.length n = some k ∧ K.nx ρ (mset μ3 a (ds.set k d))
      | _, _ => False) (fun c μ1 => K.xx c ρ μ1)) (fun c μ1 => K.xx c ρ μ1)) (fun c μ1 => K.xx c ρ μ1)
  | .app o e, ρ, μ, K => wpE o ρ μ (fun p μ1 => match p with
      | .ref a => (μ1 a).isSome = true ∧ wpE e ρ μ1 (fun d μ2 => ifL (μ2 a) fun ds => ds.length < 100000 ∧ K.nx ρ (mset μ2 a (ds ++ [d]))) (fun c μ1 => K.xx c ρ μ1)
      | _ => False) (fun c μ1 => K.xx c ρ μ1)
  | .mth f o, ρ, μ, K => wpE o ρ μ (fun p μ1 => match p with
      | .ref a => ifL (μ1 a) fun ds => K.nx ρ (mset μ1 a (mthL f ds))
      | _ => False) (fun c μ1 => K.xx c ρ μ1)
  | .expr e, ρ, μ, K => wpE e ρ μ (fun _ μ1 => K.nx ρ μ1) (fun c μ1 => K.xx c ρ μ1)
  | .ret e, ρ, μ, K => wpE e ρ μ K.rt (fun c μ1 => K.xx c ρ μ1)
  | .retN, _, μ, K => K.rt .non μ
  | .ite t a b, ρ, μ, K => wpE t ρ μ (fun d μ1 => ifB (truD d μ1) fun c => if c = true then wpB a ρ μ1 K else wpB b ρ μ1 K) (fun c μ1 => K.xx c ρ μ1)
  | .loop t it b, ρ, μ, K => wpI it ρ μ (fun ds μ1 => forW (fun d ρ1 μ2 k => bindT t d ρ1 fun ρ2 => wpB b ρ2 μ2 { nx := k, ct := k, bk := K.nx, rt := K.rt, xx := K.xx }) ds ρ μ1 K.nx) (fun c μ1 => K.xx c ρ μ1)
  | .loopr t a b, ρ, μ, K => wpE a ρ μ (fun d μ1 => ifL (itemsOf d μ1) fun ds => forW (fun x ρ1 μ2 k => itemsOf d μ2 = some ds ∧ bindT t x ρ1 fun ρ2 => wpB b ρ2 μ2 { nx := k, ct := k, bk := K.nx, rt := K.rt, xx := K.xx }) ds ρ μ1 (fun ρ' μ' => itemsOf d μ' = some ds ∧ K.nx ρ' μ')) (fun c μ1 => K.xx c ρ μ1)
  | .whl t b, ρ, μ, K => ∃ n, whW (fun ρ1 μ1 k => wpE t ρ1 μ1 (fun d μ2 => ifB (truD d μ2) fun c => if c = true then wpB b ρ1 μ2 { nx := k, ct := k, bk := K.nx, rt := K.rt, xx := K.xx } else K.nx ρ1 μ2) (fun c μ2 => K.xx c ρ1 μ2)) n ρ μ
  | .brk, ρ, μ, K => K.bk ρ μ
  | .cnt, ρ, μ, K => K.ct ρ μ
  | .rais c, ρ, μ, K => K.xx c ρ μ
  | .try1 c b i j, ρ, μ, K => wpB b ρ μ { K with xx := fun c' ρ1 μ1 => c' < NC.n ∧ if subC c' c = true then K.nx (rs (rs ρ1 j (some (.exc c'))) i none) μ1 else K.xx c' ρ1 μ1 }
def wpB : MB → Rho → Mu → En → Prop
  | .nil, ρ, μ, K => K.nx ρ μ
  | .cons s b, ρ, μ, K => wpS s ρ μ { K with nx := fun ρ1 μ1 => wpB b ρ1 μ1 K }
end
end
end Dl

/-! The data layer, part B: data in the heap. -/
namespace Dl
open PySem L2

/-- a caught error of the class at C -/
def ExI (C a : Addr) : HO := .ext fun h => ∃ (oe : Obj) (vs : Array Value), h.get? a = some oe ∧ Zc (.ref C) none oe ∧ oe.data = .fields vs

mutual
inductive Dx (K : PySem.W.Frag) (CA : Nat → Addr) (F : Hp) : V → D → Prop
  | non : Dx K CA F .non .non
  | bl (b : Bool) : Dx K CA F (.bl b) (.bl b)
  | int (i : Int) : Dx K CA F (.int i) (.int i)
  | str (x : Str) : Dx K CA F (.str x) (.str x)
  | tup {a : Addr} {vs : List V} {ds : List D} : SqT K F a vs → DxA K CA F vs ds → Dx K CA F (.ref a) (.tup ds)
  | lst {a : Addr} {vs : List V} {ds : List D} : SqL K F a vs → DxA K CA F vs ds → Dx K CA F (.ref a) (.lst ds)
  | exc {a : Addr} {c : Nat} : F a = some (ExI (CA c) a) → Dx K CA F (.ref a) (.exc c)
  | ref (a : Addr) : Dx K CA F (.ref a) (.ref a)
inductive DxA (K : PySem.W.Frag) (CA : Nat → Addr) (F : Hp) : List V → List D → Prop
  | nil : DxA K CA F [] []
  | cons {v : V} {vs : List V} {d : D} {ds : List D} : Dx K CA F v d → DxA K CA F vs ds → DxA K CA F (v :: vs) (d :: ds)
end
theorem seqT {K : PySem.W.Frag} {H H' : Hp} {a : Addr} {xs : List V} (e : Same H H') (h : SqT K H a xs) : SqT K H' a xs := by
  rcases h with (h | ⟨o, h⟩) | h
  · exact .inl (.inl (e _ _ h))
  · exact .inl (.inr ⟨o, e _ _ h⟩)
  · exact .inr h
section
variable {K : PySem.W.Frag} {CA : Nat → Addr} {F F' F2 R H H' : Hp} {μ : Mu}
mutual
theorem Dx.mono (s : Same F F') : ∀ {v : V} {d : D}, Dx K CA F v d → Dx K CA F' v d
  | _, _, .non => .non
  | _, _, .bl b => .bl b
  | _, _, .int b => .int b
  | _, _, .str b => .str b
  | _, _, .tup h a => .tup (seqT s h) (DxA.mono s a)
  | _, _, .lst h a => .lst (s.seq h) (DxA.mono s a)
  | _, _, .exc h => .exc (s _ _ h)
  | _, _, .ref a => .ref a
theorem DxA.mono (s : Same F F') : ∀ {v : List V} {d : List D}, DxA K CA F v d → DxA K CA F' v d
  | _, _, .nil => .nil
  | _, _, .cons h a => .cons (Dx.mono s h) (DxA.mono s a)
end
theorem DxA.length : ∀ {vs : List V} {ds : List D}, DxA K CA F vs ds → vs.length = ds.length
  | _, _, .nil => rfl
  | _, _, .cons _ t => by simp [DxA.length t]
theorem DxA.get : ∀ {vs : List V} {ds : List D} {i : Nat} {d : D}, DxA K CA F vs ds → ds[i]? = some d → ∃ v, vs[i]? = some v ∧ Dx K CA F v d
  | _, _, _, _, .nil, e => by simp at e
  | _, _, 0, _, .cons h _, e => by simp at e; subst e; exact ⟨_, rfl, h⟩
  | _, _, i + 1, d, .cons _ t, e => by
    obtain ⟨v, h1, h2⟩ := DxA.get (i := i) (d := d) t (by simpa using e)
    exact ⟨v, by simpa using h1, h2⟩
theorem DxA.append : ∀ {vs ws : List V} {ds es : List D}, DxA K CA F vs ds → DxA K CA F ws es → DxA K CA F (vs ++ ws) (ds ++ es)
  | _, _, _, _, .nil, h => h
  | _, _, _, _, .cons a b, h => .cons a (DxA.append b h)
theorem DxA.reverse : ∀ {vs : List V} {ds : List D}, DxA K CA F vs ds → DxA K CA F vs.reverse ds.reverse
  | [], [], _ => .nil
  | _ :: _, _ :: _, .cons a b => by rw [List.reverse_cons, List.reverse_cons]; exact b.reverse.append (.cons a .nil)
theorem DxA.drop : ∀ {vs : List V} {ds : List D} (n : Nat), DxA K CA F vs ds → DxA K CA F (vs.drop n) (ds.drop n)
  | _, _, 0, h => h
  | _, _, _ + 1, .nil => .nil
  | _, _, n + 1, .cons _ t => DxA.drop n t
theorem DxA.take : ∀ {vs : List V} {ds : List D} (n : Nat), DxA K CA F vs ds → DxA K CA F (vs.take n) (ds.take n)
  | _, _, 0, _ => .nil
  | _, _, _ + 1, .nil => .nil
  | _, _, n + 1, .cons a t => .cons a (DxA.take n t)
theorem DxA.set {v : V} {d : D} (h : Dx K CA F v d) : ∀ {vs : List V} {ds : List D} (n : Nat), DxA K CA F vs ds → DxA K CA F (vs.set n v) (ds.set n d)
  | _, _, _, .nil => .nil
  | _, _, 0, .cons _ t => .cons h t
  | _, _, n + 1, .cons a t => .cons a (DxA.set h n t)
theorem DxA.cut {vs : List V} {ds : List D} (h : DxA K CA F vs ds) (lo hi : Option Int) : DxA K CA F (cutV vs lo hi) (cutD ds lo hi) := by
  unfold cutV cutD
  rw [h.length]
  exact (h.drop _).take _
theorem DxA.ints : ∀ {vs : List V} {ds : List D} {ns : List Int}, DxA K CA F vs ds → intsD ds = some ns → vs = ns.map V.int
  | _, _, ns, .nil, e => by
    have e' : ([] : List Int) = ns := Option.some.inj e
    subst e'; rfl
  | _, _, ns, .cons h t, e => by
    cases h with
    | int i =>
      obtain ⟨ms, e1, e2⟩ := Option.map_eq_some_iff.mp e
      subst e2
      rw [DxA.ints t e1]; rfl
    | _ => cases e
theorem DxA.bls : ∀ {vs : List V} {ds : List D} {ns : List Bool}, DxA K CA F vs ds → blsD ds = some ns → vs = ns.map V.bl
  | _, _, ns, .nil, e => by
    have e' : ([] : List Bool) = ns := Option.some.inj e
    subst e'; rfl
  | _, _, ns, .cons h t, e => by
    cases h with
    | bl i =>
      obtain ⟨ms, e1, e2⟩ := Option.map_eq_some_iff.mp e
      subst e2
      rw [DxA.bls t e1]; rfl
    | _ => cases e
theorem DxA.of_ints (ns : List Int) : DxA K CA F (ns.map V.int) (ns.map D.int) := by
  induction ns with
  | nil => exact .nil
  | cons n r ih => exact .cons (.int n) ih

/-! ### data that == looks at -/
mutual
theorem Dx.dp : ∀ {v : V} {d : D} (n : Nat), Dx K CA F v d → fit n d = true → Dp K F v d.py
  | _, _, _, .non, _ => .non
  | _, _, _, .bl b, _ => .bl b
  | _, _, _, .int b, _ => .int b
  | _, _, _, .str b, _ => .str b
  | _, _, 0, .tup h a, e => by simp [fit] at e
  | _, _, n + 1, .tup h a, e => by
    simp only [fit] at e
    simp only [D.py]
    exact .tup h (DxA.dp n a e)
  | _, _, 0, .lst h a, e => by simp [fit] at e
  | _, _, n + 1, .lst h a, e => by
    simp only [fit] at e
    simp only [D.py]
    exact .lst h (DxA.dp n a e)
  | _, _, n, .exc h, e => by cases n <;> simp [fit] at e
  | _, _, n, .ref h, e => by cases n <;> simp [fit] at e
theorem DxA.dp : ∀ {v : List V} {d : List D} (n : Nat), DxA K CA F v d → d.all (fit n) = true → DpAll K F v (pys d)
  | _, _, _, .nil, _ => by simp only [pys]; exact .nil
  | _, _, n, .cons h a, e => by
    simp only [List.all_cons, Bool.and_eq_true] at e
    simp only [pys]
    exact .cons (Dx.dp n h e.1) (DxA.dp n a e.2)
end
theorem fit_lay (n : Nat) : ∀ d : D, fit n d = true → (d.py).canLay0 = true ∧ (d.py).depth ≤ n := by
  have key : ∀ (n : Nat), (∀ d : D, fit n d = true → (d.py).canLay0 = true ∧ (d.py).depth ≤ n) → ∀ xs : List D, xs.all (fit n) = true → PyData.canLayAll0 (pys xs) = true ∧ PyData.depthAll (pys xs) ≤ n := by
    intro n ih xs
    induction xs with
    | nil => intro _; simp [pys, PyData.canLayAll0, PyData.depthAll]
    | cons x r ihr =>
      intro e
      simp only [List.all_cons, Bool.and_eq_true] at e
      obtain ⟨a1, a2⟩ := ih x e.1
      obtain ⟨b1, b2⟩ := ihr e.2
      simp only [pys, PyData.canLayAll0, PyData.depthAll, a1, b1, Bool.and_self, true_and]
      omega
  induction n with
  | zero =>
    intro d e
    cases d <;> simp [fit] at e <;> simp [D.py, PyData.canLay0, PyData.depth, e]
  | succ n ih =>
    intro d e
    cases d with
    | tup xs =>
      simp only [fit] at e
      obtain ⟨a, b⟩ := key n ih xs e
      simp only [D.py, PyData.canLay0, PyData.depth, a, true_and]
      omega
    | lst xs =>
      simp only [fit] at e
      obtain ⟨a, b⟩ := key n ih xs e
      simp only [D.py, PyData.canLay0, PyData.depth, a, true_and]
      omega
    | exc c => simp [fit] at e
    | ref c => simp [fit] at e
    | str c => simp only [fit] at e; simp [D.py, PyData.canLay0, PyData.depth, e]
    | _ => simp [D.py, PyData.canLay0, PyData.depth]
theorem fit_shaped {d : D} (h : fit 60 d = true) : SeqAt.shaped d.py = true := by
  obtain ⟨a, b⟩ := fit_lay 60 d h
  unfold SeqAt.shaped
  rw [a, Bool.true_and]
  exact decide_eq_true (by omega)

/-! ### the heap's parts: F what is told as data, R what is hidden, the store -/
structure Hs (K : PySem.W.Frag) (CA : Nat → Addr) (F R : Hp) (μ : Mu) (H : Hp) : Prop where
  f : Same F H
  r : Same R H
  fr : ∀ a o, F a = some o → R a = none
  m : ∀ a ds, μ a = some ds → F a = none ∧ R a = none ∧ ∃ vs, H a = some (.lst vs) ∧ DxA K CA F vs ds
theorem same_new {p : Addr} {o : HO} (h : F p = none) : Same F (upd F p o) := fun a u e => by
  rw [upd_ne (ne_of_none e h)]; exact e
theorem Hs.ff (s : Hs K CA F R μ H) {p : Addr} (h : H p = none) : F p = none := s.f.free h
theorem Hs.rf (s : Hs K CA F R μ H) {p : Addr} (h : H p = none) : R p = none := s.r.free h
theorem Hs.mf (s : Hs K CA F R μ H) {p : Addr} (h : H p = none) : μ p = none := by
  cases e : μ p with
  | none => rfl
  | some ds =>
    obtain ⟨_, _, vs, z, _⟩ := s.m p ds e
    rw [h] at z; cases z
theorem same_upd {p : Addr} {o : HO} (s : Same F H) (h : F p = none) : Same F (upd H p o) := fun a u e => by
  rw [upd_ne (ne_of_none e h)]; exact s a u e
theorem Hs.new (s : Hs K CA F R μ H) {p : Addr} {o : HO} (h : H p = none) : Hs K CA (upd F p o) R μ (upd H p o) where
  f := fun a u e => by
    by_cases q : a = p
    · subst q; rw [upd_same] at e ⊢; exact e
    · rw [upd_ne q] at e ⊢; exact s.f a u e
  r := same_upd s.r (s.rf h)
  fr := fun a u e => by
    by_cases q : a = p
    · subst q; exact s.rf h
    · rw [upd_ne q] at e; exact s.fr a u e
  m := fun a ds e => by
    obtain ⟨h1, h2, vs, h3, h4⟩ := s.m a ds e
    have q : a ≠ p := ne_of_none h3 h
    exact ⟨by rw [upd_ne q]; exact h1, h2, vs, by rw [upd_ne q]; exact h3, h4.mono (same_new (s.ff h))⟩
theorem Hs.newM (s : Hs K CA F R μ H) {p : Addr} {vs : List V} {ds : List D} (h : H p = none) (x : DxA K CA F vs ds) : Hs K CA F R (mset μ p ds) (upd H p (.lst vs)) where
  f := same_upd s.f (s.ff h)
  r := same_upd s.r (s.rf h)
  fr := s.fr
  m := fun a es e => by
    by_cases q : a = p
    · subst q
      rw [mset_same] at e; cases e
      exact ⟨s.ff h, s.rf h, vs, upd_same, x⟩
    · rw [mset_ne _ _ q] at e
      obtain ⟨h1, h2, us, h3, h4⟩ := s.m a es e
      exact ⟨h1, h2, us, by rw [upd_ne q]; exact h3, h4⟩
theorem Hs.set (s : Hs K CA F R μ H) {p : Addr} {vs : List V} {ds es : List D} (h : μ p = some es) (x : DxA K CA F vs ds) : Hs K CA F R (mset μ p ds) (upd H p (.lst vs)) := by
  obtain ⟨f1, r1, us, hu, _⟩ := s.m p es h
  refine ⟨same_upd s.f f1, same_upd s.r r1, s.fr, fun a ds' e => ?_⟩
  by_cases q : a = p
  · subst q
    rw [mset_same] at e; cases e
    exact ⟨f1, r1, vs, upd_same, x⟩
  · rw [mset_ne _ _ q] at e
    obtain ⟨h1, h2, us, h3, h4⟩ := s.m a ds' e
    exact ⟨h1, h2, us, by rw [upd_ne q]; exact h3, h4⟩
theorem Hs.freeze (s : Hs K CA F R μ H) {p : Addr} {ds : List D} (h : μ p = some ds) : ∃ vs, Hs K CA (upd F p (.lst vs)) R (mdel μ p) H ∧ DxA K CA F vs ds ∧ F p = none := by
  obtain ⟨f1, r1, us, hu, x⟩ := s.m p ds h
  refine ⟨us, ⟨fun a u e => ?_, s.r, fun a u e => ?_, fun a es e => ?_⟩, x, f1⟩
  · by_cases q : a = p
    · subst q; rw [upd_same] at e; cases e; exact hu
    · rw [upd_ne q] at e; exact s.f a u e
  · by_cases q : a = p
    · subst q; exact r1
    · rw [upd_ne q] at e; exact s.fr a u e
  · have q : a ≠ p := fun z => by subst z; rw [mdel_same] at e; cases e
    rw [mdel_ne _ q] at e
    obtain ⟨h1, h2, vs, h3, h4⟩ := s.m a es e
    exact ⟨by rw [upd_ne q]; exact h1, h2, vs, h3, h4.mono (same_new f1)⟩
/-- a hidden new list -/
theorem Hs.hide (s : Hs K CA F R μ H) {p : Addr} {vs : List V} (h : H p = none) : Hs K CA F (upd R p (.lst vs)) μ (upd H p (.lst vs)) where
  f := same_upd s.f (s.ff h)
  r := fun a u e => by
    by_cases q : a = p
    · subst q; rw [upd_same] at e ⊢; exact e
    · rw [upd_ne q] at e ⊢; exact s.r a u e
  fr := fun a u e => by
    have q : a ≠ p := ne_of_none (s.f a u e) h
    rw [upd_ne q]; exact s.fr a u e
  m := fun a ds e => by
    obtain ⟨h1, h2, us, h3, h4⟩ := s.m a ds e
    have q : a ≠ p := ne_of_none h3 h
    exact ⟨h1, by rw [upd_ne q]; exact h2, us, by rw [upd_ne q]; exact h3, h4⟩
theorem Hs.hset {p : Addr} {vs ws : List V} (s : Hs K CA F (upd R p (.lst vs)) μ H) : Hs K CA F (upd R p (.lst ws)) μ (upd H p (.lst ws)) := by
  have fp : F p = none := by
    cases e : F p with
    | none => rfl
    | some o =>
      have z := s.fr p o e
      rw [upd_same] at z; cases z
  refine ⟨same_upd s.f fp, fun a u e => ?_, fun a u e => ?_, fun a ds e => ?_⟩
  · by_cases q : a = p
    · subst q; rw [upd_same] at e ⊢; exact e
    · rw [upd_ne q] at e ⊢
      exact s.r a u (by rw [upd_ne q]; exact e)
  · have q : a ≠ p := fun z => by subst z; rw [fp] at e; cases e
    have z := s.fr a u e
    rw [upd_ne q] at z ⊢; exact z
  · obtain ⟨h1, h2, us, h3, h4⟩ := s.m a ds e
    have q : a ≠ p := fun z => by subst z; rw [upd_same] at h2; cases h2
    rw [upd_ne q] at h2
    exact ⟨h1, by rw [upd_ne q]; exact h2, us, by rw [upd_ne q]; exact h3, h4⟩
/-- the hidden list becomes one of the store -/
theorem Hs.bareM {p : Addr} {vs : List V} {ds : List D} (s : Hs K CA F (upd R p (.lst vs)) μ H) (hR : R p = none) (x : DxA K CA F vs ds) : Hs K CA F R (mset μ p ds) H ∧ μ p = none := by
  have fp : F p = none := by
    cases e : F p with
    | none => rfl
    | some o =>
      have z := s.fr p o e
      rw [upd_same] at z; cases z
  have hp : H p = some (.lst vs) := s.r p _ upd_same
  refine ⟨⟨s.f, fun a u e => ?_, fun a u e => ?_, fun a es e => ?_⟩, ?_⟩
  · have q : a ≠ p := fun z => by subst z; rw [hR] at e; cases e
    exact s.r a u (by rw [upd_ne q]; exact e)
  · have q : a ≠ p := fun z => by subst z; rw [fp] at e; cases e
    have z := s.fr a u e
    rw [upd_ne q] at z; exact z
  · by_cases q : a = p
    · subst q
      rw [mset_same] at e; cases e
      exact ⟨fp, hR, vs, hp, x⟩
    · rw [mset_ne _ _ q] at e
      obtain ⟨h1, h2, us, h3, h4⟩ := s.m a es e
      rw [upd_ne q] at h2
      exact ⟨h1, h2, us, h3, h4⟩
  · cases e : μ p with
    | none => rfl
    | some es =>
      obtain ⟨h1, h2, us, h3, h4⟩ := s.m p es e
      rw [upd_same] at h2; cases h2
theorem Hs.bare {p : Addr} {vs : List V} (s : Hs K CA F (upd R p (.lst vs)) μ H) (hR : R p = none) : Hs K CA (upd F p (.lst vs)) R μ H ∧ F p = none ∧ H p = some (.lst vs) := by
  have fp : F p = none := by
    cases e : F p with
    | none => rfl
    | some o =>
      have z := s.fr p o e
      rw [upd_same] at z; cases z
  have hp : H p = some (.lst vs) := s.r p _ upd_same
  refine ⟨⟨fun a u e => ?_, fun a u e => ?_, fun a u e => ?_, fun a ds e => ?_⟩, fp, hp⟩
  · by_cases q : a = p
    · subst q; rw [upd_same] at e; cases e; exact hp
    · rw [upd_ne q] at e; exact s.f a u e
  · have q : a ≠ p := fun z => by subst z; rw [hR] at e; cases e
    exact s.r a u (by rw [upd_ne q]; exact e)
  · by_cases q : a = p
    · subst q; exact hR
    · rw [upd_ne q] at e
      have z := s.fr a u e
      rw [upd_ne q] at z; exact z
  · obtain ⟨h1, h2, us, h3, h4⟩ := s.m a ds e
    have q : a ≠ p := fun z => by subst z; rw [upd_same] at h2; cases h2
    rw [upd_ne q] at h2
    exact ⟨by rw [upd_ne q]; exact h1, h2, us, h3, h4.mono (same_new fp)⟩

/-! ### slots -/
structure Rp (K : PySem.W.Frag) (CA : Nat → Addr) (F : Hp) (ρ : Rho) (σ : L2.St) : Prop where
  len : ρ.length = σ.length
  at_ : ∀ i d, rg ρ i = some d → ∃ v, σ[i]? = some (some v) ∧ Dx K CA F v d
theorem Rp.mono {ρ : Rho} {σ : L2.St} (r : Rp K CA F ρ σ) (s : Same F F') : Rp K CA F' ρ σ := ⟨r.len, fun i d e => by
  obtain ⟨v, h1, h2⟩ := r.at_ i d e
  exact ⟨v, h1, h2.mono s⟩⟩
theorem rs_length : ∀ (ρ : Rho) (i : Nat) (v : Option D), (rs ρ i v).length = ρ.length
  | [], _, _ => rfl
  | _ :: _, 0, _ => rfl
  | _ :: r, i + 1, v => by simp [rs, rs_length r i v]
theorem rg_rs_same : ∀ {ρ : Rho} {i : Nat} {v : Option D} {d : D}, rg (rs ρ i v) i = some d → v = some d ∧ i < ρ.length
  | [], _, _, _, e => by simp [rs, rg] at e
  | _ :: _, 0, _, _, e => ⟨e, by simp⟩
  | _ :: r, i + 1, v, d, e => by
    obtain ⟨h1, h2⟩ := rg_rs_same (ρ := r) (i := i) (v := v) (d := d) e
    exact ⟨h1, by simp; omega⟩
theorem rg_rs_ne : ∀ {ρ : Rho} {i j : Nat} {v : Option D}, j ≠ i → rg (rs ρ i v) j = rg ρ j
  | [], _, _, _, _ => rfl
  | _ :: _, 0, 0, _, h => absurd rfl h
  | _ :: _, 0, j + 1, _, _ => rfl
  | _ :: _, i + 1, 0, _, _ => rfl
  | _ :: r, i + 1, j + 1, v, h => rg_rs_ne (ρ := r) (i := i) (j := j) (v := v) (by omega)
theorem Rp.set {ρ : Rho} {σ : L2.St} {v : V} {d : D} (r : Rp K CA F ρ σ) (i : Nat) (x : Dx K CA F v d) : Rp K CA F (rs ρ i (some d)) (σ.set i (some v)) where
  len := by rw [rs_length, List.length_set]; exact r.len
  at_ := fun j e h => by
    by_cases q : j = i
    · subst q
      obtain ⟨h1, h2⟩ := rg_rs_same h
      cases h1
      exact ⟨v, by rw [List.getElem?_set_self (by rw [← r.len]; exact h2)], x⟩
    · rw [rg_rs_ne q] at h
      obtain ⟨u, h1, h2⟩ := r.at_ j e h
      exact ⟨u, by rw [List.getElem?_set_ne (Ne.symm q)]; exact h1, h2⟩
theorem Rp.unset {ρ : Rho} {σ : L2.St} (r : Rp K CA F ρ σ) (i : Nat) : Rp K CA F (rs ρ i none) (σ.set i none) where
  len := by rw [rs_length, List.length_set]; exact r.len
  at_ := fun j e h => by
    by_cases q : j = i
    · subst q
      obtain ⟨h1, h2⟩ := rg_rs_same h
      cases h1
    · rw [rg_rs_ne q] at h
      obtain ⟨u, h1, h2⟩ := r.at_ j e h
      exact ⟨u, by rw [List.getElem?_set_ne (Ne.symm q)]; exact h1, h2⟩
theorem Rp.wipe {ρ : Rho} {σ : L2.St} (r : Rp K CA F ρ σ) : ∀ is : List Nat, Rp K CA F (wipeD ρ is) (L2.wipe σ is)
  | [] => r
  | i :: is => by
    unfold wipeD L2.wipe
    exact (Rp.wipe r is).unset i
theorem bindAll_ok : ∀ {is : List Nat} {ds : List D} {vs : List V} {ρ ρ' : Rho} {σ : L2.St}, bindAll is ds ρ = some ρ' → DxA K CA F vs ds → Rp K CA F ρ σ →
    is.length = vs.length ∧ Rp K CA F ρ' (((is.zip vs).foldl (fun s p => s.set p.1 (some p.2)) σ : L2.St))
  | [], [], _, ρ, ρ', σ, e, .nil, r => by
    have e' : ρ = ρ' := Option.some.inj e
    subst e'
    exact ⟨rfl, r⟩
  | i :: is, d :: ds, v :: vs, ρ, ρ', σ, e, .cons x t, r => by
    obtain ⟨h1, h2⟩ := bindAll_ok (is := is) (ds := ds) (vs := vs) (ρ := rs ρ i (some d)) (ρ' := ρ') (σ := σ.set i (some v)) e t (r.set i x)
    exact ⟨by simp [h1], h2⟩
  | [], _ :: _, _, _, _, _, e, _, _ => by cases e
  | _ :: _, [], _, _, _, _, e, _, _ => by cases e
end
end Dl

/-! The data layer, part Ba: the promise of a def that is called while no repr stands below (so that str of data may be told). -/
namespace Dl
open PySem L2 PyProof.Rows PySem.Spec
/-- as FnOk, and nothing is being shown -/
structure FnG (P : Program) (w : World) (K : PySem.W.Frag) (mg : Str → Option Value) (base : Heap) (CX : CXT) (k : Nat) (f : Addr) (fd : FuncData) (ps : List Str) (sp : Sp) : Prop where
  many : ∀ ⦃vs H Q E⦄, sp vs H Q E → vs.length = ps.length
  goes : ∀ ⦃A : Around⦄ ⦃outer : List Env⦄ ⦃s : Shared⦄ ⦃H : Hp⦄ ⦃args : Args⦄ ⦃us : List Value⦄ ⦃vs : List V⦄ ⦃Q : VK⦄ ⦃E : XK⦄, A.guards = some [] → Room k A → Env0 P w K mg base A outer s H →
    BindsTo s fd args (ps.zip us) → Vals vs us → sp vs H Q E → codeAny (model P w) A (.call (.ref f) args) (CR CX outer P w H s Q E) s
section
variable {P : Program} {w : World} {K : PySem.W.Frag} {mg : Str → Option Value} {base : Heap} {CX : CXT} {j k : Nat} {f : Addr} {fd : FuncData} {ps : List Str} {sp : Sp}
theorem FnG.mono (G : FnG P w K mg base CX j f fd ps sp) (l : j ≤ k) : FnG P w K mg base CX k f fd ps sp :=
  ⟨G.many, fun _ _ _ _ _ _ _ _ _ g hr => G.goes g (hr.mono l)⟩
end
/-- what a body's end says of the call's end -/
theorem ends_of {CX : CXT} {P : Program} {w : World} {K : PySem.W.Frag} {mg : Str → Option Value} {base : Heap} {N : List Str} {qual : Str} {scope : Scope} {f : Addr} {cdv : Value} {A : Around} {outer : List Env} {s s' : Shared} {H H' : Hp} {E : XK} {Q : VK} {σ' : L2.St} {v : V} {u : Value}
    (J : Inv (cxOf CX P w K mg base N qual scope f cdv A outer s H E) [] σ' H' s') (rv : RelV v u) (q : Q v H') : CE outer P w H s Q u s' := ⟨v, H', J.os, J.bare, J.base, J.hok, rv, q⟩
theorem def_g {x qual : Str} {st : Stmt} {f : Addr} {fd : FuncData} {CX : CXT} {P : Program} {w : World} {K : PySem.W.Frag} {mg : Str → Option Value} {base : Heap} {N ps : List Str} {k : Nat} {sp : Sp} (Fu : Fun K x qual st f fd) (sc : FnScope N ps (defScope st)) (many : ∀ ⦃vs H Q E⦄, sp vs H Q E → vs.length = ps.length)
    (body : ∀ (cdv : Value) (A : Around) (outer : List Env) (s : Shared) (H : Hp) (vs : List V) (Q : VK) (E : XK), A.guards = some [] → Room k (A.deeper (envOfC qual (defScope st) s.heap.objs.size f cdv)) → sp vs H Q E →
      ∃ t, PSs (cxOf CX P w K mg base N qual (defScope st) f cdv A outer s H E) (defBody st) t ∧ t { nx := fun _ H' => Q .non H', rt := Q } (start N vs) H) : FnG P w K mg base CX (k + 1) f fd ps sp := by
  obtain ⟨oc, od, kV, doc, pm, an, cdv, ct, osl, rfl, lk, hcd⟩ := Fu.ex
  refine ⟨many, ?_⟩
  intro A outer s H args us vs Q E gu hr e0 bi rv hsp
  have stay : ∀ b o, base.get? b = some o → s.heap.get? b = some o := fun b o e => (e0.bs b o e).1
  have inK : K.In s.heap := e0.mod.kin.keeps stay
  have kinds : ∀ z ∈ ps.zip us, (defScope st).names.lookup z.1 = some .local ∨ ((defScope st).names.lookup z.1 = some .cell ∧ ((cellsFrom (s.heap.objs.size + 1) (defScope st).names []).lookup z.1).isSome = true) := by
    intro z hz
    obtain ⟨n, v⟩ := z
    exact (sc.par n (List.of_mem_zip hz).1).imp id fun e => ⟨e, PySem.W.cellsFrom_some _ _ _ (.inl e)⟩
  refine codeAny_call_function hr.depth (inK _ _ lk) rfl sc.co sc.gen rfl (PySem.W.codeRec_of inK hcd) (bi _ _ _ _ (wpAny_newFunctionEnv_cells sc.kind kinds fun en ee s1 ic => ?_))
  subst ee
  obtain ⟨t, pt, tq⟩ := body cdv A outer s H vs Q E gu (hr.deeper _) hsp
  refine ⟨(e0.mod.nolimit.keeps stay).keeps ic.toInCall.keep, codeAny_func (wpAny_mono (pt.run [] s1 (start N vs) H _ (inv_start sc hr.hd e0 (many hsp) rv ic) tq) ?_ fun _ _ z => z)⟩
  rintro (_ | _ | u | _) s' z
  all_goals first
    | (obtain ⟨v, σ', H', J, r, q⟩ := z; exact ends_of J r q)
    | (obtain ⟨σ', H', J, q⟩ := z; exact ends_of (v := V.non) (u := Value.none) J rfl q)
    | (obtain ⟨_, _, _, q⟩ := z; exact q.elim)
section
variable {X : Cx} {CX : CXT} {k : Nat} {f : Addr} {fd : FuncData} {ps : List Str} {sp : Sp} {E : L2.St → XK} {x : Str} {p pos : Pos} {e : Expr} {es : List Expr} {t : TA}
theorem goes_g {pins : List (Addr × Obj)} {σ : L2.St} {H : Hp} {s : Shared} {Q : VK} {us : List Value} {vs : List V} (G : FnG X.prog X.w X.K X.mg X.base CX k f fd ps sp) (gu : X.A.guards = some []) (hr : Room k X.A) (bi : Binds X.K fd ps []) (px : PassesAt CX X σ (E σ)) (I : Inv X pins σ H s)
    (rv : Vals vs us) (q : sp vs H Q (E σ)) : wpAny (model X.prog X.w) X.A (call (.ref f) us) (EP X pins σ Q) X.xe s := by
  have bi2 : BindsTo s fd ⟨us, []⟩ (ps.zip us) := by
    have := bi s us I.kIn (by rw [List.append_nil, ← rv.length]; exact G.many q)
    rwa [List.append_nil] at this
  refine wpAny_call (codeAny_mono (G.goes gu hr I.env0 bi2 rv q) ?_)
  rintro (er | fl) s' z
  · exact px pins H s er s' I z
  · cases fl <;> first | exact False.elim z | exact I.after z
theorem pe_g (G : FnG X.prog X.w X.K X.mg X.base CX k f fd ps sp) (gu : X.A.guards = some []) (hr : Room k X.A) (hg : Gl X x) (hm : X.mg x = some (.ref f)) (hk : PySem.W.keepIn X.K (.ref f) = true) (bi : Binds X.K fd ps []) (px : ∀ σ, PassesAt CX X σ (E σ)) (pa : PA X (e :: es) t)
    (hdb : (x == ("__debug__" : Str)) = false) (st : starEach (e :: es) X.env = (false, eval e X.env) :: starEach es X.env) (no : (backTo pos (starEach es X.env)).any (·.1) = false) : PE X (.Call (.Name x p) (e :: es) [] pos) (tCallS sp E t) :=
  ⟨fun pins s σ H _ I h => wpAny_Call_Name_kw (ld_glob I hg hm (PySem.W.callWith_K (h₀ := X.base) I.ok.mod.kin hk (thn (pa.run pos pins s σ H _ I h) fun _ _ ⟨_, _, I1, rv, q⟩ => ⟨I1.kIn, goes_g G gu hr bi (px σ) I1 rv q⟩) st no) hdb)⟩
/-- a call of what an expression tells, a def -/
def tCallF (X : Cx) (CX : CXT) (k : Nat) (E : L2.St → XK) (tf : TE) (t : TA) : TE := fun σ H Q => tf σ H fun y H1 => ∃ f fd ps sp, y = .ref f ∧ FnG X.prog X.w X.K X.mg X.base CX k f fd ps sp ∧ PySem.W.keepIn X.K (.ref f) = true ∧ Binds X.K fd ps [] ∧ t σ H1 fun vs H2 => sp vs H2 Q (E σ)
theorem pe_fv {fe : Expr} {tf : TE} (hf : PE X fe tf) (gu : X.A.guards = some []) (hr : Room k X.A) (px : ∀ σ, PassesAt CX X σ (E σ)) (pa : PA X (e :: es) t)
    (ht : eval (.Call fe (e :: es) [] pos) X.env = (do callWith pos (← eval fe X.env) [] (backTo pos (starEach (e :: es) X.env)) (backToKw pos (keywordEach [] X.env))))
    (st : starEach (e :: es) X.env = (false, eval e X.env) :: starEach es X.env) (no : (backTo pos (starEach es X.env)).any (·.1) = false) : PE X (.Call fe (e :: es) [] pos) (tCallF X CX k E tf t) := by
  refine ⟨fun pins s σ H _ I h => Call_ (thn (hf.run pins s σ H _ I h) ?_) ht⟩
  rintro u s1 ⟨y, H1, I1, ry, f, fd, ps, sp, rfl, G, kp, bi, q⟩
  cases (show u = Value.ref f from ry)
  exact PySem.W.callWith_K (h₀ := X.base) I.ok.mod.kin kp (thn (pa.run pos pins s1 σ H1 _ I1 q) fun _ _ ⟨_, _, I2, rv, q2⟩ => ⟨I2.kIn, goes_g G gu hr bi (px σ) I2 rv q2⟩) st no
end
end Dl

/-! The data layer, part C: readings, the match of a text with the small syntax. -/
namespace Dl
open PySem L2
variable [NC]

/-! ### readings -/
structure Sx (K : PySem.W.Frag) (CA : Nat → Addr) (W : WX) (σ : L2.St) (F R : Hp) (ρ : Rho) (μ : Mu) (X : Xst) (H : Hp) : Prop where
  hs : Hs K CA F R μ H
  rp : Rp K CA F ρ σ
  xx : ∀ c μ' F' H', X c μ' → Same F F' → Hs K CA F' R μ' H' → W (.ref (CA c)) none σ H'
theorem Sx.go {K : PySem.W.Frag} {CA : Nat → Addr} {W : WX} {σ : L2.St} {F R : Hp} {ρ : Rho} {μ : Mu} {X : Xst} {H : Hp} (s : Sx K CA W σ F R ρ μ X H) {F' : Hp} {μ' : Mu} {H' : Hp} (f : Same F F') (h : Hs K CA F' R μ' H') : Sx K CA W σ F' R ρ μ' X H' :=
  ⟨h, s.rp.mono f, fun c m G J e g z => s.xx c m G J e (f.trans g) z⟩
def Gr (K : PySem.W.Frag) (CA : Nat → Addr) {α β : Type} (rel : Hp → β → α → Prop) (w : Rho → Mu → (α → Mu → Prop) → Xst → Prop) (W : WX) (σ : L2.St) (H : Hp) (Q : β → Hp → Prop) : Prop :=
  ∃ F R ρ μ X Qd, Sx K CA W σ F R ρ μ X H ∧ w ρ μ Qd X ∧ ∀ d μ' v F' H', Qd d μ' → Same F F' → Hs K CA F' R μ' H' → rel F' v d → Q v H'
theorem Gr.mk {K : PySem.W.Frag} {CA : Nat → Addr} {α β : Type} {rel : Hp → β → α → Prop} {w : Rho → Mu → (α → Mu → Prop) → Xst → Prop} {W : WX} {σ : L2.St} {H : Hp} {Q : β → Hp → Prop} {F R : Hp} {ρ : Rho} {μ : Mu} {X : Xst} {Qd : α → Mu → Prop}
    (s : Sx K CA W σ F R ρ μ X H) (h : w ρ μ Qd X) (k : ∀ d μ' v F' H', Qd d μ' → Same F F' → Sx K CA W σ F' R ρ μ' X H' → rel F' v d → Q v H') : Gr K CA rel w W σ H Q :=
  ⟨F, R, ρ, μ, X, Qd, s, h, fun d m v G J q f z x => k d m v G J q f (s.go f z) x⟩
def MA.len : MA → Nat
  | .nil => 0
  | .cons _ a => a.len + 1
/-- an iterator that yields the data ds, one behind the other -/
def Wk (K : PySem.W.Frag) (CA : Nat → Addr) (F0 : Hp) (J : It) (ds : List D) : Prop :=
  ∀ F R μ H, Same F0 F → Hs K CA F R μ H → ∀ i : Nat, (ds.length ≤ i → J.stop i H) ∧ ∀ d, ds[i]? = some d → J.go i H ∧ ∀ x H', J.yld i H x H' → ∃ F', Same F F' ∧ Hs K CA F' R μ H' ∧ Dx K CA F' x d
section
variable (K : PySem.W.Frag) (CA : Nat → Addr) (W : WX)
def tE (m : ME) : TE := Gr K CA (Dx K CA) (wpE m) W
def tA (m : MA) : TA := Gr K CA (fun F vs ds => DxA K CA F vs ds ∧ ds.length = m.len) (wpA m) W
def tT (m : ME) : TT := Gr K CA (fun _ (b : Bool) d => b = d) (fun ρ μ Q X => wpE m ρ μ (fun d μ1 => ifB (truD d μ1) fun b => Q b μ1) X) W
def tO (m : MO) : TO := Gr K CA (fun _ (b : Option Int) d => b = d) (wpO m) W
def tQ (m : MO) : TT := Gr K CA (fun _ (b : Bool) d => b = d) (wpC m) W
def tI (m : MI) : TI := Gr K CA (fun F J ds => Wk K CA F J ds) (wpI m) W
end

/-! ### the match -/
def visB (sc : Scope) (x : Str) : Bool := match sc.names.lookup x with
  | some .local => true
  | some .cell => true
  | some .free => true
  | _ => false
def locB (sc : Scope) (x : Str) : Bool := match sc.names.lookup x with
  | some .local => true
  | some .cell => true
  | _ => false
def lclB (sc : Scope) (x : Str) : Bool := match sc.names.lookup x with
  | some .local => true
  | _ => false
def glB (sc : Scope) (x : Str) : Bool := match sc.names.lookup x with
  | some .globalImplicit => true
  | _ => false
theorem visB_ok {sc : Scope} {x : Str} (h : visB sc x = true) : Vis sc x := by
  unfold visB at h
  split at h
  · exact .inl (by assumption)
  · exact .inr (.inl (by assumption))
  · exact .inr (.inr (by assumption))
  · cases h
theorem locB_ok {sc : Scope} {x : Str} (h : locB sc x = true) : Loc sc x := by
  unfold locB at h
  split at h
  · exact .inl (by assumption)
  · exact .inr (by assumption)
  · cases h
theorem lclB_ok {sc : Scope} {x : Str} (h : lclB sc x = true) : sc.names.lookup x = some .local := by
  unfold lclB at h
  split at h
  · assumption
  · cases h
theorem glB_ok {sc : Scope} {x : Str} (h : glB sc x = true) : sc.names.lookup x = some .globalImplicit := by
  unfold glB at h
  split at h
  · assumption
  · cases h
def notStar : Expr → Bool
  | .Starred _ _ => false
  | _ => true
theorem star_cons {e : Expr} (h : notStar e = true) (es : List Expr) (env : Env) : starEach (e :: es) env = (false, eval e env) :: starEach es env := by
  cases e <;> first | rfl | (simp [notStar] at h)
theorem star_none : ∀ {es : List Expr}, es.all notStar = true → ∀ (pos : Pos) (env : Env), (backTo pos (starEach es env)).any (·.1) = false
  | [], _, _, _ => rfl
  | e :: es, h, pos, env => by
    simp only [List.all_cons, Bool.and_eq_true] at h
    rw [star_cons h.1]
    show (false || (backTo pos (starEach es env)).any (·.1)) = false
    rw [star_none h.2 pos env]; rfl
/-- an expression whose test is its value's truth -/
def plainT : Expr → Bool
  | .UnaryOp .Not _ _ => false
  | .BoolOp _ _ _ => false
  | .IfExp _ _ _ _ => false
  | .Compare _ _ _ _ => false
  | _ => true
theorem plainT_ok {e : Expr} (h : plainT e = true) (env : Env) (whole : Sem Value) : isTrue e env whole = (do let v ← whole; standAt e.pos; holding [v] (truthy v)) := by
  cases e with
  | UnaryOp op a p => cases op <;> first | rfl | (simp [plainT] at h)
  | BoolOp => simp [plainT] at h
  | IfExp => simp [plainT] at h
  | Compare => simp [plainT] at h
  | _ => rfl
def notSl : Expr → Bool
  | .Slice _ _ _ _ => false
  | _ => true
theorem notSl_ok {e : Expr} (h : notSl e = true) : PlainIx e := by
  cases e <;> first | (intro _ _; rfl) | (simp [notSl] at h)
def notComp : Expr → Bool
  | .ListComp _ _ _ _ => false
  | .SetComp _ _ _ _ => false
  | .DictComp _ _ _ _ _ => false
  | _ => true
theorem notComp_ok {e : Expr} (h : notComp e = true) (t : Option Expr) (l : Nat) (env : Env) : swapsWith e t l env = pure false := by
  cases e <;> first | rfl | (simp [notComp] at h)
def notSet : Expr → Bool
  | .Set _ _ _ => false
  | _ => true
theorem notSet_ok {e : Expr} (h : notSet e = true) (env : Env) (x : Value) : foldedSetIterable e env x = pure x := by
  cases e <;> first | rfl | (simp [notSet] at h)
theorem notSet_in {e : Expr} (h : notSet e = true) (op : CmpOp) : behindInMarks op e = false := by
  cases e <;> first | rfl | (simp [notSet] at h)

def Op2.is : Op2 → Operator → Bool
  | .add, .Add => true
  | .sub, .Sub => true
  | .mul, .Mult => true
  | .fdiv, .FloorDiv => true
  | .mod, .Mod => true
  | .pow, .Pow => true
  | .shl, .LShift => true
  | _, _ => false
def Cop.is : Cop → CmpOp → Bool
  | .eq, .Eq => true
  | .ne, .NotEq => true
  | .lt, .Lt => true
  | .le, .LtE => true
  | .gt, .Gt => true
  | .ge, .GtE => true
  | .in_, .In => true
  | .notin, .NotIn => true
  | .is_, .Is => true
  | .isnt, .IsNot => true
  | .eqm, .Eq => true
  | .nem, .NotEq => true
  | .inT, .In => true
  | .notinT, .NotIn => true
  | _, _ => false
def Bl1.name : Bl1 → Str
  | .len => "len"
  | .abs => "abs"
  | .sum => "sum"
  | .all => "all"
  | .any => "any"
  | .tuple => "tuple"
  | .list => "list"
  | .listM => "list"
  | .int => "int"
  | .str => "str"
def Bl2.name : Bl2 → Str
  | .max => "max"
  | .min => "min"
def Ty.name (CN : Nat → Str) : Ty → Str
  | .int => "int"
  | .bool => "bool"
  | .tuple => "tuple"
  | .list => "list"
  | .str => "str"
  | .cls c => CN c
  | .vErr => "ValueError"
def names : List Str := ["len", "abs", "sum", "all", "any", "tuple", "list", "int", "str", "max", "min", "isinstance", "range", "zip", "bool", "ValueError", "set", "sorted"]
def dbg (x : Str) : Bool := !(x == ("__debug__" : Str))

def attrOk : Expr → Bool
  | .Call _ _ _ _ => false
  | _ => true
theorem attrOk_ok {o : Expr} (h : attrOk o = true) (nm : Str) (env : Env) (w : Sem Value) : attributeBase o nm env w = w := by
  cases o <;> first | (simp [attrOk] at h; done) | rfl
def bitsOf : Expr → Option (Expr × Pos × Pos)
  | .Call (.Attribute o nm ap) [] [] p => if nm = "bit_length" then some (o, ap, p) else none
  | _ => none
theorem bitsOf_ok {e o : Expr} {ap p : Pos} (h : bitsOf e = some (o, ap, p)) : e = .Call (.Attribute o "bit_length" ap) [] [] p := by
  unfold bitsOf at h
  split at h
  · split at h
    · rename_i hn; cases h; rw [hn]
    · cases h
  · cases h
/-- defs' names -/
def fnNames (sc : Scope) : List (Str × DSp) → List Expr → Bool
  | [], [] => true
  | p :: fs, .Name y _ :: es => decide (p.1 = y) && glB sc y && dbg y && fnNames sc fs es
  | _, _ => false
def callAtOf : Expr → Option (List Expr × Expr × Expr × List Expr)
  | .Call (.Subscript (.List ns _) s _) (e :: es) [] _ => some (ns, s, e, es)
  | _ => none
theorem callAtOf_ok {ex s e : Expr} {ns es : List Expr} (h : callAtOf ex = some (ns, s, e, es)) : ∃ p1 p2 p3, ex = .Call (.Subscript (.List ns p1) s p2) (e :: es) [] p3 := by
  unfold callAtOf at h
  split at h
  · cases h; exact ⟨_, _, _, rfl⟩
  · cases h
def revOf : Expr → Option Expr
  | .Subscript v (.Slice none none (some (.UnaryOp .USub (.Constant (.int 1) _ _) _)) _) _ => some v
  | _ => none
theorem revOf_ok {e v : Expr} (h : revOf e = some v) : ∃ k p1 p2 p3 p4, e = .Subscript v (.Slice none none (some (.UnaryOp .USub (.Constant (.int 1) k p1) p2)) p3) p4 := by
  unfold revOf at h
  split at h
  · cases h; exact ⟨_, _, _, _, _, rfl⟩
  · cases h
def joinOf : Expr → Option (Str × Expr × Pos × Pos)
  | .Call (.Attribute (.Constant (.str x) _ _) nm ap) [e] [] p => if nm = "join" then some (x, e, ap, p) else none
  | _ => none
theorem joinOf_ok {ex e : Expr} {x : Str} {ap p : Pos} (h : joinOf ex = some (x, e, ap, p)) : ∃ k p0, ex = .Call (.Attribute (.Constant (.str x) k p0) "join" ap) [e] [] p := by
  unfold joinOf at h
  split at h
  · split at h
    · rename_i hn; cases h; rw [hn]; exact ⟨_, _, rfl⟩
    · cases h
  · cases h
def splitOf : Expr → Option (Str × Expr × Pos × Pos)
  | .Call (.Attribute o nm ap) [.Constant (.str x) _ _] [] p => if nm = "split" then some (x, o, ap, p) else none
  | _ => none
theorem splitOf_ok {ex o : Expr} {x : Str} {ap p : Pos} (h : splitOf ex = some (x, o, ap, p)) : ∃ k p0, ex = .Call (.Attribute o "split" ap) [.Constant (.str x) k p0] [] p := by
  unfold splitOf at h
  split at h
  · split at h
    · rename_i hn; cases h; rw [hn]; exact ⟨_, _, rfl⟩
    · cases h
  · cases h
def setlOf : Expr → Option Expr
  | .Call (.Name y _) [.Call (.Name z _) [a] [] _] [] _ => if y = "len" ∧ z = "set" then some a else none
  | _ => none
theorem setlOf_ok {ex a : Expr} (h : setlOf ex = some a) : ∃ p1 p2 p3 p4, ex = .Call (.Name "len" p1) [.Call (.Name "set" p2) [a] [] p3] [] p4 := by
  unfold setlOf at h
  split at h
  · split at h
    · rename_i hn; cases h; rw [hn.1, hn.2]; exact ⟨_, _, _, _, rfl⟩
    · cases h
  · cases h
def matT (N : List Str) (sc : Scope) : MT → Expr → Bool
  | .name i, .Name x _ => decide (N[i]? = some x) && locB sc x
  | .tup is, .Tuple es _ _ => matTs is es
  | _, _ => false
where matTs : List Nat → List Expr → Bool
  | [], [] => true
  | i :: is, .Name x _ :: es => decide (N[i]? = some x) && locB sc x && matTs is es
  | _, _ => false
def ownOf : MT → Expr → List (Str × Nat)
  | .name i, .Name x _ => [(x, i)]
  | .tup is, .Tuple es _ _ => ownOfs is es
  | _, _ => []
where ownOfs : List Nat → List Expr → List (Str × Nat)
  | i :: is, .Name x _ :: es => (x, i) :: ownOfs is es
  | _, _ => []
def isTupE : Expr → Bool
  | .Tuple _ _ _ => true
  | _ => false
mutual
/-- may stand as a test -/
def tst : ME → Bool
  | .ife _ _ _ => false
  | .nt a => tst a
  | .bop _ a => tsts a
  | _ => true
def tsts : MA → Bool
  | .nil => true
  | .cons e a => tst e && tsts a
end
mutual
def matE (CN : Nat → Str) (N : List Str) (sc : Scope) : ME → Expr → Bool
  | .var i, .Name x _ => decide (N[i]? = some x) && visB sc x
  | .non, .Constant .none _ _ => true
  | .bl b, .Constant (.bool c) _ _ => b == c
  | .int i, .Constant (.int j) _ _ => i == j
  | .str x, .Constant (.str y) _ _ => decide (x = y)
  | .glob x _, .Name y _ => decide (x = y) && glB sc y && dbg y
  | .bin o a b, .BinOp l op r _ => o.is op && matE CN N sc a l && matE CN N sc b r
  | .neg a, .UnaryOp .USub l _ => matE CN N sc a l
  | .tup a, .Tuple es _ _ => decide (a.len ≤ 1000) && matA CN N sc a es
  | .lst a, .List es _ => decide (a.len ≤ 1000) && matA CN N sc a es
  | .newl a, .List es _ => decide (a.len ≤ 1000) && matA CN N sc a es
  | .ixc a n, .Subscript v (.Constant (.int i) _ _) _ => (i == (n : Int)) && matE CN N sc a v
  | .ix a i, .Subscript v s _ => notSl s && matE CN N sc a v && matE CN N sc i s
  | .slc a lo hi, .Subscript v (.Slice l u none _) _ => matE CN N sc a v && matO CN N sc lo l && matO CN N sc hi u
  | .call x _ a, .Call (.Name y _) (e :: es) [] _ => decide (x = y) && glB sc y && dbg y && matA CN N sc a (e :: es)
  | .bl1 f a, .Call (.Name y _) [e] [] _ => decide (f.name = y) && glB sc y && notStar e && matE CN N sc a e
  | .bl2 f a b, .Call (.Name y _) [e, e2] [] _ => decide (f.name = y) && glB sc y && notStar e && notStar e2 && matE CN N sc a e && matE CN N sc b e2
  | .isi a t, .Call (.Name y _) [e, .Name z _] [] _ => decide (y = "isinstance") && decide (t.name CN = z) && glB sc y && glB sc z && dbg z && notStar e && matE CN N sc a e
  | .cmp o a b, .Compare l [op] [r] _ => o.is op && notSet r && matE CN N sc a l && matE CN N sc b r
  | .isN true a, .Compare l [.Is] [.Constant .none _ _] _ => matE CN N sc a l
  | .isN false a, .Compare l [.IsNot] [.Constant .none _ _] _ => matE CN N sc a l
  | .bop true a, .BoolOp .And es _ => matA CN N sc a es
  | .bop false a, .BoolOp .Or es _ => matA CN N sc a es
  | .nt a, .UnaryOp .Not l _ => matE CN N sc a l
  | .ife t a b, .IfExp t' a' b' _ => tst t && matE CN N sc t t' && matE CN N sc a a' && matE CN N sc b b'
  | .callAt fl i a, ex => (match callAtOf ex with
    | some (ns, s, e, es) => fnNames sc fl ns && decide (fl.length ≤ 1000) && notSl s && matE CN N sc i s && matA CN N sc a (e :: es)
    | none => false)
  | .bits a, e => (match bitsOf e with
    | some (o, ap, p) => attrOk o && (ap.endLine == p.line) && matE CN N sc a o
    | none => false)
  | .rev a, e => (match revOf e with
    | some v => matE CN N sc a v
    | none => false)
  | .join s a, ex => (match joinOf ex with
    | some (x, e1, ap, p) => decide (x = s) && (ap.endLine == p.line) && notStar e1 && matE CN N sc a e1
    | none => false)
  | .split a s, ex => (match splitOf ex with
    | some (x, o, ap, p) => decide (x = s) && (ap.endLine == p.line) && attrOk o && matE CN N sc a o
    | none => false)
  | .cat _ a b, .BinOp l op r _ => Op2.is .add op && matE CN N sc a l && matE CN N sc b r
  | .setl a, ex => (match setlOf ex with
    | some e1 => glB sc "len" && glB sc "set" && notStar e1 && matE CN N sc a e1
    | none => false)
  | .isl a, .Call (.Name y _) [e, .Name z _] [] _ => decide (y = "isinstance") && decide (z = "list") && glB sc y && glB sc z && dbg z && notStar e && matE CN N sc a e
  | .lcr _ tg a c e, .ListComp elt [⟨t, i, ifs, as⟩] scope _ => decide (as = 0) && matT N scope tg t && blkC N sc scope (ownOf tg t) && matE CN N sc a i && notSet i && matC CN N (relS scope sc) c ifs && matE CN N (relS scope sc) e elt
  | .lc _ tg it c e, .ListComp elt [⟨t, i, ifs, as⟩] scope _ => decide (as = 0) && matT N scope tg t && blkC N sc scope (ownOf tg t) && matI CN N sc it t i && notSet i && matC CN N (relS scope sc) c ifs && matE CN N (relS scope sc) e elt
  | .frz a, e => plainT e && matE CN N sc a e
  | _, _ => false
def matA (CN : Nat → Str) (N : List Str) (sc : Scope) : MA → List Expr → Bool
  | .nil, [] => true
  | .cons m a, e :: es => notStar e && matE CN N sc m e && matA CN N sc a es
  | _, _ => false
def matO (CN : Nat → Str) (N : List Str) (sc : Scope) : MO → Option Expr → Bool
  | .no, none => true
  | .so m, some e => matE CN N sc m e
  | _, _ => false
def matC (CN : Nat → Str) (N : List Str) (sc : Scope) : MO → List Expr → Bool
  | .no, [] => true
  | .so m, [e] => tst m && matE CN N sc m e
  | _, _ => false
def matI (CN : Nat → Str) (N : List Str) (sc : Scope) : MI → Expr → Expr → Bool
  | .seq m, _, e => matE CN N sc m e
  | .rng1 a, _, .Call (.Name y _) [e] [] _ => decide (y = "range") && glB sc y && notStar e && matE CN N sc a e
  | .rng2 a b, _, .Call (.Name y _) [e, e2] [] _ => decide (y = "range") && glB sc y && notStar e && notStar e2 && matE CN N sc a e && matE CN N sc b e2
  | .zip a b, t, .Call (.Name y _) [e, e2] [] _ => isTupE t && decide (y = "zip") && glB sc y && notStar e && notStar e2 && matE CN N sc a e && matE CN N sc b e2
  | _, _, _ => false
end
theorem matA_star {CN : Nat → Str} {N : List Str} {sc : Scope} : ∀ {a : MA} {es : List Expr}, matA CN N sc a es = true → es.all notStar = true
  | .nil, [], _ => rfl
  | .cons m a, e :: es, h => by
    simp only [matA, Bool.and_eq_true] at h
    simp only [List.all_cons, Bool.and_eq_true]
    exact ⟨h.1.1, matA_star h.2⟩
  | .nil, _ :: _, h => by simp [matA] at h
  | .cons _ _, [], h => by simp [matA] at h

/-! ### what a def promises, as a promise of the layer below -/
def spOf (K : PySem.W.Frag) (CA : Nat → Addr) (S : DSp) : Sp := fun vs H Q E =>
  ∃ F R μ ds X Qd, Hs K CA F R μ H ∧ DxA K CA F vs ds ∧ S ds μ Qd X ∧ (∀ d μ' v F' H', Qd d μ' → Same F F' → Hs K CA F' R μ' H' → Dx K CA F' v d → Q v H') ∧
    ∀ c μ' F' H', X c μ' → Same F F' → Hs K CA F' R μ' H' → E (.ref (CA c)) none H'
def FnS (CA : Nat → Addr) (P : Program) (w : World) (K : PySem.W.Frag) (mg : Str → Option Value) (base : Heap) (k : Nat) (x : Str) (S : DSp) : Prop :=
  ∃ f fd ps, FnG P w K mg base (L2.CX P w) k f fd ps (spOf K CA S) ∧ mg x = some (.ref f) ∧ PySem.W.keepIn K (.ref f) = true ∧ Binds K fd ps []
abbrev FnSat (CA : Nat → Addr) (X : Cx) (k : Nat) (x : Str) (S : DSp) : Prop := FnS CA X.prog X.w X.K X.mg X.base k x S
/-- a constant of the module -/
def GlS (CA : Nat → Addr) (K : PySem.W.Frag) (mg : Str → Option Value) (x : Str) (d : D) : Prop := ∃ u v, mg x = some u ∧ RelV v u ∧ ∀ F, Dx K CA F v d
abbrev GlSat (CA : Nat → Addr) (X : Cx) (x : Str) (d : D) : Prop := GlS CA X.K X.mg x d

/-- what stands behind the own classes -/
def veT : List Value := [.type "ValueError", .type "Exception", .type "BaseException", .type "object"]
/-- an own error class: number c, at CA c, beneath the class at CA 0 (or that one) -/
structure ClsOk (K : PySem.W.Frag) (mg : Str → Option Value) (CA : Nat → Addr) (CN : Nat → Str) (c : Nat) : Prop where
  g : mg (CN c) = some (.ref (CA c))
  mro : ∃ cd, PySem.W.clsIn K (CA c) = some cd ∧ cd.hasDict = true ∧ cd.mro = .ref (CA c) :: ((if c = 0 then [] else [.ref (CA 0)]) ++ veT)
  ty : PySem.W.typeIn K (.ref (CA c)) = some (.type "type")
  ex : PySem.W.excIn K (CA c) veT "ValueError.__new__" = true
  kp : PySem.W.keepIn K (.ref (CA c)) = true
  ga : PySem.W.findIn K (.ref (CA c)) "__getattribute__" = some (some (.builtin "BaseException.__getattribute__"))
  gg : PySem.W.findIn K (.ref (CA c)) "__getattr__" = some none
  cl : PySem.W.findIn K (.ref (CA c)) "__class__" = some (some (.builtin "object.__class__"))
  hn : PySem.W.specialIn K (.builtin "object.__class__") "__get__" = some (some (.builtin "getset_descriptor.__get__"))
  ht : PySem.W.takesIn K (.builtin "object.__class__") = some true
/-- the world around: built-ins as they are, nC error classes -/
structure WdS (K : PySem.W.Frag) (mg : Str → Option Value) (CA : Nat → Addr) (CN : Nat → Str) (nC : Nat) : Prop where
  blt : ∀ x ∈ names, mg x = none
  cls : ∀ c, c < nC → ClsOk K mg CA CN c
  inj : ∀ c c', c < nC → c' < nC → CA c = CA c' → c = c'
abbrev Wd (X : Cx) (CA : Nat → Addr) (CN : Nat → Str) (nC : Nat) : Prop := WdS X.K X.mg CA CN nC
mutual
def okE (nC : Nat) (fs : Str → DSp → Prop) (gs : Str → D → Prop) : ME → Prop
  | .glob x d => gs x d
  | .bin _ a b => okE nC fs gs a ∧ okE nC fs gs b
  | .neg a => okE nC fs gs a
  | .tup a => okA nC fs gs a
  | .lst a => okA nC fs gs a
  | .newl a => okA nC fs gs a
  | .ixc a _ => okE nC fs gs a
  | .ix a i => okE nC fs gs a ∧ okE nC fs gs i
  | .slc a lo hi => okE nC fs gs a ∧ okO nC fs gs lo ∧ okO nC fs gs hi
  | .call x S a => fs x S ∧ okA nC fs gs a
  | .bl1 _ a => okE nC fs gs a
  | .bl2 _ a b => okE nC fs gs a ∧ okE nC fs gs b
  | .isi a (.cls c) => nC = NC.n ∧ c < NC.n ∧ okE nC fs gs a
  | .isi a .vErr => nC = NC.n ∧ okE nC fs gs a
  | .isi a _ => okE nC fs gs a
  | .cmp _ a b => okE nC fs gs a ∧ okE nC fs gs b
  | .isN _ a => okE nC fs gs a
  | .bop _ a => okA nC fs gs a
  | .nt a => okE nC fs gs a
  | .ife t a b => okE nC fs gs t ∧ okE nC fs gs a ∧ okE nC fs gs b
  | .callAt fl i a => (∀ p ∈ fl, fs p.1 p.2) ∧ okE nC fs gs i ∧ okA nC fs gs a
  | .bits a => okE nC fs gs a
  | .rev a => okE nC fs gs a
  | .join _ a => okE nC fs gs a
  | .split a _ => okE nC fs gs a
  | .setl a => okE nC fs gs a
  | .cat _ a b => okE nC fs gs a ∧ okE nC fs gs b
  | .isl a => okE nC fs gs a
  | .lcr _ _ a c e => okE nC fs gs a ∧ okO nC fs gs c ∧ okE nC fs gs e
  | .lc _ _ it c e => okI nC fs gs it ∧ okO nC fs gs c ∧ okE nC fs gs e
  | .frz a => okE nC fs gs a
  | _ => True
def okA (nC : Nat) (fs : Str → DSp → Prop) (gs : Str → D → Prop) : MA → Prop
  | .nil => True
  | .cons e a => okE nC fs gs e ∧ okA nC fs gs a
def okO (nC : Nat) (fs : Str → DSp → Prop) (gs : Str → D → Prop) : MO → Prop
  | .no => True
  | .so e => okE nC fs gs e
def okI (nC : Nat) (fs : Str → DSp → Prop) (gs : Str → D → Prop) : MI → Prop
  | .seq e => okE nC fs gs e
  | .rng1 a => okE nC fs gs a
  | .rng2 a b => okE nC fs gs a ∧ okE nC fs gs b
  | .zip a b => okE nC fs gs a ∧ okE nC fs gs b
end
/-- a great divisor may be met: there is room, and nobody looks on -/
structure Seer (X : Cx) : Prop where
  ns : X.base.NoSeer
  tree : X.prog.given.tree = none
  top : ∃ (env : Env) (l : List Env), X.stack = env :: l ∧ env.scope.isGenerator = false ∧ env.scope.isCoroutine = false ∧ env.builtins = builtinsNs ∧ env.globals = mainGlobals
  dep : X.A.depth + 100 < recursionLimit
theorem Seer.room {X : Cx} {pins : List (Addr × Obj)} {σ : L2.St} {H : Hp} {s : Shared} (S : Seer X) (I : Inv X pins σ H s) : PylongRoom (model X.prog X.w) X.A s := by
  obtain ⟨env, l, h1, h2, h3, h4, h5⟩ := S.top
  exact PylongRoom.of I.nolimit S.dep (SeerAt.of (S.ns.keeps I.bk) S.tree (I.ok.frames.trans (congrArg some h1)) h2 h3 h4 h5)
/-- where one stands -/
structure Gd (X : Cx) (k : Nat) (W : WX) (CA : Nat → Addr) (CN : Nat → Str) (nC : Nat) : Prop where
  calm : X.calm = true
  nd : X.N.Nodup
  room : Room k X.A
  grd : X.A.guards = some []
  tk : Takes X W
  pass : PassesOwn (model X.prog X.w) X.A X.env X.xe
  wd : Wd X CA CN nC
  dbg : ∀ x ∈ X.N, (x == ("__debug__" : Str)) = false ∧ (x == ("__classdict__" : Str)) = false
  seer : Seer X
end Dl

/-! The data layer, part D: operations on data, by values. -/
namespace Dl
open PySem L2 PyProof.Rows
variable [NC]

section
variable {K : PySem.W.Frag} {CA : Nat → Addr} {F F' R H H' : Hp} {μ : Mu} {v v1 v2 : V} {d d1 d2 : D} {Q : VK} {Qd : Pst}
theorem line_le {n : Nat} (h : n ≤ 100000) : n ≤ sizeLine := Nat.le_trans h (by decide)
theorem line_lt {n : Nat} (h : n < 100000) : n < sizeLine := Nat.lt_of_lt_of_le h (by decide)
/-- what follows a value -/
abbrev Kon (K : PySem.W.Frag) (CA : Nat → Addr) (F R : Hp) (Qd : Pst) (Q : VK) : Prop := ∀ d μ' v F' H', Qd d μ' → Same F F' → Hs K CA F' R μ' H' → Dx K CA F' v d → Q v H'

/-! ### binary operators -/
def rCatW (K : PySem.W.Frag) : R2 := fun x y H Q => ∃ l b xs zs, x = .ref l ∧ y = .ref b ∧ SqL K H l xs ∧ SqL K H b zs ∧ xs.length + zs.length ≤ sizeLine ∧ ∀ p, H p = none → Q (.ref p) (upd H p (.lst (xs ++ zs)))
theorem op_catW {X : Cx} : OpR X (binaryOp .Add) (rCatW X.K) := by
  intro pins s σ H x y v u Q I rx ry h
  obtain ⟨l, b, xs, zs, rfl, rfl, hA, hB, hz, q⟩ := h
  cases rx
  cases ry
  obtain ⟨us, r1, p1, _⟩ := I.list hA
  obtain ⟨ws, r2, p2, _⟩ := I.list hB
  obtain ⟨⟨c1, e1, t1, l1⟩, n1, g1, q1, _, k1⟩ := p1
  obtain ⟨⟨c2, e2, t2, l2⟩, n2, g2, q2, _, k2⟩ := p2
  simp only at q1 k1 q2 k2
  subst q1 k1 q2 k2
  have a1 := r1.length
  have a2 := r2.length
  have sz : us.toArray.size + ws.toArray.size ≤ sizeLine := by
    rw [List.size_toArray, List.size_toArray, ← a1, ← a2]; exact hz
  refine concat_meets ⟨_, g1, rfl⟩ ⟨_, g2, rfl⟩ noFill_list_add seq_list_add PySem.F.slot_list_add PySem.F.entry_list_add (PySem.F.args_list_add_2 _ _)
    (list_addW l b us.toArray ws.toArray n1 n2 e1 e2 l1 l2 sz) ⟨g1, g2, ?_⟩
  have jo : us.toArray ++ ws.toArray = (us ++ ws).toArray := by simp
  rw [jo]
  exact ⟨.ref _, _, I.lnew (t' := s.toks) (r1.append r2) (by rw [List.length_append]; exact hz), rfl, q _ I.fresh⟩
theorem op_fdivA {X : Cx} (S : Seer X) : OpR X (binaryOp .FloorDiv) (rI (fun _ j => divOk j) fun i j => .int (i.fdiv j)) := by
  intro pins s σ H x y v u Q I rx ry h
  obtain ⟨i, j, rfl, rfl, hc, q⟩ := h
  obtain ⟨t, rfl⟩ := rx
  obtain ⟨t', rfl⟩ := ry
  exact floordiv_int hc ⟨.int (i.fdiv j), H, I.tok _, ⟨_, rfl⟩, q⟩ (.inr (S.room I))
def CMulX (i j : Int) : Prop := mulOk i j
theorem CMulX.ok {i j : Int} (h : CMulX i j) : PySem.IntMulOk i j := by
  have b : ∀ x : Int, Builtin.Int.intBits x ≤ x.natAbs.log2 + 1 := fun x => by
    unfold Builtin.Int.intBits
    split <;> omega
  have h1 := b i
  have h2 := b j
  have h3 : i.natAbs.log2 + j.natAbs.log2 < 130000000 := h
  have e : bitsLine = 134217728 := by decide
  unfold PySem.IntMulOk
  intro z
  rw [Bool.and_eq_true] at z
  have z2 := z.2
  unfold Builtin.Int.intTooBig at z2
  have z3 := of_decide_eq_true z2
  rw [e] at z3
  omega
theorem op_mulX {X : Cx} : OpR X (binaryOp .Mult) (rI CMulX fun i j => .int (i * j)) := opI fun _ _ _ _ _ _ _ hc q => mul_int q (CMulX.ok hc)
def rS2 : R2 := fun x y H Q => ∃ i j, x = .str i ∧ y = .str j ∧ i.length + j.length ≤ sizeLine ∧ Q (.str (i ++ j)) H
def rOp (K : PySem.W.Frag) : Op2 → R2
  | .add => fun x y H Q => rI0 (fun i j => .int (i + j)) x y H Q ∨ rS2 x y H Q ∨ rCatW K x y H Q ∨ rCatA K x y H Q
  | .sub => rI0 fun i j => .int (i - j)
  | .mul => rI CMulX fun i j => .int (i * j)
  | .fdiv => rI (fun _ j => divOk j) fun i j => .int (i.fdiv j)
  | .mod => rI (fun _ j => j ≠ 0) fun i j => .int (i.fmod j)
  | .pow => rI CPow fun i j => .int (i ^ j.toNat)
  | .shl => rI CPow fun i j => .int (i * 2 ^ j.toNat)
theorem rOp_ok {X : Cx} (S : Seer X) {o : Op2} {op : Operator} (h : o.is op = true) : OpR X (binaryOp op) (rOp X.K o) := by
  cases o <;> cases op <;> first | (simp [Op2.is] at h; done) | skip
  · exact op_add.or (OpR.or (show OpR X (binaryOp .Add) rS2 from op_add_str) (op_catW.or op_catA))
  · exact op_sub
  · exact op_mulX
  · exact op_fdivA S
  · exact op_modN
  · exact op_pow
  · exact op_shl
theorem opD_ok {o : Op2} (h : opD o d1 d2 μ Qd) (x1 : Dx K CA F v1 d1) (x2 : Dx K CA F v2 d2) (s : Hs K CA F R μ H) (k : Kon K CA F R Qd Q) : rOp K o v1 v2 H Q := by
  cases o with
  | add =>
    cases x1 with
    | int i =>
      cases x2 <;> first | exact h.elim | skip
      exact .inl ⟨_, _, rfl, rfl, k _ _ _ _ _ h (Same.refl F) s (.int _)⟩
    | str i =>
      cases x2 <;> first | exact h.elim | skip
      obtain ⟨h1, h2⟩ := h
      exact .inr (.inl ⟨_, _, rfl, rfl, line_le h1, k _ _ _ _ _ h2 (Same.refl F) s (.str _)⟩)
    | lst a1 b1 =>
      cases x2 with
      | lst a2 b2 =>
        obtain ⟨h1, h2⟩ := h
        refine .inr (.inr (.inl ⟨_, _, _, _, rfl, rfl, s.f.seq a1, s.f.seq a2, line_le (by rw [b1.length, b2.length]; exact h1), fun p hp => ?_⟩))
        exact k _ _ _ _ _ h2 (same_new (s.ff hp)) (s.new hp) (.lst (.of upd_same) ((b1.append b2).mono (same_new (s.ff hp))))
      | _ => exact h.elim
    | tup a1 b1 =>
      cases x2 with
      | tup a2 b2 =>
        obtain ⟨h1, h2⟩ := h
        refine .inr (.inr (.inr ⟨_, _, _, _, rfl, rfl, seqT s.f a1, seqT s.f a2, line_le (by rw [b1.length, b2.length]; exact h1), fun e => ?_, fun _ e => ?_, fun _ _ p hp => ?_⟩))
        · subst e
          cases b1
          exact k _ _ _ _ _ h2 (Same.refl F) s (.tup a2 b2)
        · subst e
          cases b2
          rw [List.append_nil] at h2
          exact k _ _ _ _ _ h2 (Same.refl F) s (.tup a1 b1)
        · exact k _ _ _ _ _ h2 (same_new (s.ff hp)) (s.new hp) (.tup (.of upd_same) ((b1.append b2).mono (same_new (s.ff hp))))
      | _ => exact h.elim
    | _ => exact h.elim
  | sub =>
    cases x1 <;> first | exact h.elim | skip
    cases x2 <;> first | exact h.elim | skip
    exact ⟨_, _, rfl, rfl, k _ _ _ _ _ h (Same.refl F) s (.int _)⟩
  | mul =>
    cases x1 <;> first | exact h.elim | skip
    cases x2 <;> first | exact h.elim | skip
    exact ⟨_, _, rfl, rfl, h.1, k _ _ _ _ _ h.2 (Same.refl F) s (.int _)⟩
  | fdiv =>
    cases x1 <;> first | exact h.elim | skip
    cases x2 <;> first | exact h.elim | skip
    exact ⟨_, _, rfl, rfl, h.1, k _ _ _ _ _ h.2 (Same.refl F) s (.int _)⟩
  | mod =>
    cases x1 <;> first | exact h.elim | skip
    cases x2 <;> first | exact h.elim | skip
    exact ⟨_, _, rfl, rfl, h.1, k _ _ _ _ _ h.2 (Same.refl F) s (.int _)⟩
  | pow =>
    cases x1 <;> first | exact h.elim | skip
    cases x2 <;> first | exact h.elim | skip
    exact ⟨_, _, rfl, rfl, h.1, k _ _ _ _ _ h.2 (Same.refl F) s (.int _)⟩
  | shl =>
    cases x1 <;> first | exact h.elim | skip
    cases x2 <;> first | exact h.elim | skip
    exact ⟨_, _, rfl, rfl, h.1, k _ _ _ _ _ h.2 (Same.refl F) s (.int _)⟩

/-! ### items, truth -/
theorem itemsOf_ok {ds : List D} (h : itemsOf d μ = some ds) (x : Dx K CA F v d) (s : Hs K CA F R μ H) : ∃ p vs, v = .ref p ∧ (SqL K H p vs ∨ SqT K H p vs) ∧ DxA K CA F vs ds := by
  cases x with
  | tup a b => cases h; exact ⟨_, _, rfl, .inr (seqT s.f a), b⟩
  | lst a b => cases h; exact ⟨_, _, rfl, .inl (s.f.seq a), b⟩
  | ref a =>
    obtain ⟨_, _, vs, h1, h2⟩ := s.m a ds h
    exact ⟨_, vs, rfl, .inl (.of h1), h2⟩
  | _ => cases h
theorem DxA.atI {vs : List V} {ds : List D} {n : Int} (x : DxA K CA F vs ds) (h : L2.atI ds n = some d) : ∃ v, L2.atI vs n = some v ∧ Dx K CA F v d := by
  unfold L2.atI at h ⊢
  obtain ⟨j, h1, h2⟩ := Option.bind_eq_some_iff.mp h
  obtain ⟨u, h3, h4⟩ := x.get h2
  exact ⟨u, by rw [x.length, h1]; exact h3, h4⟩
theorem selI_ok {n : Int} (h : selI d1 μ n = some d) (x : Dx K CA F v d1) (s : Hs K CA F R μ H) (k : ∀ u, Dx K CA F u d → Q u H) : rIx K v (.int n) H Q := by
  cases x with
  | tup a b =>
    obtain ⟨u, h1, h2⟩ := b.atI h
    exact .inr (.inl ⟨_, _, _, u, rfl, rfl, seqT s.f a, h1, k u h2⟩)
  | lst a b =>
    obtain ⟨u, h1, h2⟩ := b.atI h
    exact .inl ⟨_, _, _, u, rfl, rfl, s.f.seq a, h1, k u h2⟩
  | ref a =>
    obtain ⟨ds, e1, e2⟩ := Option.bind_eq_some_iff.mp h
    obtain ⟨_, _, vs, h1, h2⟩ := s.m a ds e1
    obtain ⟨u, h3, h4⟩ := h2.atI e2
    exact .inl ⟨_, _, _, u, rfl, rfl, .of h1, h3, k u h4⟩
  | str z =>
    simp only [selI, strAtI] at h
    split at h
    · rename_i hz
      obtain ⟨c, e1, e2⟩ := Option.map_eq_some_iff.mp h
      subst e2
      exact .inr (.inr ⟨z, n, c, rfl, rfl, line_le hz, e1, k _ (.str _)⟩)
    · cases h
  | _ => cases h
theorem atI_of {α : Type} {ds : List α} {n : Nat} {d : α} (h : ds[n]? = some d) : L2.atI ds (n : Int) = some d := atI_nat h
theorem selN_I {n : Nat} (h : selN d1 μ n = some d) : selI d1 μ (n : Int) = some d := by
  cases d1 with
  | tup ds => exact atI_of h
  | lst ds => exact atI_of h
  | ref a =>
    obtain ⟨ds, e1, e2⟩ := Option.bind_eq_some_iff.mp h
    simp only [selI]
    rw [e1]
    exact atI_of e2
  | str z =>
    simp only [selN, strAt] at h
    simp only [selI, strAtI]
    split at h
    · rename_i hz
      obtain ⟨c, e1, e2⟩ := Option.map_eq_some_iff.mp h
      rw [if_pos hz, atI_of e1]
      subst e2; rfl
    · cases h
  | _ => cases h
theorem truD_ok {b : Bool} (h : truD d μ = some b) (x : Dx K CA F v d) (s : Hs K CA F R μ H) : TruV K v H b := by
  cases x with
  | non => cases h; rfl
  | bl c => cases h; rfl
  | int i => cases h; rfl
  | str z =>
    simp only [truD] at h
    split at h
    · rename_i hz
      cases h
      refine ⟨line_le hz, ?_⟩
      cases z.length with
      | zero => rfl
      | succ n => rfl
    · cases h
  | tup a c =>
    cases h
    exact .inr (.inl ⟨_, seqT s.f a, by cases c <;> rfl⟩)
  | lst a c =>
    cases h
    exact .inl ⟨_, s.f.seq a, by cases c <;> rfl⟩
  | ref a =>
    obtain ⟨ds, e1, e2⟩ := Option.map_eq_some_iff.mp h
    obtain ⟨_, _, vs, h1, h2⟩ := s.m a ds e1
    subst e2
    exact .inl ⟨_, .of h1, by cases h2 <;> rfl⟩
  | exc _ => cases h

/-! ### slices -/
def rSl (K : PySem.W.Frag) : V → Option Int → Option Int → Hp → VK → Prop := fun x lo hi H Q => rSlL K x lo hi H Q ∨ rSlA K x lo hi H Q ∨ rSlS x lo hi H Q
theorem rSl_ok {X : Cx} : SlR X (rSl X.K) := sl_list.or (sl_tupA.or sl_str)
theorem cutV_whole {vs : List V} {lo hi : Option Int} (h : HT.sIx vs.length 0 lo = 0 ∧ HT.sIx vs.length vs.length hi = vs.length) : cutV vs lo hi = vs := by
  unfold cutV
  rw [h.1, h.2]
  simp
theorem slcD_ok {lo hi : Option Int} (h : slcD d lo hi μ Qd) (x : Dx K CA F v d) (s : Hs K CA F R μ H) (k : Kon K CA F R Qd Q) : rSl K v lo hi H Q := by
  cases x with
  | lst a b =>
    refine .inl ⟨_, _, rfl, s.f.seq a, fun p hp => ?_⟩
    exact k _ _ _ _ _ h (same_new (s.ff hp)) (s.new hp) (.lst (.of upd_same) ((b.cut lo hi).mono (same_new (s.ff hp))))
  | ref a =>
    simp only [slcD] at h
    cases e : μ a with
    | none => rw [e] at h; exact h.elim
    | some ds =>
      rw [e] at h
      obtain ⟨_, _, vs, h1, h2⟩ := s.m a ds e
      refine .inl ⟨_, _, rfl, .of h1, fun p hp => ?_⟩
      exact k _ _ _ _ _ h (same_new (s.ff hp)) (s.new hp) (.lst (.of upd_same) ((h2.cut lo hi).mono (same_new (s.ff hp))))
  | tup a b =>
    refine .inr (.inl ⟨_, _, rfl, seqT s.f a, fun w => ?_, fun _ p hp => ?_⟩)
    · have c := b.cut lo hi
      rw [cutV_whole w] at c
      exact k _ _ _ _ _ h (Same.refl F) s (.tup a c)
    · exact k _ _ _ _ _ h (same_new (s.ff hp)) (s.new hp) (.tup (.of upd_same) ((b.cut lo hi).mono (same_new (s.ff hp))))
  | str z => exact .inr (.inr ⟨z, rfl, line_le h.1, k _ _ _ _ _ h.2 (Same.refl F) s (.str _)⟩)
  | _ => exact h.elim

/-! ### built-in functions -/
def rLen (K : PySem.W.Frag) : List V → Hp → VK → Prop := fun xs H Q => (∃ p ys, xs = [.ref p] ∧ (SqL K H p ys ∨ SqT K H p ys) ∧ Q (.int ys.length) H) ∨ ∃ z, xs = [.str z] ∧ z.length ≤ sizeLine ∧ Q (.int z.length) H
theorem dp_same {v : V} {d : PyData} (s : Same F H) (h : Dp K F v d) : Dp K H v d := by
  have key : (∀ (d : PyData) (v : V), Dp K F v d → Dp K H v d) := by
    intro d
    exact PyData.rec (motive_1 := fun d => ∀ v, Dp K F v d → Dp K H v d) (motive_2 := fun ds => ∀ vs, DpAll K F vs ds → DpAll K H vs ds) (motive_3 := fun _ => True) (motive_4 := fun _ => True)
      (fun v h => by cases h; exact .non) (fun b v h => by cases h; exact .bl _) (fun i v h => by cases h; exact .int _) (fun x v h => by cases h; exact .str _)
      (fun xs ih v h => by cases h with | lst a b => exact .lst (s.seq a) (ih _ b)) (fun xs ih v h => by cases h with | tup a b => exact .tup (seqT s a) (ih _ b)) (fun _ _ v h => by cases h)
      (fun vs h => by cases h; exact .nil) (fun d ds i1 i2 vs h => by cases h with | cons a b => exact .cons (i1 _ a) (i2 _ b)) trivial (fun _ _ _ _ => trivial) (fun _ _ _ _ => trivial) d
  exact key d v h
/-- str of data -/
def strT : PyData → Str
  | .str x => x
  | d => d.shown
def rStr (K : PySem.W.Frag) : List V → Hp → VK → Prop := fun xs H Q => ∃ v d, xs = [v] ∧ Dp K H v d ∧ d.showable = true ∧ d.hasDict = false ∧ d.depth ≤ 70 ∧ ((∃ a, v = .ref a) → d.shown.length ≤ sizeLine) ∧ Q (.str (strT d)) H
theorem call_str_D {X : Cx} (gu : X.A.guards = some []) (hu : X.A.units + 100 < cLine) : CallR X (.type "str") (rStr X.K) := by
  intro pins s σ H xs us Q I r h
  obtain ⟨v, d, rfl, dp, sh, hd, dep, len, q⟩ := h
  cases r with
  | cons r1 r2 =>
    cases r2
    have big : ∀ (a : Addr) (dd : PyData), Dp X.K H (.ref a) dd → dd = d → v = .ref a → strT dd = dd.shown → wpAny (model X.prog X.w) X.A (call (.type "str") [.ref a]) (EP X pins σ Q) X.xe s := by
      intro a dd dp e ns es
      subst e
      subst ns
      obtain ⟨as, rd⟩ := Dp.reads I dd (.ref a) (.ref a) dp rfl
      refine str_of_reads rd sh (fun z => by rw [hd] at z; cases z) gu (by omega) (fun _ _ z => z) (fun h' u tk hk => ?_) (len ⟨a, rfl⟩)
      rw [es] at q
      exact ⟨.str _, H, I.kept (t' := tk) hk, ⟨u, rfl⟩, q⟩
    cases dp with
    | non =>
      cases r1
      exact PySem.P.str_of_none ⟨.str _, H, I.tok _, ⟨_, rfl⟩, q⟩
    | bl b =>
      cases (show _ = Value.bool b from r1)
      exact PySem.P.str_of_bool ⟨.str _, H, I.tok _, ⟨_, rfl⟩, by simpa [strT, PyData.shown] using q⟩
    | int i =>
      obtain ⟨t, rfl⟩ := r1
      exact PySem.P.str_of_int (by simpa [PyData.showable] using sh) ⟨.str _, H, I.tok _, ⟨_, rfl⟩, q⟩
    | str x =>
      obtain ⟨t, rfl⟩ := r1
      exact PySem.P.str_of_str ⟨.str _, H, I, ⟨_, rfl⟩, q⟩
    | lst a b =>
      cases r1
      exact big _ _ (.lst a b) rfl rfl rfl
    | tup a b =>
      cases r1
      exact big _ _ (.tup a b) rfl rfl rfl
theorem fit_depth : ∀ (n : Nat) (d : D), fit n d = true → d.py.depth ≤ n
  | _, .non, _ => by simp [D.py, PyData.depth]
  | _, .bl _, _ => by simp [D.py, PyData.depth]
  | _, .int _, _ => by simp [D.py, PyData.depth]
  | _, .str _, _ => by simp [D.py, PyData.depth]
  | n + 1, .tup xs, h => by
    simp only [D.py, PyData.depth]
    have : PyData.depthAll (pys xs) ≤ n := by
      have h : xs.all (fit n) = true := h
      induction xs with
      | nil => simp [pys, PyData.depthAll]
      | cons x xs ih =>
        simp only [List.all_cons, Bool.and_eq_true] at h
        have h1 := fit_depth n x h.1
        have h2 := ih (by simp only [fit]; exact h.2) h.2
        simp only [pys, PyData.depthAll]
        omega
    omega
  | n + 1, .lst xs, h => by
    simp only [D.py, PyData.depth]
    have : PyData.depthAll (pys xs) ≤ n := by
      have h : xs.all (fit n) = true := h
      induction xs with
      | nil => simp [pys, PyData.depthAll]
      | cons x xs ih =>
        simp only [List.all_cons, Bool.and_eq_true] at h
        have h1 := fit_depth n x h.1
        have h2 := ih (by simp only [fit]; exact h.2) h.2
        simp only [pys, PyData.depthAll]
        omega
    omega
  | 0, .tup _, h => by simp [fit] at h
  | 0, .lst _, h => by simp [fit] at h
  | _, .exc _, h => by simp [fit] at h
  | _, .ref _, h => by simp [fit] at h
def rB1 (K : PySem.W.Frag) : Bl1 → List V → Hp → VK → Prop
  | .len => rLen K
  | .abs => fun xs H Q => ∃ i, xs = [.int i] ∧ Q (.int (if i < 0 then -i else i)) H
  | .sum => rSum K
  | .all => rAll K
  | .any => rAny K
  | .tuple => fun xs H Q => ∃ p ys, xs = [.ref p] ∧ ((SqL K H p ys ∧ ∀ l, H l = none → Q (.ref l) (upd H l (.tup ys))) ∨ (SqT K H p ys ∧ Q (.ref p) H))
  | .list => fun xs H Q => ∃ p ys, xs = [.ref p] ∧ (SqL K H p ys ∨ SqT K H p ys) ∧ ∀ l, H l = none → Q (.ref l) (upd H l (.lst ys))
  | .listM => fun xs H Q => ∃ p ys, xs = [.ref p] ∧ (SqL K H p ys ∨ SqT K H p ys) ∧ ∀ l, H l = none → Q (.ref l) (upd H l (.lst ys))
  | .int => fun xs H Q => (∃ i, xs = [.int i] ∧ Q (.int i) H) ∨ ∃ k, xs = [.bl k] ∧ Q (.int (if k then 1 else 0)) H
  | .str => rStr K
theorem pe_b1 {X : Cx} {f : Bl1} {a : Expr} {ta : TE} {p pos : Pos} (gu : X.A.guards = some []) (hu : X.A.units + 100 < cLine) (hc : X.calm = true) (hg : Gl X f.name) (hm : X.mg f.name = none) (hn : notStar a = true) (ha : PE X a ta) :
    PE X (.Call (.Name f.name p) [a] [] pos) (tCB (rB1 X.K f) (tCons ta tNil)) := by
  have e1 := star_cons hn [] X.env
  have e2 : (backTo pos (starEach [] X.env)).any (·.1) = false := rfl
  have pa : PA X [a] (tCons ta tNil) := pa_cons ha pa_nil e1
  cases f with
  | len => exact pe_callB (call_len_seq.or call_len_str) hg hm boot_len pa (by decide) (by decide) e1 e2
  | abs => exact pe_callB call_abs hg hm boot_abs pa (by decide) (by decide) e1 e2
  | sum => exact pe_callB (cr_sum hc) hg hm boot_sum pa (by decide) (by decide) e1 e2
  | all => exact pe_callB (cr_all hc) hg hm boot_all pa (by decide) (by decide) e1 e2
  | any => exact pe_callB (cr_any hc) hg hm boot_any pa (by decide) (by decide) e1 e2
  | tuple => exact pe_callTy call_tuple_of hg hm PyProof.Rows.boot_tuple pa (by decide) (by decide) e1 e2
  | list => exact pe_callTy call_list_of hg hm PyProof.Rows.boot_list pa (by decide) (by decide) e1 e2
  | listM => exact pe_callTy call_list_of hg hm PyProof.Rows.boot_list pa (by decide) (by decide) e1 e2
  | int => exact pe_callTy call_int1 hg hm PyProof.Rows.boot_int pa (by decide) (by decide) e1 e2
  | str => exact pe_callTy (call_str_D gu hu) hg hm PyProof.Rows.boot_str pa (by decide) (by decide) e1 e2
theorem abs_is (i : Int) : (if i < 0 then -i else i) = ((i.natAbs : Nat) : Int) := by
  split <;> omega
theorem b1D_ok {f : Bl1} (h : b1D f d μ Qd) (x : Dx K CA F v d) (s : Hs K CA F R μ H) (k : Kon K CA F R Qd Q) : rB1 K f [v] H Q := by
  have nn : ∀ {ds : List D}, itemsOf d μ = some ds → ∃ p vs, v = .ref p ∧ (SqL K H p vs ∨ SqT K H p vs) ∧ DxA K CA F vs ds := fun e => itemsOf_ok e x s
  have it : ∀ {P : List D → Prop}, ifL (itemsOf d μ) P → ∃ ds, itemsOf d μ = some ds ∧ P ds := fun {P} q => by
    cases e : itemsOf d μ with
    | none => rw [e] at q; exact q.elim
    | some ds => rw [e] at q; exact ⟨ds, rfl, q⟩
  cases f with
  | len =>
    by_cases z : ∃ y, d = .str y
    · obtain ⟨y, rfl⟩ := z
      cases x
      exact .inr ⟨y, rfl, line_le h.1, k _ _ _ _ _ h.2 (Same.refl F) s (.int _)⟩
    · have h' : ifL (itemsOf d μ) fun ds => Qd (.int ds.length) μ := by
        cases d <;> first | exact h | exact absurd ⟨_, rfl⟩ z
      obtain ⟨ds, e, q⟩ := it h'
      obtain ⟨p, vs, rfl, sq, b⟩ := nn e
      refine .inl ⟨p, vs, rfl, sq, ?_⟩
      rw [b.length]
      exact k _ _ _ _ _ q (Same.refl F) s (.int _)
  | abs =>
    cases x <;> first | exact h.elim | skip
    refine ⟨_, rfl, ?_⟩
    rw [abs_is]
    exact k _ _ _ _ _ h (Same.refl F) s (.int _)
  | sum =>
    cases x <;> first | exact h.elim | skip
    rename_i a vs ds sq b
    simp only [b1D] at h
    cases e : intsD ds with
    | none => rw [e] at h; exact h.elim
    | some ns =>
      rw [e] at h
      have ev := b.ints e
      subst ev
      exact ⟨_, ns, rfl, s.f.seq sq, k _ _ _ _ _ h (Same.refl F) s (.int _)⟩
  | all =>
    cases x <;> first | exact h.elim | skip
    rename_i a vs ds sq b
    simp only [b1D] at h
    cases e : blsD ds with
    | none => rw [e] at h; exact h.elim
    | some ns =>
      rw [e] at h
      have ev := b.bls e
      subst ev
      exact ⟨_, ns, rfl, s.f.seq sq, k _ _ _ _ _ h (Same.refl F) s (.bl _)⟩
  | any =>
    cases x <;> first | exact h.elim | skip
    rename_i a vs ds sq b
    simp only [b1D] at h
    cases e : blsD ds with
    | none => rw [e] at h; exact h.elim
    | some ns =>
      rw [e] at h
      have ev := b.bls e
      subst ev
      exact ⟨_, ns, rfl, s.f.seq sq, k _ _ _ _ _ h (Same.refl F) s (.bl _)⟩
  | tuple =>
    obtain ⟨ds, e, q⟩ := it h
    cases x with
    | tup a b =>
      cases e
      exact ⟨_, _, rfl, .inr ⟨seqT s.f a, k _ _ _ _ _ q (Same.refl F) s (.tup a b)⟩⟩
    | lst a b =>
      cases e
      exact ⟨_, _, rfl, .inl ⟨s.f.seq a, fun p hp => k _ _ _ _ _ q (same_new (s.ff hp)) (s.new hp) (.tup (.of upd_same) (b.mono (same_new (s.ff hp))))⟩⟩
    | ref a =>
      obtain ⟨_, _, vs, h1, h2⟩ := s.m a ds e
      exact ⟨_, _, rfl, .inl ⟨.of h1, fun p hp => k _ _ _ _ _ q (same_new (s.ff hp)) (s.new hp) (.tup (.of upd_same) (h2.mono (same_new (s.ff hp))))⟩⟩
    | _ => cases e
  | list =>
    obtain ⟨ds, e, q⟩ := it h
    obtain ⟨p, vs, rfl, sq, b⟩ := nn e
    exact ⟨p, vs, rfl, sq, fun p hp => k _ _ _ _ _ q (same_new (s.ff hp)) (s.new hp) (.lst (.of upd_same) (b.mono (same_new (s.ff hp))))⟩
  | listM =>
    obtain ⟨ds, e, q⟩ := it h
    obtain ⟨p, vs, rfl, sq, b⟩ := nn e
    exact ⟨p, vs, rfl, sq, fun p hp => k _ _ _ _ _ (q p (s.mf hp)) (Same.refl F) (s.newM hp b) (.ref p)⟩
  | int =>
    cases x <;> first | exact h.elim | skip
    · exact .inr ⟨_, rfl, k _ _ _ _ _ h (Same.refl F) s (.int _)⟩
    · exact .inl ⟨_, rfl, k _ _ _ _ _ h (Same.refl F) s (.int _)⟩
  | str =>
    have gen : ∀ (e : D), d = e → (∀ x, e ≠ .str x) → fit 60 e = true → e.py.showable = true → (∀ x, e.py ≠ .str x) → strT e.py = e.py.shown → e.py.shown.length ≤ 100000 → Qd (.str e.py.shown) μ → rB1 K .str [v] H Q := by
      intro e he _ f1 sh ns es len q
      subst he
      refine ⟨v, d.py, rfl, dp_same s.f (x.dp 60 f1), sh, PyData.hasDict_of_canLay _ (fit_lay 60 d f1).1, by have := fit_depth 60 d f1; omega, fun _ => line_le len, ?_⟩
      rw [es]
      exact k _ _ _ _ _ q (Same.refl F) s (.str _)
    cases d with
    | non => exact gen .non rfl (fun _ z => nomatch z) h.1 h.2.1 (fun _ z => by simp [D.py] at z) rfl h.2.2.1 h.2.2.2
    | bl b => exact gen (.bl b) rfl (fun _ z => nomatch z) h.1 h.2.1 (fun _ z => by simp [D.py] at z) rfl h.2.2.1 h.2.2.2
    | tup ds => exact gen (.tup ds) rfl (fun _ z => nomatch z) h.1 h.2.1 (fun _ z => by simp [D.py] at z) rfl h.2.2.1 h.2.2.2
    | lst ds => exact gen (.lst ds) rfl (fun _ z => nomatch z) h.1 h.2.1 (fun _ z => by simp [D.py] at z) rfl h.2.2.1 h.2.2.2
    | exc c => exact absurd h.1 (by simp [fit])
    | ref c => exact absurd h.1 (by simp [fit])
    | int i =>
      cases x
      exact ⟨_, .int i, rfl, .int i, by simp [PyData.showable, h.1], by simp [PyData.hasDict], by simp [PyData.depth], (fun z => by obtain ⟨a, z⟩ := z; cases z), k _ _ _ _ _ h.2 (Same.refl F) s (.str _)⟩
    | str y =>
      cases x
      exact ⟨_, .str y, rfl, .str y, by simp [PyData.showable], by simp [PyData.hasDict], by simp [PyData.depth], (fun z => by obtain ⟨a, z⟩ := z; cases z), k _ _ _ _ _ h (Same.refl F) s (.str _)⟩
def rB2 : Bl2 → List V → Hp → VK → Prop
  | .max => fun xs H Q => ∃ i j, xs = [.int i, .int j] ∧ Q (.int (if j > i then j else i)) H
  | .min => fun xs H Q => ∃ i j, xs = [.int i, .int j] ∧ Q (.int (if j < i then j else i)) H
theorem pe_b2 {X : Cx} {f : Bl2} {a b : Expr} {ta tb : TE} {p pos : Pos} (hc : X.calm = true) (hg : Gl X f.name) (hm : X.mg f.name = none) (hn : notStar a = true) (hn2 : notStar b = true) (ha : PE X a ta) (hb : PE X b tb) :
    PE X (.Call (.Name f.name p) [a, b] [] pos) (tCB (rB2 f) (tCons ta (tCons tb tNil))) := by
  have e1 := star_cons hn [b] X.env
  have e3 := star_cons hn2 [] X.env
  have e2 : (backTo pos (starEach [b] X.env)).any (·.1) = false := star_none (by simp [hn2]) pos X.env
  have pa : PA X [a, b] (tCons ta (tCons tb tNil)) := pa_cons ha (pa_cons hb pa_nil e3) e1
  cases f with
  | max => exact pe_callB (call_max2 hc) hg hm boot_max pa (by decide) (by decide) e1 e2
  | min => exact pe_callB (call_min2 hc) hg hm boot_min pa (by decide) (by decide) e1 e2
theorem b2D_ok {f : Bl2} (h : b2D f d1 d2 μ Qd) (x1 : Dx K CA F v1 d1) (x2 : Dx K CA F v2 d2) (s : Hs K CA F R μ H) (k : Kon K CA F R Qd Q) : rB2 f [v1, v2] H Q := by
  cases f <;> cases x1 <;> first | exact h.elim | skip
  all_goals (cases x2 <;> first | exact h.elim | skip)
  · exact ⟨_, _, rfl, k _ _ _ _ _ h (Same.refl F) s (.int _)⟩
  · exact ⟨_, _, rfl, k _ _ _ _ _ h (Same.refl F) s (.int _)⟩

/-! ### comparisons -/
def rCmp (K : PySem.W.Frag) : Cop → R2
  | .eq => rEqD K
  | .ne => rNeD K
  | .lt => rI0 fun i j => .bl (decide (i < j))
  | .le => rI0 fun i j => .bl (decide (i ≤ j))
  | .gt => rI0 fun i j => .bl (decide (j < i))
  | .ge => rI0 fun i j => .bl (decide (j ≤ i))
  | .in_ => rInD K
  | .notin => rNotInD K
  | .is_ => fun x y H Q => ∃ a b, x = .bl a ∧ y = .bl b ∧ Q (.bl (decide (a = b))) H
  | .isnt => fun x y H Q => ∃ a b, x = .bl a ∧ y = .bl b ∧ Q (.bl (!decide (a = b))) H
  | .eqm => rEqD K
  | .nem => rNeD K
  | .inT => rIn K false
  | .notinT => rIn K true
theorem rCmp_ok {X : Cx} {k : Nat} {o : Cop} {op : CmpOp} (hr : Room k X.A) (h : o.is op = true) : OpR X (compareOp op) (rCmp X.K o) := by
  have u1 := hr.units
  have u2 : X.A.units + 65 < cLine := by have := hr.un; omega
  cases o <;> cases op <;> first | (simp [Cop.is] at h; done) | skip
  · exact op_eqD u1
  · exact op_neD u1
  · exact op_lt
  · exact op_le
  · exact op_gt
  · exact op_ge
  · exact op_inD u2
  · exact op_notInD u2
  · exact op_is_bl
  · exact op_isnot_bl
  · exact op_eqD u1
  · exact op_neD u1
  · exact op_in_seq
  · exact op_notIn_seq
theorem dpA_same {vs : List V} {ds : List PyData} (s : Same F H) (h : DpAll K F vs ds) : DpAll K H vs ds := by
  induction ds generalizing vs with
  | nil => cases h; exact .nil
  | cons d ds ih => cases h with | cons a b => exact .cons (dp_same s a) (ih b)
theorem any_py (a : D) : ∀ ds : List D, ((pys ds).any fun z => PyData.eqv z a.py) = ds.any fun z => deq z a
  | [] => by simp [pys]
  | d :: ds => by simp [pys, any_py a ds, deq]
theorem flat_dx {v : V} {d : D} (h : Dx K CA F v d) (f : flatD d = true) : flatV v = true := by
  cases h <;> first | rfl | cases f
theorem flat_eq {v w : V} {d e : D} (h : Dx K CA F v d) (k : Dx K CA F w e) (f : flatD d = true) (g : flatD e = true) : eqV v w = deq d e := by
  cases h <;> first | cases f | skip
  all_goals cases k <;> first | cases g | skip
  all_goals simp [eqV, deq, D.py, PyData.eqv]
theorem flat_all : ∀ {vs : List V} {ds : List D}, DxA K CA F vs ds → ds.all flatD = true → vs.all flatV = true
  | _, _, .nil, _ => rfl
  | _, _, .cons h t, f => by
    simp only [List.all_cons, Bool.and_eq_true] at f ⊢
    exact ⟨flat_dx h f.1, flat_all t f.2⟩
theorem flat_any {w : V} {e : D} (k : Dx K CA F w e) (g : flatD e = true) : ∀ {vs : List V} {ds : List D}, DxA K CA F vs ds → ds.all flatD = true → inV w vs = ds.any fun z => deq z e
  | _, _, .nil, _ => rfl
  | _, _, .cons h t, f => by
    simp only [List.all_cons, Bool.and_eq_true] at f
    have := flat_any k g t f.2
    unfold inV at this ⊢
    simp only [List.any_cons]
    rw [this, flat_eq h k f.1 g]
theorem cmpD_ok {o : Cop} (h : cmpD o d1 d2 μ Qd) (x1 : Dx K CA F v1 d1) (x2 : Dx K CA F v2 d2) (s : Hs K CA F R μ H) (k : Kon K CA F R Qd Q) : rCmp K o v1 v2 H Q := by
  cases o with
  | eq =>
    obtain ⟨f1, f2, q⟩ := h
    exact ⟨_, _, dp_same s.f (x1.dp 60 f1), dp_same s.f (x2.dp 60 f2), fit_shaped f1, fit_shaped f2, k _ _ _ _ _ q (Same.refl F) s (.bl _)⟩
  | ne =>
    obtain ⟨f1, f2, q⟩ := h
    exact ⟨_, _, dp_same s.f (x1.dp 60 f1), dp_same s.f (x2.dp 60 f2), fit_shaped f1, fit_shaped f2, k _ _ _ _ _ q (Same.refl F) s (.bl _)⟩
  | eqm =>
    cases x1 <;> first | exact h.elim | skip
    rename_i p
    simp only [cmpD] at h
    cases e : μ p with
    | none => rw [e] at h; exact h.elim
    | some ds =>
      rw [e] at h
      obtain ⟨f1, f2, q⟩ := h
      obtain ⟨_, _, vs, h1, h2⟩ := s.m p ds e
      have z1 : Dp K H (.ref p) (D.lst ds).py := by
        simp only [D.py]
        exact .lst (.of h1) (dpA_same s.f (h2.dp 59 f1))
      exact ⟨_, _, z1, dp_same s.f (x2.dp 60 f2), fit_shaped f1, fit_shaped f2, k _ _ _ _ _ q (Same.refl F) s (.bl _)⟩
  | nem =>
    cases x1 <;> first | exact h.elim | skip
    rename_i p
    simp only [cmpD] at h
    cases e : μ p with
    | none => rw [e] at h; exact h.elim
    | some ds =>
      rw [e] at h
      obtain ⟨f1, f2, q⟩ := h
      obtain ⟨_, _, vs, h1, h2⟩ := s.m p ds e
      have z1 : Dp K H (.ref p) (D.lst ds).py := by
        simp only [D.py]
        exact .lst (.of h1) (dpA_same s.f (h2.dp 59 f1))
      exact ⟨_, _, z1, dp_same s.f (x2.dp 60 f2), fit_shaped f1, fit_shaped f2, k _ _ _ _ _ q (Same.refl F) s (.bl _)⟩
  | in_ =>
    cases x2 <;> first | exact h.elim | skip
    rename_i a vs ds sq b
    obtain ⟨f1, f2, q⟩ := h
    have z2 : Dp K H (.ref a) (D.lst ds).py := dp_same s.f (Dx.dp (CA := CA) 60 (.lst sq b) f2)
    have z3 := fit_shaped f2
    simp only [D.py] at z2 z3
    refine ⟨_, _, dp_same s.f (x1.dp 60 f1), z2, fit_shaped f1, z3, ?_⟩
    rw [any_py]
    exact k _ _ _ _ _ q (Same.refl F) s (.bl _)
  | notin =>
    cases x2 <;> first | exact h.elim | skip
    rename_i a vs ds sq b
    obtain ⟨f1, f2, q⟩ := h
    have z2 : Dp K H (.ref a) (D.lst ds).py := dp_same s.f (Dx.dp (CA := CA) 60 (.lst sq b) f2)
    have z3 := fit_shaped f2
    simp only [D.py] at z2 z3
    refine ⟨_, _, dp_same s.f (x1.dp 60 f1), z2, fit_shaped f1, z3, ?_⟩
    rw [any_py]
    exact k _ _ _ _ _ q (Same.refl F) s (.bl _)
  | is_ =>
    cases x1 <;> first | exact h.elim | skip
    cases x2 <;> first | exact h.elim | skip
    exact ⟨_, _, rfl, rfl, k _ _ _ _ _ h (Same.refl F) s (.bl _)⟩
  | inT =>
    cases x2 <;> first | exact h.elim | skip
    rename_i a vs ds sq b
    obtain ⟨f1, f2, q⟩ := h
    refine ⟨a, vs, rfl, .inr (seqT s.f sq), flat_dx x1 f1, flat_all b f2, ?_⟩
    rw [if_neg (by decide), flat_any x1 f1 b f2]
    exact k _ _ _ _ _ q (Same.refl F) s (.bl _)
  | notinT =>
    cases x2 <;> first | exact h.elim | skip
    rename_i a vs ds sq b
    obtain ⟨f1, f2, q⟩ := h
    refine ⟨a, vs, rfl, .inr (seqT s.f sq), flat_dx x1 f1, flat_all b f2, ?_⟩
    rw [if_pos rfl, flat_any x1 f1 b f2]
    exact k _ _ _ _ _ q (Same.refl F) s (.bl _)
  | isnt =>
    cases x1 <;> first | exact h.elim | skip
    cases x2 <;> first | exact h.elim | skip
    exact ⟨_, _, rfl, rfl, k _ _ _ _ _ h (Same.refl F) s (.bl _)⟩
  | lt =>
    cases x1 <;> first | exact h.elim | skip
    cases x2 <;> first | exact h.elim | skip
    exact ⟨_, _, rfl, rfl, k _ _ _ _ _ h (Same.refl F) s (.bl _)⟩
  | le =>
    cases x1 <;> first | exact h.elim | skip
    cases x2 <;> first | exact h.elim | skip
    exact ⟨_, _, rfl, rfl, k _ _ _ _ _ h (Same.refl F) s (.bl _)⟩
  | gt =>
    cases x1 <;> first | exact h.elim | skip
    cases x2 <;> first | exact h.elim | skip
    exact ⟨_, _, rfl, rfl, k _ _ _ _ _ h (Same.refl F) s (.bl _)⟩
  | ge =>
    cases x1 <;> first | exact h.elim | skip
    cases x2 <;> first | exact h.elim | skip
    exact ⟨_, _, rfl, rfl, k _ _ _ _ _ h (Same.refl F) s (.bl _)⟩
end
end Dl

/-! The data layer, part E: isinstance, targets, iterables. -/
namespace Dl
open PySem L2 PyProof.Rows
variable [NC]

/-! ### isinstance -/
def rIsX (K : PySem.W.Frag) : List V → Hp → VK → Prop := fun xs H Q => ∃ (a C : Addr) (c : V) (cv : Value) (b : Bool), xs = [.ref a, c] ∧ H a = some (ExI C a) ∧ ExcC K C ∧ ClsV c cv ∧ PySem.W.kitOne K (.ref C) cv = some b ∧ Q (.bl b) H
theorem call_isX {X : Cx} : CallR X (.builtin "isinstance") (rIsX X.K) := by
  intro pins s σ H xs us Q I r h
  obtain ⟨a, C, c, cv, b, rfl, hH, EC, kc, e, q⟩ := h
  obtain ⟨u1, u2, rfl, ra, rc⟩ := vals2 r
  cases ra
  have ec := kc.eq rc
  subst ec
  obtain ⟨⟨oe, fv, ho, hz, hd⟩, _, _⟩ := (show ObjOk X.prog X.w H s.heap a (ExI C a) from I.hok a _ hH)
  have J : PySem.W.InstAt s.heap a oe C none := by
    obtain ⟨o1, o2, o3, o4⟩ := oe
    obtain ⟨z1, z2⟩ := hz
    simp only at z1 z2 hd
    subst z1 z2 hd
    exact ⟨ho, rfl, rfl, trivial⟩
  have kx := PySem.W.handS_kitx_exc (x := a) (ox := oe) EC.hg EC.hk EC.hs EC.hd EC.ha EC.hn EC.ht EC.hm
  exact PySem.W.kia_one kx I.kIn J e (fun z => nomatch z) fun tk => ⟨.bl b, H, I.tok tk, rfl, q⟩
section
variable {K : PySem.W.Frag} {mg : Str → Option Value} {CA : Nat → Addr} {CN : Nat → Str} {c c' : Nat}
theorem ClsOk.has (h : ClsOk K mg CA CN c) (v : Value) : PySem.W.mroIn K (CA c) v = some ((.ref (CA c) :: ((if c = 0 then [] else [.ref (CA 0)]) ++ veT)).contains v) := by
  obtain ⟨cd, e1, e2, e3⟩ := h.mro
  unfold PySem.W.mroIn
  rw [e1, Option.bind_some, e3]
  rfl
theorem ClsOk.isc (h : ClsOk K mg CA CN c) : (PySem.W.clsIn K (CA c)).isSome = true := by
  obtain ⟨cd, e1, e2, e3⟩ := h.mro
  rw [e1]; rfl
theorem ClsOk.base (h : ClsOk K mg CA CN c) : PySem.W.subIn K (.ref (CA c)) (.type "BaseException") = some true := by
  show PySem.W.mroIn K (CA c) (.type "BaseException") = some true
  rw [h.has]
  by_cases z : c = 0
  · rw [if_pos z]; rfl
  · rw [if_neg z]; rfl
theorem ClsOk.excC (h : ClsOk K mg CA CN c) : ExcC K (CA c) where
  hg := h.ga
  hk := h.gg
  hs := h.base
  hd := by
    obtain ⟨cd, e1, e2, e3⟩ := h.mro
    unfold PySem.W.hasDictIn
    rw [e1]; exact e2
  ha := h.cl
  hn := h.hn
  ht := h.ht
  hm := by
    rw [h.has]
    by_cases z : c = 0
    · rw [if_pos z]; rfl
    · rw [if_neg z]; rfl
theorem ClsOk.sub (h' : ClsOk K mg CA CN c') (i1 : CA c' = CA c → c' = c) (i2 : CA 0 = CA c → 0 = c) : PySem.W.subIn K (.ref (CA c')) (.ref (CA c)) = some (subC c' c) := by
  show PySem.W.mroIn K (CA c') (.ref (CA c)) = some (subC c' c)
  rw [h'.has]
  congr 1
  have t : ∀ T : String, (Value.ref (CA c) == Value.type T) = false := fun T => by
    cases e : (Value.ref (CA c) == Value.type T) with
    | false => rfl
    | true => exact nomatch (beq_iff_eq.mp e)
  have q : ∀ a b : Addr, (Value.ref a == Value.ref b) = decide (a = b) := fun a b => by
    by_cases z : a = b
    · subst z; simp
    · rw [decide_eq_false z]
      cases e : (Value.ref a == Value.ref b) with
      | false => rfl
      | true => exact absurd (Value.ref.inj (beq_iff_eq.mp e)) z
  unfold subC
  by_cases z : c' = 0
  · subst z
    simp only [if_true, List.nil_append, List.contains_cons, veT, t, q, List.contains_nil, Bool.or_false]
    by_cases y : c = 0
    · subst y; simp
    · have n1 : ¬ CA c = CA 0 := fun e => y (i1 e.symm).symm
      rw [decide_eq_false n1]
      have e1 : (c == 0) = false := by simp [y]
      have e2 : (0 == c) = false := by simp [Ne.symm y]
      rw [e1, e2]; rfl
  · simp only [z, if_false, List.contains_cons, List.cons_append, List.nil_append, veT, t, q, List.contains_nil, Bool.or_false]
    by_cases y : c = 0
    · subst y; simp
    · have n1 : ¬ CA c = CA 0 := fun e => y (i2 e.symm).symm
      rw [decide_eq_false n1]
      by_cases x : c' = c
      · subst x; simp
      · have n2 : ¬ CA c = CA c' := fun e => x (i1 e.symm)
        rw [decide_eq_false n2]
        have e1 : (c == 0) = false := by simp [y]
        have e2 : (c' == c) = false := by simp [x]
        rw [e1, e2] <;> rfl
theorem ClsOk.kit (h' : ClsOk K mg CA CN c') (h : ClsOk K mg CA CN c) (i1 : CA c' = CA c → c' = c) (i2 : CA 0 = CA c → 0 = c) : PySem.W.kitOne K (.ref (CA c')) (.ref (CA c)) = some (subC c' c) := by
  unfold PySem.W.kitOne
  by_cases z : c' = c
  · subst z
    have y : subC c' c' = true := by simp [subC]
    rw [if_pos (by simp), y]
  · have n : ¬ (Value.ref (CA c') == Value.ref (CA c)) = true := fun e => z (i1 (Value.ref.inj (beq_iff_eq.mp e)))
    rw [if_neg n]
    show (if ((PySem.W.clsIn K (CA c)).isSome && PySem.W.typeIn K (.ref (CA c)) == some (.type "type")) = true then PySem.W.subIn K (.ref (CA c')) (.ref (CA c)) else none) = _
    rw [if_pos (by rw [h.isc, h.ty]; rfl)]
    exact h'.sub i1 i2
theorem ClsOk.exm (h' : ClsOk K mg CA CN c') (h : ClsOk K mg CA CN c) (i1 : CA c' = CA c → c' = c) (i2 : CA 0 = CA c → 0 = c) : PySem.W.exmOne K (.ref (CA c')) (.ref (CA c)) = some (subC c' c) :=
  PySem.W.exm_ref h.base h.excC.hd h.ty (h'.sub i1 i2)
theorem ClsOk.kitV (h : ClsOk K mg CA CN c) : PySem.W.kitOne K (.ref (CA c)) (.type "ValueError") = some true := by
  unfold PySem.W.kitOne
  have n : ¬ (Value.ref (CA c) == Value.type "ValueError") = true := fun e => nomatch (beq_iff_eq.mp e)
  rw [if_neg n]
  show (if PySem.W.kitMeta "ValueError" = true then PySem.W.subIn K (.ref (CA c)) (.type "ValueError") else none) = _
  rw [if_pos (by decide +kernel)]
  show PySem.W.mroIn K (CA c) (.type "ValueError") = some true
  rw [h.has]
  by_cases z : c = 0
  · rw [if_pos z]; rfl
  · rw [if_neg z]; rfl
end
/-- the class that stands for a type -/
def tyV2 (CA : Nat → Addr) : Ty → V
  | .int => .ty "int"
  | .bool => .ty "bool"
  | .tuple => .ty "tuple"
  | .list => .ty "list"
  | .str => .ty "str"
  | .cls c => .ref (CA c)
  | .vErr => .ty "ValueError"
theorem name_mem_int : ("int" : Str) ∈ names := by decide +kernel
theorem name_mem_bool : ("bool" : Str) ∈ names := by decide +kernel
theorem name_mem_tuple : ("tuple" : Str) ∈ names := by decide +kernel
theorem name_mem_list : ("list" : Str) ∈ names := by decide +kernel
theorem name_mem_str : ("str" : Str) ∈ names := by decide +kernel
theorem name_mem_ve : ("ValueError" : Str) ∈ names := by decide +kernel
theorem name_mem_isi : ("isinstance" : Str) ∈ names := by decide +kernel
theorem name_mem_range : ("range" : Str) ∈ names := by decide +kernel
theorem name_mem_zip : ("zip" : Str) ∈ names := by decide +kernel
theorem name_mem_b1 (f : Bl1) : f.name ∈ names := by cases f <;> decide +kernel
theorem name_mem_b2 (f : Bl2) : f.name ∈ names := by cases f <;> decide +kernel
theorem boot_bool' : bootBuiltins "bool" = some (.type "bool") := by decide +kernel
theorem pe_tyN {X : Cx} {CA : Nat → Addr} {CN : Nat → Str} {nC : Nat} {t : Ty} {p : Pos} (w : Wd X CA CN nC) (hg : Gl X (t.name CN)) (hd : ((t.name CN) == ("__debug__" : Str)) = false) (hc : ∀ c, t = .cls c → c < nC) : PE X (.Name (t.name CN) p) (tC (tyV2 CA t)) := by
  cases t with
  | int => exact pe_bltn hg (w.blt _ name_mem_int) PyProof.Rows.boot_int rfl (show ("int" : Str) ≠ "__name__" by decide) hd
  | bool => exact pe_bltn hg (w.blt _ name_mem_bool) boot_bool' rfl (show ("bool" : Str) ≠ "__name__" by decide) hd
  | tuple => exact pe_bltn hg (w.blt _ name_mem_tuple) PyProof.Rows.boot_tuple rfl (show ("tuple" : Str) ≠ "__name__" by decide) hd
  | list => exact pe_bltn hg (w.blt _ name_mem_list) PyProof.Rows.boot_list rfl (show ("list" : Str) ≠ "__name__" by decide) hd
  | str => exact pe_bltn hg (w.blt _ name_mem_str) PyProof.Rows.boot_str rfl (show ("str" : Str) ≠ "__name__" by decide) hd
  | vErr => exact pe_bltn hg (w.blt _ name_mem_ve) (show bootBuiltins "ValueError" = some (.type "ValueError") by decide +kernel) rfl (show ("ValueError" : Str) ≠ "__name__" by decide) hd
  | cls c => exact pe_glob hg (w.cls c (hc c rfl)).g rfl hd
section
variable {K : PySem.W.Frag} {CA : Nat → Addr} {F R H : Hp} {μ : Mu} {v : V} {d : D} {Q : VK}
theorem tyx_lst {a : Addr} {vs : List V} (h : SqL K H a vs) : TyX K H (.ref a) (.type "list") := by
  rcases h with (h | ⟨o, h⟩) | ⟨o, its, n, h, c, _⟩
  · exact .base (.lst h)
  · exact .base (.frz h)
  · exact .kList h c
theorem tyx_tup {a : Addr} {vs : List V} (h : SqT K H a vs) : TyX K H (.ref a) (.type "tuple") := by
  rcases h with (h | ⟨o, h⟩) | ⟨o, its, n, h, c, _⟩
  · exact .base (.tup h)
  · exact .fTuple h
  · exact .kTuple h c
/-- the type of plain data -/
def tyD : D → Option String
  | .non => some "NoneType"
  | .bl _ => some "bool"
  | .int _ => some "int"
  | .str _ => some "str"
  | .tup _ => some "tuple"
  | .lst _ => some "list"
  | .ref _ => none
  | .exc _ => none
theorem tyD_ok {T : String} (h : tyD d = some T) (x : Dx K CA F v d) (s : Hs K CA F R μ H) : TyX K H v (.type T) := by
  cases x with
  | non => cases h; exact .base .non
  | bl b => cases h; exact .base (.bl _)
  | int b => cases h; exact .base (.int _)
  | str b => cases h; exact .base (.str _)
  | tup a b => cases h; exact tyx_tup (seqT s.f a)
  | lst a b => cases h; exact tyx_lst (s.f.seq a)
  | _ => cases h
end
def tyS : Ty → Option String
  | .int => some "int"
  | .bool => some "bool"
  | .tuple => some "tuple"
  | .list => some "list"
  | .str => some "str"
  | _ => none
def isiS : String → Ty → Option Bool
  | "NoneType", .int => some false
  | "NoneType", .bool => some false
  | "NoneType", .tuple => some false
  | "NoneType", .list => some false
  | "NoneType", .str => some false
  | "bool", .int => some true
  | "bool", .bool => some true
  | "bool", .tuple => some false
  | "bool", .list => some false
  | "bool", .str => some false
  | "int", .int => some true
  | "int", .bool => some false
  | "int", .tuple => some false
  | "int", .list => some false
  | "int", .str => some false
  | "str", .int => some false
  | "str", .bool => some false
  | "str", .tuple => some false
  | "str", .list => some false
  | "str", .str => some true
  | "tuple", .int => some false
  | "tuple", .bool => some false
  | "tuple", .tuple => some true
  | "tuple", .list => some false
  | "tuple", .str => some false
  | "list", .int => some false
  | "list", .bool => some false
  | "list", .tuple => some false
  | "list", .list => some true
  | "list", .str => some false
  | _, _ => none
theorem kit_pairs : ∀ T ∈ ["NoneType", "bool", "int", "str", "tuple", "list"], ∀ t ∈ [Ty.int, Ty.bool, Ty.tuple, Ty.list, Ty.str], ∀ U, tyS t = some U → kitB T U = isiS T t := by
  intro T hT t ht U hU
  simp only [List.mem_cons, List.not_mem_nil, or_false] at hT ht
  rcases hT with rfl | rfl | rfl | rfl | rfl | rfl <;> rcases ht with rfl | rfl | rfl | rfl | rfl <;> cases hU <;> decide +kernel
theorem isi_kit {d : D} {t : Ty} {b : Bool} {T U : String} (h : isiD d t = some b) (hT : tyD d = some T) (hU : tyS t = some U) : kitB T U = some b := by
  have m1 : t ∈ [Ty.int, Ty.bool, Ty.tuple, Ty.list, Ty.str] := by cases t <;> first | (cases hU; done) | simp
  have m2 : T ∈ ["NoneType", "bool", "int", "str", "tuple", "list"] := by cases d <;> cases hT <;> simp
  rw [kit_pairs T m2 t m1 U hU]
  cases d <;> cases t <;> first | (cases hU; done) | (cases hT; done) | (cases hT; cases hU; cases h; rfl)
theorem isiD_ok {X : Cx} {CA : Nat → Addr} {CN : Nat → Str} {nC : Nat} {F R H : Hp} {μ : Mu} {v : V} {d : D} {Q : VK} {t : Ty} {b : Bool} (w : Wd X CA CN nC) (hc : ∀ c, t = .cls c → nC = NC.n ∧ c < NC.n) (hv : t = .vErr → nC = NC.n)
    (h : isiD d t = some b) (x : Dx X.K CA F v d) (s : Hs X.K CA F R μ H) (q : Q (.bl b) H) : rIsi X.K [v, tyV2 CA t] H Q ∨ rIsX X.K [v, tyV2 CA t] H Q := by
  have gen : ∀ {T U : String}, tyD d = some T → tyS t = some U → rIsi X.K [v, tyV2 CA t] H Q := fun {T U} hT hU => by
    have e : tyV2 CA t = .ty U := by cases t <;> cases hU <;> rfl
    refine ⟨v, tyV2 CA t, .type T, .type U, b, rfl, ?_, tyD_ok hT x s, kit_ty (isi_kit h hT hU), q⟩
    rw [e]; exact .ty U
  cases x with
  | non => cases t <;> first | (cases h; done) | exact .inl (gen rfl rfl)
  | bl _ => cases t <;> first | (cases h; done) | exact .inl (gen rfl rfl)
  | int _ => cases t <;> first | (cases h; done) | exact .inl (gen rfl rfl)
  | str _ => cases t <;> first | (cases h; done) | exact .inl (gen rfl rfl)
  | tup _ _ => cases t <;> first | (cases h; done) | exact .inl (gen rfl rfl)
  | lst _ _ => cases t <;> first | (cases h; done) | exact .inl (gen rfl rfl)
  | ref a => cases t <;> cases h
  | @exc a c' hx =>
    cases t with
    | cls c =>
      obtain ⟨e1, e2⟩ := hc c rfl
      simp only [isiD] at h
      split at h
      · rename_i h19
        cases h
        have k' := w.cls c' (by omega)
        have k := w.cls c (by omega)
        exact .inr ⟨a, CA c', .ref (CA c), .ref (CA c), _, rfl, s.f _ _ hx, k'.excC, .own _, k'.kit k (w.inj _ _ (by omega) (by omega)) (w.inj _ _ (by omega) (by omega)), q⟩
      · cases h
    | vErr =>
      have e1 := hv rfl
      simp only [isiD] at h
      split at h
      · rename_i h19
        cases h
        have k' := w.cls c' (by omega)
        exact .inr ⟨a, CA c', .ty "ValueError", .type "ValueError", _, rfl, s.f _ _ hx, k'.excC, .ty _, k'.kitV, q⟩
      · cases h
    | _ => cases h

/-! ### targets -/
section
variable {X : Cx} {K : PySem.W.Frag} {CA : Nat → Addr} {F R H : Hp} {μ : Mu}
theorem PG.or {tg : Expr} {t t' : TG} (h : PG X tg t) (h' : PG X tg t') : PG X tg (fun v σ H Q => t v σ H Q ∨ t' v σ H Q) := by
  refine ⟨fun pins s σ H v u Q I r q => ?_⟩
  rcases q with q | q
  · exact h.run pins s σ H v u Q I r q
  · exact h'.run pins s σ H v u Q I r q
def gNs : List Nat → TGs
  | [] => gNil
  | i :: is => gCons (gName i) (gNs is)
theorem gNs_of : ∀ {is : List Nat} {vs : List V} {σ : L2.St} {H : Hp} {Q : L2.St → Hp → Prop}, is.length = vs.length → Q ((is.zip vs).foldl (fun s p => s.set p.1 (some p.2)) σ) H → gNs is vs σ H Q
  | [], [], _, _, _, _, q => ⟨rfl, q⟩
  | i :: is, v :: vs, σ, H, Q, e, q => ⟨v, vs, rfl, gNs_of (is := is) (vs := vs) (by simpa using e) q⟩
  | [], _ :: _, _, _, _, e, _ => by simp at e
  | _ :: _, [], _, _, _, e, _ => by simp at e
def allNm : List Expr → Bool
  | [] => true
  | .Name _ _ :: es => allNm es
  | _ :: _ => false
theorem allNm_len (env : Env) : ∀ {es : List Expr}, allNm es = true → (assignEach es env).length = es.length ∧ (assignEach es env).findIdx? (·.1) = none
  | [], _ => ⟨rfl, rfl⟩
  | e :: es, h => by
    cases e <;> first | (simp [allNm] at h; done) | skip
    obtain ⟨h1, h2⟩ := allNm_len env (es := es) h
    refine ⟨by simp [assignEach, h1], ?_⟩
    simp only [assignEach, List.findIdx?_cons]
    rw [h2]
    rfl
theorem matTs_nm {N : List Str} {sc : Scope} : ∀ {is : List Nat} {es : List Expr}, matT.matTs N sc is es = true → allNm es = true ∧ is.length = es.length
  | [], [], _ => ⟨rfl, rfl⟩
  | [], _ :: _, h => by simp [matT.matTs] at h
  | _ :: _, [], h => by simp [matT.matTs] at h
  | i :: is, e :: es, h => by
    cases e <;> first | (simp [matT.matTs] at h; done) | skip
    simp only [matT.matTs, Bool.and_eq_true] at h
    obtain ⟨h1, h2⟩ := matTs_nm (is := is) (es := es) h.2
    exact ⟨h1, by simp [h2]⟩
theorem pgs_ns {N : List Str} {sc : Scope} (hN : X.N = N) (nd : X.N.Nodup) (hl : ∀ x, locB sc x = true → Loc X.env.scope x ∧ (X.fn x = true ∨ X.env.scope.names.lookup x = some .local)) : ∀ {is : List Nat} {es : List Expr}, matT.matTs N sc is es = true → PGs X es (gNs is)
  | [], [], _ => pgs_nil
  | [], _ :: _, h => by simp [matT.matTs] at h
  | _ :: _, [], h => by simp [matT.matTs] at h
  | i :: is, e :: es, h => by
    cases e <;> first | (simp [matT.matTs] at h; done) | skip
    simp only [matT.matTs, Bool.and_eq_true, decide_eq_true_eq] at h
    obtain ⟨⟨h1, h2⟩, h3⟩ := h
    obtain ⟨l1, l2⟩ := hl _ h2
    exact pgs_cons (pg_name nd (by rw [hN]; exact h1) l1 l2) (pgs_ns hN nd hl h3)
/-- the reading of a target -/
def gT (K : PySem.W.Frag) : MT → TG
  | .name i => gName i
  | .tup is => fun v σ H Q => gTup K is.length (gNs is) v σ H Q ∨ gLst K is.length (gNs is) v σ H Q
theorem pg_T {N : List Str} {sc : Scope} {t : MT} {e : Expr} (hc : X.calm = true) (hN : X.N = N) (nd : X.N.Nodup) (hl : ∀ x, locB sc x = true → Loc X.env.scope x ∧ (X.fn x = true ∨ X.env.scope.names.lookup x = some .local)) (h : matT N sc t e = true) : PG X e (gT X.K t) := by
  cases t with
  | name i =>
    cases e <;> first | (simp [matT] at h; done) | skip
    simp only [matT, Bool.and_eq_true, decide_eq_true_eq] at h
    obtain ⟨l1, l2⟩ := hl _ h.2
    exact pg_name nd (by rw [hN]; exact h.1) l1 l2
  | tup is =>
    cases e <;> first | (simp [matT] at h; done) | skip
    rename_i es kk pos
    simp only [matT] at h
    obtain ⟨a1, a2⟩ := matTs_nm h
    obtain ⟨b1, b2⟩ := allNm_len X.env a1
    have g := pgs_ns hN nd hl h
    exact PG.or (pg_tup hc g (by rw [b1, a2]) b2) (pg_lst hc g (by rw [b1, a2]) b2)
/-- what a target changes -/
def Upd (is : List Nat) (σ σ' : L2.St) : Prop := σ'.length = σ.length ∧ ∀ j, j ∉ is → σ'[j]? = σ[j]?
theorem foldl_upd : ∀ (is : List Nat) (vs : List V) (σ : L2.St), Upd is σ ((is.zip vs).foldl (fun s p => s.set p.1 (some p.2)) σ)
  | [], _, σ => ⟨rfl, fun _ _ => rfl⟩
  | _ :: _, [], σ => ⟨rfl, fun _ _ => rfl⟩
  | i :: is, v :: vs, σ => by
    obtain ⟨h1, h2⟩ := foldl_upd is vs (σ.set i (some v))
    refine ⟨by rw [← List.length_set (as := σ) (i := i) (a := some v)]; exact h1, fun j hj => ?_⟩
    simp only [List.mem_cons, not_or] at hj
    refine (h2 j hj.2).trans ?_
    rw [List.getElem?_set_ne (Ne.symm hj.1)]
theorem gT_ok {t : MT} {v : V} {d : D} {ρ : Rho} {σ : L2.St} {k : Rho → Prop} {Q : L2.St → Hp → Prop} (b : bindT t d ρ k) (x : Dx K CA F v d) (r : Rp K CA F ρ σ) (s : Hs K CA F R μ H)
    (q : ∀ ρ' σ', k ρ' → Rp K CA F ρ' σ' → Upd t.slots σ σ' → Q σ' H) : gT K t v σ H Q := by
  cases t with
  | name i => exact q _ _ b (r.set i x) ⟨by simp, fun j hj => by rw [List.getElem?_set_ne (by simp [MT.slots] at hj; exact Ne.symm hj)]⟩
  | tup is =>
    have go : ∀ {vs : List V} {ds : List D}, DxA K CA F vs ds → (ifR (bindAll is ds ρ) k) → is.length = vs.length ∧ Q ((is.zip vs).foldl (fun s p => s.set p.1 (some p.2)) σ) H := fun {vs ds} a e => by
      cases z : bindAll is ds ρ with
      | none => rw [z] at e; exact e.elim
      | some ρ' =>
        rw [z] at e
        obtain ⟨h1, h2⟩ := bindAll_ok z a r
        exact ⟨h1, q _ _ e h2 (foldl_upd is vs σ)⟩
    cases x with
    | tup a c =>
      obtain ⟨h1, h2⟩ := go c b
      exact .inl ⟨_, _, rfl, seqT s.f a, h1.symm, gNs_of h1 h2⟩
    | lst a c =>
      obtain ⟨h1, h2⟩ := go c b
      exact .inr ⟨_, _, rfl, s.f.seq a, h1.symm, gNs_of h1 h2⟩
    | _ => exact b.elim
theorem own_slots {N : List Str} {sc : Scope} {t : MT} {e : Expr} (h : matT N sc t e = true) : (ownOf t e).map (·.2) = t.slots := by
  cases t with
  | name i => cases e <;> first | (simp [matT] at h; done) | rfl
  | tup is =>
    cases e <;> first | (simp [matT] at h; done) | skip
    rename_i es kk pos
    simp only [matT] at h
    have key : ∀ {is : List Nat} {es : List Expr}, matT.matTs N sc is es = true → (ownOf.ownOfs is es).map (·.2) = is := by
      intro is
      induction is with
      | nil => intro es _; cases es <;> rfl
      | cons i is ih =>
        intro es h
        cases es with
        | nil => simp [matT.matTs] at h
        | cons e es =>
          cases e <;> first | (simp [matT.matTs] at h; done) | skip
          simp only [matT.matTs, Bool.and_eq_true] at h
          simp only [ownOf.ownOfs, List.map_cons, ih h.2]
    exact key h
theorem wipe_get (σ : L2.St) (j : Nat) : ∀ vs : List Nat, (L2.wipe σ vs)[j]? = if j ∈ vs then (σ[j]?).map (fun _ => none) else σ[j]?
  | [] => by simp [L2.wipe]
  | v :: vs => by
    unfold L2.wipe
    by_cases e : j = v
    · subst e
      rw [if_pos (by simp)]
      by_cases hl : j < σ.length
      · rw [List.getElem?_set_self (by rw [wipe_length]; exact hl), List.getElem?_eq_getElem hl]; rfl
      · rw [List.getElem?_eq_none (by simp [wipe_length]; omega), List.getElem?_eq_none (by omega)]; rfl
    · rw [List.getElem?_set_ne (Ne.symm e), wipe_get σ j vs]
      simp [e]
theorem wipe_upd {is : List Nat} {σ σ' : L2.St} (h : Upd is (L2.wipe σ is) σ') : L2.wipe σ' is = L2.wipe σ is := by
  refine List.ext_getElem? fun j => ?_
  rw [wipe_get σ' j is, wipe_get σ j is]
  by_cases hj : j ∈ is
  · rw [if_pos hj, if_pos hj]
    have hl : σ'.length = σ.length := by rw [h.1, wipe_length]
    by_cases hlt : j < σ.length
    · rw [List.getElem?_eq_getElem hlt, List.getElem?_eq_getElem (by omega)]; rfl
    · rw [List.getElem?_eq_none (by omega), List.getElem?_eq_none (by omega)]
  · rw [if_neg hj, if_neg hj, h.2 j hj, wipe_get σ j is, if_neg hj]
end

/-! ### what is walked -/
section
variable {X : Cx} {K : PySem.W.Frag} {CA : Nat → Addr} {F R H : Hp} {μ : Mu}
theorem wk_lst {a : Addr} {vs : List V} {ds : List D} (h : SqL K F a vs) (x : DxA K CA F vs ds) : Wk K CA F (Itl K a) ds := by
  intro G R μ H g s i
  have sq : SqL K H a vs := s.f.seq (g.seq h)
  refine ⟨fun hi => ⟨vs, sq, by rw [x.length]; exact hi⟩, fun d hd => ?_⟩
  obtain ⟨u, h1, h2⟩ := x.get hd
  refine ⟨⟨vs, u, sq, h1⟩, fun y H' q => ?_⟩
  obtain ⟨e, q⟩ := q
  subst e
  have z := q vs sq
  rw [h1] at z; cases z
  exact ⟨G, Same.refl G, s, h2.mono g⟩
theorem wk_tup {a : Addr} {vs : List V} {ds : List D} (h : SqT K F a vs) (x : DxA K CA F vs ds) : Wk K CA F (Itt K a) ds := by
  intro G R μ H g s i
  have sq : SqT K H a vs := seqT s.f (seqT g h)
  refine ⟨fun hi => ⟨vs, sq, by rw [x.length]; exact hi⟩, fun d hd => ?_⟩
  obtain ⟨u, h1, h2⟩ := x.get hd
  refine ⟨⟨vs, u, sq, h1⟩, fun y H' q => ?_⟩
  obtain ⟨e, q⟩ := q
  subst e
  have z := q vs sq
  rw [h1] at z; cases z
  exact ⟨G, Same.refl G, s, h2.mono g⟩
theorem rngD_len (lo : Int) (n : Nat) : (rngD lo n).length = n := by simp [rngD]
theorem wk_rng (lo : Int) (n : Nat) : Wk K CA F (Itr lo n) (rngD lo n) := by
  intro G R μ H g s i
  refine ⟨fun hi => by rw [rngD_len] at hi; exact hi, fun d hd => ?_⟩
  have hi : i < n := by
    have := (List.getElem?_eq_some_iff.mp hd).1
    rw [rngD_len] at this; exact this
  refine ⟨hi, fun y H' q => ?_⟩
  obtain ⟨e, q⟩ := q
  subst e
  have e2 : d = .int (lo + (i : Int)) := by
    unfold rngD at hd
    rw [List.getElem?_map, List.getElem?_range hi] at hd
    exact (Option.some.inj hd).symm
  subst q e2
  exact ⟨G, Same.refl G, s, .int _⟩
theorem zipD_at {xs ys : List D} {i : Nat} {d : D} (h : (zipD xs ys)[i]? = some d) : ∃ x y, xs[i]? = some x ∧ ys[i]? = some y ∧ d = .tup [x, y] := by
  unfold zipD at h
  rw [List.getElem?_zipWith] at h
  cases e1 : xs[i]? with
  | none => rw [e1] at h; cases h
  | some x =>
    cases e2 : ys[i]? with
    | none => rw [e1, e2] at h; cases h
    | some y =>
      rw [e1, e2] at h
      exact ⟨x, y, rfl, rfl, (Option.some.inj h).symm⟩
theorem wk_zipL {a b : Addr} {vs us : List V} {ds es : List D} (h : SqL K F a vs) (x : DxA K CA F vs ds) (h' : SqL K F b us) (x' : DxA K CA F us es) : Wk K CA F (Itz K a b) (zipD ds es) := by
  intro G R μ H g s i
  have sq : SqL K H a vs := s.f.seq (g.seq h)
  have sq' : SqL K H b us := s.f.seq (g.seq h')
  refine ⟨fun hi => ⟨vs, us, sq, sq', ?_⟩, fun d hd => ?_⟩
  · simp only [zipD, List.length_zipWith] at hi
    rw [x.length, x'.length]
    omega
  · obtain ⟨p, q, e1, e2, rfl⟩ := zipD_at hd
    obtain ⟨u, h1, h2⟩ := x.get e1
    obtain ⟨w, h3, h4⟩ := x'.get e2
    refine ⟨⟨vs, us, u, w, sq, sq', h1, h3⟩, fun y H' z => ?_⟩
    obtain ⟨T, a1, a2, rfl, hT, rfl, z1, z2⟩ := z
    have q1 := z1 vs sq
    have q2 := z2 us sq'
    rw [h1] at q1; cases q1
    rw [h3] at q2; cases q2
    have sn : Same G (upd G T (.tup [u, w])) := same_new (s.ff hT)
    exact ⟨_, sn, s.new hT, .tup (.of upd_same) (.cons ((h2.mono g).mono sn) (.cons ((h4.mono g).mono sn) .nil))⟩
theorem wk_zipT {a b : Addr} {vs us : List V} {ds es : List D} (h : SqT K F a vs) (x : DxA K CA F vs ds) (h' : SqT K F b us) (x' : DxA K CA F us es) : Wk K CA F (RZ.ItzT K a b) (zipD ds es) := by
  intro G R μ H g s i
  have sq : SqT K H a vs := seqT s.f (seqT g h)
  have sq' : SqT K H b us := seqT s.f (seqT g h')
  refine ⟨fun hi => ⟨vs, us, sq, sq', ?_⟩, fun d hd => ?_⟩
  · simp only [zipD, List.length_zipWith] at hi
    rw [x.length, x'.length]
    omega
  · obtain ⟨p, q, e1, e2, rfl⟩ := zipD_at hd
    obtain ⟨u, h1, h2⟩ := x.get e1
    obtain ⟨w, h3, h4⟩ := x'.get e2
    refine ⟨⟨vs, us, u, w, sq, sq', h1, h3⟩, fun y H' z => ?_⟩
    obtain ⟨T, a1, a2, rfl, hT, rfl, z1, z2⟩ := z
    have q1 := z1 vs sq
    have q2 := z2 us sq'
    rw [h1] at q1; cases q1
    rw [h3] at q2; cases q2
    have sn : Same G (upd G T (.tup [u, w])) := same_new (s.ff hT)
    exact ⟨_, sn, s.new hT, .tup (.of upd_same) (.cons ((h2.mono g).mono sn) (.cons ((h4.mono g).mono sn) .nil))⟩
/-- a list or a tuple, walked -/
def iSeq (K : PySem.W.Frag) (tl : TE) : TI := fun σ H Rk => tl σ H fun x H1 => ∃ a, x = .ref a ∧ (((∃ xs, SqL K H1 a xs) ∧ Rk (Itl K a) H1) ∨ ((∃ xs, SqT K H1 a xs) ∧ Rk (Itt K a) H1))
theorem pi_seq {tg l : Expr} {tl : TE} (hl : PE X l tl) : PI X tg l (iSeq X.K tl) := by
  refine ⟨fun pins s σ H Rk I h => thn (hl.run pins s σ H _ I h) fun v s1 hv => ?_⟩
  obtain ⟨x, H1, I1, r1, a, ex, q⟩ := hv
  subst ex
  cases r1
  have fpk : ∀ b ∈ [s1.heap.objs.size], FpOk X pins H1 b := fun b hb => by
    have eb : b = s1.heap.objs.size := by simpa using hb
    rw [eb]
    exact I1.fpOk (Nat.le_refl _) (I1.hok.fresh (Nat.le_refl _))
  rcases q with ⟨⟨xs, hq⟩, q⟩ | ⟨⟨xs, hq⟩, q⟩
  · obtain ⟨its, _, pl, _⟩ := I1.list hq
    exact wpAny_pyIter_list pl.isList ⟨s1.heap.objs.size, [s1.heap.objs.size], _, _, H1, rfl, I1.kept (t' := s1.toks) fun _ _ e => Heap.get?_push_of_some _ e, turn_list a _, ⟨_, Heap.get?_push_size _ rfl, rfl, rfl⟩, fpk, q⟩
  · obtain ⟨its, _, pl, _⟩ := I1.tuple hq
    exact wpAny_pyIter_tuple (show s1.heap.IsTuple a its.toArray from pl) ⟨s1.heap.objs.size, [s1.heap.objs.size], _, _, H1, rfl, I1.kept (t' := s1.toks) fun _ _ e => Heap.get?_push_of_some _ e, turn_tuple a _, ⟨_, Heap.get?_push_size _ rfl, rfl, rfl⟩, fpk, q⟩
end
end Dl

namespace Dl
open PySem PySem.Spec PyProof.Rows L2 HT
section
variable {prog : Program} {w : World} {A : Around} {E : Value → Shared → Prop} {s : Shared}
theorem adjust_rev (n : Nat) : Builtin.Slice.sliceAdjust none none (-1) (n : Int) = ((n : Int) - 1, -1) := by
  unfold Builtin.Slice.sliceAdjust
  have h1 : ((-1 : Int) < 0) := by omega
  simp only [h1, if_true]
theorem places_rev (n : Nat) : Builtin.Slice.slicePlaces ((n : Int) - 1) (-1) (-1) = n := by
  unfold Builtin.Slice.slicePlaces
  have h1 : ¬ ((-1 : Int) > 0) := by omega
  simp only [h1, if_false]
  split
  · have : ((n : Int) - 1 - -1 - 1) / (- -1) + 1 = (n : Int) := by
      have e : (- -1 : Int) = 1 := by omega
      rw [e, Int.ediv_one]; omega
    rw [this]; simp
  · omega
theorem sliceApplied_rev {sl : Addr} {vl vu vs : Value} {n : Nat} {Q : Int × Int × Nat → Shared → Prop} (hs : s.heap.IsSliceOf sl vl vu vs) (pl : IsPart vl none) (pu : IsPart vu none) (ps : IsPart vs (some (-1)))
    (h : Q ((n : Int) - 1, -1, n) s) : wpAny (model prog w) A (Builtin.Slice.sliceApplied (.ref sl) (pure (n : Int))) Q E s := by
  obtain ⟨os, hos, hcs, hds⟩ := id hs
  unfold Builtin.Slice.sliceApplied Builtin.Slice.sliceFields
  refine wpAny_bind (wpAny_bind (wpAny_field hos hds (x := vl) rfl (wpAny_bind (wpAny_field hos hds (x := vu) rfl (wpAny_bind (wpAny_field hos hds (x := vs) rfl (wpAny_pure ?_)))))))
  refine wpAny_bind (slicePart_ ps ?_)
  show wpAny _ _ (if ((-1 : Int) == 0) = true then _ else _) _ _ s
  rw [if_neg (by decide)]
  refine wpAny_bind (slicePart_ pl (wpAny_bind (slicePart_ pu (wpAny_bind (wpAny_pure ?_)))))
  show wpAny _ _ (match Builtin.Slice.sliceAdjust none none (-1) (n : Int) with | (lo, hi) => pure (lo, (-1 : Int), Builtin.Slice.slicePlaces lo hi (-1))) _ _ s
  rw [adjust_rev n]
  show wpAny _ _ (pure ((n : Int) - 1, (-1 : Int), Builtin.Slice.slicePlaces ((n : Int) - 1) (-1) (-1))) _ _ s
  rw [places_rev]
  exact wpAny_pure h
theorem fm_map {α β : Type} {f : α → Option β} {g : α → β} : ∀ l : List α, (∀ m ∈ l, f m = some (g m)) → l.filterMap f = l.map g
  | [], _ => rfl
  | a :: l, h => by
    rw [List.filterMap_cons, h a (by simp), fm_map l fun m hm => h m (by simp [hm])]
    rfl
theorem pick_rev (xs : Array Value) : ((List.range xs.size).filterMap fun (m : Nat) => xs[(((xs.size : Int) - 1) + (m : Int) * (-1)).toNat]?).toArray = xs.toList.reverse.toArray := by
  congr 1
  have e : (List.range xs.size).filterMap (fun (m : Nat) => xs[(((xs.size : Int) - 1) + (m : Int) * (-1)).toNat]?) = (List.range xs.size).map fun m => xs.toList.reverse.getD m .none := by
    refine fm_map _ fun m hm => ?_
    have hm := List.mem_range.mp hm
    have h1 : (((xs.size : Int) - 1) + (m : Int) * (-1)).toNat = xs.size - 1 - m := by omega
    rw [h1]
    simp [List.getD, List.getElem?_reverse, hm]
  rw [e]
  refine List.ext_getElem (by simp) fun i h1 h2 => ?_
  simp at h1 h2
  simp [List.getD, h1]
theorem getItem_tuple_rev {t sl : Addr} {items : Array Value} {vl vu vs : Value} {Q : Value → Shared → Prop} (ht : IsTup s.heap t items) (hs : s.heap.IsSliceOf sl vl vu vs) (pl : IsPart vl none) (pu : IsPart vu none) (ps : IsPart vs (some (-1)))
    (h : Q (.ref s.heap.objs.size) { s with heap := s.heap.push { cls := .type "tuple", data := .seq items.toList.reverse.toArray } })
    (hsz : items.size ≤ sizeLine) : wpAny (model prog w) A (getItem (.ref t) (.ref sl)) Q E s := by
  have htake : sizeOk (.seq items.toList.reverse.toArray) := by
    show items.toList.reverse.toArray.size ≤ sizeLine
    rw [List.size_toArray, List.length_reverse, Array.length_toList]
    omega
  obtain ⟨os, hos, hcs, hds⟩ := id hs
  have hTs : s.TypeIs (.ref sl) "slice" := ⟨os, hos, hcs⟩
  unfold getItem
  try with_reducible refine wpAny_holding ?_
  first | refine wpAny_bind (wpAny_pure ?_) | skip
  refine wpAny_bind (wpAny_sequenceKey ht.typeIs (by decide) ?_)
  refine wpAny_bind (wpAny_callSpecial?_slot (name := Str.ofString "__getitem__") ht.typeIs PyProof.Rows.slot_tuple_getitem
    (wpAny_call_entry PyProof.Rows.slot_tuple_getitem ht.typeIs entry_tuple_getitem ?_ (args_tuple_getitem _ _)))
  show wpAny _ _ (Builtin.Tuple.tupleItemsOf (.ref t) >>= _) _ _ s
  refine wpAny_bind (tupleItemsOf_ ht ?_)
  refine wpAny_bind (wpAny_typeOf hTs ?_)
  rw [if_pos (by decide)]
  refine wpAny_bind (sliceApplied_rev hs pl pu ps ?_)
  have hno : ¬ ((((items.size : Int) - 1) == 0 && (-1 : Int) == 1 && items.size == items.size) = true) := by simp
  show wpAny _ _ (if ((((items.size : Int) - 1) == 0 && (-1 : Int) == 1 && items.size == items.size) = true) then _ else _) _ _ s
  rw [if_neg hno, pick_rev]
  first
    | exact wpAny_bind (m := Builtin.Tuple.tupleExact _) (wpAny_newObj_type (wpAny_pure ⟨_, rfl, wpAny_pure h⟩) htake)
    | exact wpAny_bind (m := Builtin.Tuple.tupleExact _) (wpAny_newObj_type (wpAny_bind (wpAny_pure (wpAny_pure ⟨_, rfl, wpAny_pure h⟩))) htake)
    | exact wpAny_bind (wpAny_bind (m := Builtin.Tuple.tupleExact _) (wpAny_newObj_type (wpAny_pure (wpAny_pure ⟨_, rfl, wpAny_pure h⟩)) htake))
    | exact wpAny_bind (wpAny_bind (m := Builtin.Tuple.tupleExact _) (wpAny_newObj_type (wpAny_pure ⟨_, rfl, wpAny_pure h⟩) htake))
end
section
variable {X : Cx}
def tRevB (K : PySem.W.Frag) (te : TE) : TE := fun σ H Q => te σ H fun x H1 => (∃ a xs, x = .ref a ∧ SqL K H1 a xs ∧ ∀ p, H1 p = none → Q (.ref p) (upd H1 p (.lst xs.reverse))) ∨ (∃ a xs, x = .ref a ∧ SqT K H1 a xs ∧ ∀ p, H1 p = none → Q (.ref p) (upd H1 p (.tup xs.reverse)))
theorem pe_revB {e : Expr} {te : TE} {k : Nat} {p1 p2 p3 pos : Pos} (he : PE X e te) : PE X (.Subscript e (.Slice none none (some (.UnaryOp .USub (.Constant (.int 1) k p1) p2)) p3) pos) (tRevB X.K te) := by
  refine ⟨fun pins s σ H Q I h => ?_⟩
  refine Subscript_ (thn (he.run pins s σ H _ I h) fun v s1 ⟨x, H1, I1, r1, q1⟩ => ?_)
  have hst : PO X (some (.UnaryOp .USub (.Constant (.int 1) k p1) p2)) (tPart (tUn (rU fun i => .int (-i)) (tC (.int 1)))) := po_some (pe_un un_neg pe_int)
  refine wpAny_Slice (thn (po_none.run pins s1 σ H1 (fun o H2 => o = none ∧ H2 = H1) I1 ⟨rfl, rfl⟩) fun vl s2 ⟨l, H2, I2, pl, el, e2⟩ => ?_)
  subst el e2
  refine thn (po_none.run pins s2 σ H2 (fun o H3 => o = none ∧ H3 = H2) I2 ⟨rfl, rfl⟩) fun vu s3 ⟨u, H3, I3, pu, eu, e3⟩ => ?_
  subst eu e3
  refine thn (hst.run pins s3 σ H3 (fun o H4 => o = some (-1) ∧ H4 = H3) I3 ⟨1, rfl, -1, rfl, rfl, rfl⟩) fun vs s4 ⟨o, H4, I4, ps, eo, e4⟩ => ?_
  subst eo e4
  have I5 : Inv X pins σ H4 { s4 with heap := s4.heap.push { cls := .type "slice", data := .fields #[vl, vu, vs] } } := I4.kept (t' := s4.toks) fun b ob q => Heap.get?_push_of_some _ q
  rcases q1 with ⟨a, xs, ex, hx, q⟩ | ⟨a, xs, ex, hx, q⟩
  · subst ex
    cases r1
    obtain ⟨its, r, ht, hz⟩ := I5.list hx
    have hlen := r.length
    show wpAny (model X.prog X.w) X.A (subscriptTail e (.Slice none none (some (.UnaryOp .USub (.Constant (.int 1) k p1) p2)) p3) (.ref a) (.ref s4.heap.objs.size)) (EP X pins σ Q) X.xe { s4 with heap := s4.heap.push { cls := .type "slice", data := .fields #[vl, vu, vs] } }
    refine tail_any (ops := [.ref a, .ref s4.heap.objs.size]) ht.isList.typeIs (PySem.slot_list_getitem.lookup) ?_ (by with_unfolding_all rfl)
    refine wpAny_getItem_list_slice ht.isList (Heap.IsSliceOf.new _ vl vu vs) pl pu ps (by decide) ?_ (by rw [List.size_toArray]; omega)
    rw [PySem.W.krv_pick]
    refine ⟨.ref _, _, I5.laid (t' := s4.toks) (o := .lst xs.reverse) (fun b ob q => Heap.get?_push_of_some _ q) (Nat.le_refl _) ?_, rfl, q _ (I5.hok.fresh (Nat.le_refl _))⟩
    exact ⟨by rw [List.length_reverse]; exact hz, _, 0, r.reverse, Heap.get?_push_size _ rfl⟩
  · subst ex
    cases r1
    obtain ⟨its, r, ht, hz⟩ := I5.tuple hx
    have hlen := r.length
    show wpAny (model X.prog X.w) X.A (subscriptTail e (.Slice none none (some (.UnaryOp .USub (.Constant (.int 1) k p1) p2)) p3) (.ref a) (.ref s4.heap.objs.size)) (EP X pins σ Q) X.xe { s4 with heap := s4.heap.push { cls := .type "slice", data := .fields #[vl, vu, vs] } }
    refine tail_any (ops := [.ref a, .ref s4.heap.objs.size]) ht.typeIs (PyProof.Rows.slot_tuple_getitem.lookup) ?_ (by with_unfolding_all rfl)
    refine getItem_tuple_rev ht (Heap.IsSliceOf.new _ vl vu vs) pl pu ps ?_ (by rw [List.size_toArray]; omega)
    refine ⟨.ref _, _, I5.laid (t' := s4.toks) (o := .tup xs.reverse) (fun b ob q => Heap.get?_push_of_some _ q) (Nat.le_refl _) ?_, rfl, q _ (I5.hok.fresh (Nat.le_refl _))⟩
    exact ⟨by rw [List.length_reverse]; exact hz, _, r.reverse, IsTup.new _ _⟩
end
end Dl

/-! The data layer, part F: expressions keep what the small syntax computes. -/
namespace Dl
open PySem L2 PyProof.Rows
variable [NC]

theorem pe_imp {X : Cx} {e : Expr} {t t' : TE} (h : PE X e t) (i : ∀ σ H Q, t' σ H Q → t σ H Q) : PE X e t' := ⟨fun pins s σ H Q I q => h.run pins s σ H Q I (i σ H Q q)⟩
theorem pt_imp {X : Cx} {e : Expr} {t t' : TT} (h : PT X e t) (i : ∀ σ H Q, t' σ H Q → t σ H Q) : PT X e t' := ⟨fun pins s σ H Q I q => h.run pins s σ H Q I (i σ H Q q)⟩
theorem pw_imp {X : Cx} {e : Expr} {t t' : TT} (h : PW X e t) (i : ∀ σ H Q, t' σ H Q → t σ H Q) : PW X e t' := ⟨fun wh pins s σ H Q I q => h.run wh pins s σ H Q I (i σ H Q q)⟩
theorem pa_imp {X : Cx} {e : List Expr} {t t' : TA} (h : PA X e t) (i : ∀ σ H Q, t' σ H Q → t σ H Q) : PA X e t' := ⟨fun po pins s σ H Q I q => h.run po pins s σ H Q I (i σ H Q q)⟩
theorem po_imp {X : Cx} {e : Option Expr} {t t' : TO} (h : PO X e t) (i : ∀ σ H Q, t' σ H Q → t σ H Q) : PO X e t' := ⟨fun pins s σ H Q I q => h.run pins s σ H Q I (i σ H Q q)⟩
theorem pts_imp {X : Cx} {e : List Expr} {t t' : TT} (h : PTs X e t) (i : ∀ σ H Q, t' σ H Q → t σ H Q) : PTs X e t' := ⟨fun pins s σ H Q I q => h.run pins s σ H Q I (i σ H Q q)⟩
theorem pi_imp {X : Cx} {tg e : Expr} {t t' : TI} (h : PI X tg e t) (i : ∀ σ H Q, t' σ H Q → t σ H Q) : PI X tg e t' := ⟨fun pins s σ H Q I q => h.run pins s σ H Q I (i σ H Q q)⟩
theorem dbg_ok {x : Str} (h : dbg x = true) : (x == ("__debug__" : Str)) = false := by
  unfold dbg at h
  simpa using h
theorem ifB_some {o : Option Bool} {P : Bool → Prop} (h : ifB o P) : ∃ b, o = some b ∧ P b := by
  cases o with
  | none => exact h.elim
  | some b => exact ⟨b, rfl, h⟩
theorem ifD_some {o : Option D} {P : D → Prop} (h : ifD o P) : ∃ b, o = some b ∧ P b := by
  cases o with
  | none => exact h.elim
  | some b => exact ⟨b, rfl, h⟩
theorem ifL_some {o : Option (List D)} {P : List D → Prop} (h : ifL o P) : ∃ b, o = some b ∧ P b := by
  cases o with
  | none => exact h.elim
  | some b => exact ⟨b, rfl, h⟩
theorem isNon_ok {K : PySem.W.Frag} {CA : Nat → Addr} {F : Hp} {v : V} {d : D} (x : Dx K CA F v d) : decide (v = .non) = isNon d := by
  cases x <;> first | rfl | (apply decide_eq_false; intro z; cases z)
theorem cmpD_bl {o : Cop} {d1 d2 : D} {μ : Mu} {Q : Pst} (h : cmpD o d1 d2 μ Q) : cmpD o d1 d2 μ (fun d μ => ∃ b, d = .bl b ∧ Q (.bl b) μ) := by
  cases o with
  | eq => exact ⟨h.1, h.2.1, _, rfl, h.2.2⟩
  | ne => exact ⟨h.1, h.2.1, _, rfl, h.2.2⟩
  | lt => cases d1 <;> first | exact h.elim | (cases d2 <;> first | exact h.elim | exact ⟨_, rfl, h⟩)
  | le => cases d1 <;> first | exact h.elim | (cases d2 <;> first | exact h.elim | exact ⟨_, rfl, h⟩)
  | gt => cases d1 <;> first | exact h.elim | (cases d2 <;> first | exact h.elim | exact ⟨_, rfl, h⟩)
  | ge => cases d1 <;> first | exact h.elim | (cases d2 <;> first | exact h.elim | exact ⟨_, rfl, h⟩)
  | is_ => cases d1 <;> first | exact h.elim | (cases d2 <;> first | exact h.elim | exact ⟨_, rfl, h⟩)
  | isnt => cases d1 <;> first | exact h.elim | (cases d2 <;> first | exact h.elim | exact ⟨_, rfl, h⟩)
  | eqm =>
    cases d1 <;> first | exact h.elim | skip
    rename_i p
    simp only [cmpD] at h ⊢
    cases e : μ p with
    | none => rw [e] at h; exact h.elim
    | some ds => rw [e] at h; exact ⟨h.1, h.2.1, _, rfl, h.2.2⟩
  | nem =>
    cases d1 <;> first | exact h.elim | skip
    rename_i p
    simp only [cmpD] at h ⊢
    cases e : μ p with
    | none => rw [e] at h; exact h.elim
    | some ds => rw [e] at h; exact ⟨h.1, h.2.1, _, rfl, h.2.2⟩
  | in_ => cases d2 <;> first | exact h.elim | exact ⟨h.1, h.2.1, _, rfl, h.2.2⟩
  | notin => cases d2 <;> first | exact h.elim | exact ⟨h.1, h.2.1, _, rfl, h.2.2⟩
  | inT => cases d2 <;> first | exact h.elim | exact ⟨h.1, h.2.1, _, rfl, h.2.2⟩
  | notinT => cases d2 <;> first | exact h.elim | exact ⟨h.1, h.2.1, _, rfl, h.2.2⟩

section
variable (CA : Nat → Addr) (CN : Nat → Str) (nC : Nat)
def SE (m : ME) : Prop := ∀ {X : Cx} {k : Nat} {W : WX} {e : Expr}, Gd X k W CA CN nC → matE CN X.N X.env.scope m e = true → okE nC (FnSat CA X k) (GlSat CA X) m → PE X e (tE X.K CA W m)
def ST (m : ME) : Prop := ∀ {X : Cx} {k : Nat} {W : WX} {e : Expr}, Gd X k W CA CN nC → matE CN X.N X.env.scope m e = true → okE nC (FnSat CA X k) (GlSat CA X) m → tst m = true → PT X e (tT X.K CA W m)
def SA (m : MA) : Prop := ∀ {X : Cx} {k : Nat} {W : WX} {e : List Expr}, Gd X k W CA CN nC → matA CN X.N X.env.scope m e = true → okA nC (FnSat CA X k) (GlSat CA X) m → PA X e (tA X.K CA W m)
/-- a bool operation's members -/
def SL (m : MA) : Prop := ∀ {X : Cx} {k : Nat} {W : WX} {e : List Expr} {pos : Pos} {isAnd : Bool} {op : BoolOp}, op = (if isAnd then .And else .Or) → Gd X k W CA CN nC → matA CN X.N X.env.scope m e = true → okA nC (FnSat CA X k) (GlSat CA X) m →
  PE X (.BoolOp op e pos) (Gr X.K CA (Dx X.K CA) (wpL isAnd m) W) ∧
    (tsts m = true → PW X (.BoolOp op e pos) (Gr X.K CA (fun _ (b : Bool) d => b = d) (fun ρ μ Q X => wpL isAnd m ρ μ (fun d μ1 => ifB (truD d μ1) fun b => Q b μ1) X) W))
def SO (m : MO) : Prop := (∀ {X : Cx} {k : Nat} {W : WX} {e : Option Expr}, Gd X k W CA CN nC → matO CN X.N X.env.scope m e = true → okO nC (FnSat CA X k) (GlSat CA X) m → PO X e (tO X.K CA W m)) ∧
  ∀ {X : Cx} {k : Nat} {W : WX} {e : List Expr}, Gd X k W CA CN nC → matC CN X.N X.env.scope m e = true → okO nC (FnSat CA X k) (GlSat CA X) m → PTs X e (tQ X.K CA W m)
def SI (m : MI) : Prop := ∀ {X : Cx} {k : Nat} {W : WX} {t e : Expr}, Gd X k W CA CN nC → matI CN X.N X.env.scope m t e = true → okI nC (FnSat CA X k) (GlSat CA X) m → PI X t e (tI X.K CA W m)
end
section
variable {CA : Nat → Addr} {CN : Nat → Str} {nC : Nat}
theorem truth_of {X : Cx} {W : WX} {e : Expr} {m : ME} (h : PE X e (tE X.K CA W m)) (hp : plainT e = true) : PT X e (tT X.K CA W m) := by
  refine pt_imp (pt_truth h (fun w => plainT_ok hp X.env w)) fun σ H Q q => ?_
  obtain ⟨F, R, ρ, μ, Y, Qd, s, w, k⟩ := q
  refine Gr.mk s w fun d μ' v F' H' q f s' x => ?_
  obtain ⟨b, e1, q⟩ := ifB_some q
  exact ⟨b, truD_ok e1 x s'.hs, k b μ' b F' H' q f s'.hs rfl⟩
theorem plainly {m : ME} (hE : SE CA CN nC m) (hp : ∀ {N : List Str} {sc : Scope} {e : Expr}, matE CN N sc m e = true → plainT e = true) : SE CA CN nC m ∧ ST CA CN nC m :=
  ⟨hE, fun g h o _ => truth_of (hE g h o) (hp h)⟩
/-- the block of a comprehension -/
theorem Gd.blk {X : Cx} {k : Nat} {W : WX} (g : Gd X k W CA CN nC) (s : Shared) (H : Hp) (scope : Scope) (C : Addr) (cl : List (Str × Addr)) (fp : List Addr) :
    Gd (X.blk s H scope (compEnvC scope cl C X.env) fp) k (fun _ _ _ _ => False) CA CN nC where
  calm := g.calm
  nd := g.nd
  room := g.room
  grd := g.grd
  tk := takes0
  pass := PassesOwn.never
  wd := ⟨g.wd.blt, g.wd.cls, g.wd.inj⟩
  dbg := g.dbg
  seer := ⟨g.seer.ns, g.seer.tree, g.seer.top, g.seer.dep⟩

theorem se_var (i : Nat) : SE CA CN nC (.var i) := by
  intro X k W e g h o
  cases e <;> first | (simp [matE] at h; done) | skip
  simp only [matE, Bool.and_eq_true, decide_eq_true_eq] at h
  have dd := g.dbg _ (List.mem_of_getElem? h.1)
  refine pe_imp (pe_var h.1 (visB_ok h.2) dd.1 dd.2) fun σ H Q q => ?_
  obtain ⟨F, R, ρ, μ, Y, Qd, s, w, k⟩ := q
  obtain ⟨d, e1, w⟩ := ifD_some w
  obtain ⟨v, hv, x⟩ := s.rp.at_ _ d e1
  exact ⟨v, hv, k _ _ _ _ _ w (Same.refl F) s.hs x⟩
theorem tC_of {K : PySem.W.Frag} {W : WX} {m : ME} {v : V} {d : D} (hx : ∀ F, Dx K CA F v d) (hw : ∀ ρ μ Q X, wpE m ρ μ Q X → Q d μ) (σ : L2.St) (H : Hp) (Q : VK) (q : tE K CA W m σ H Q) : tC v σ H Q := by
  obtain ⟨F, R, ρ, μ, Y, Qd, s, w, k⟩ := q
  exact k _ _ _ _ _ (hw _ _ _ _ w) (Same.refl F) s.hs (hx F)
theorem se_non : SE CA CN nC .non := by
  intro X k W e g h o
  cases e <;> first | (simp [matE] at h; done) | skip
  rename_i c n p
  cases c <;> first | (simp [matE] at h; done) | skip
  exact pe_imp pe_non (tC_of (fun _ => .non) fun _ _ _ _ w => w)
theorem se_bl (b : Bool) : SE CA CN nC (.bl b) := by
  intro X k W e g h o
  cases e <;> first | (simp [matE] at h; done) | skip
  rename_i c n p
  cases c <;> first | (simp [matE] at h; done) | skip
  simp only [matE, beq_iff_eq] at h
  subst h
  exact pe_imp pe_bl (tC_of (fun _ => .bl _) fun _ _ _ _ w => w)
theorem se_int (b : Int) : SE CA CN nC (.int b) := by
  intro X k W e g h o
  cases e <;> first | (simp [matE] at h; done) | skip
  rename_i c n p
  cases c <;> first | (simp [matE] at h; done) | skip
  simp only [matE, beq_iff_eq] at h
  subst h
  exact pe_imp pe_int (tC_of (fun _ => .int _) fun _ _ _ _ w => w)
theorem se_str (b : Str) : SE CA CN nC (.str b) := by
  intro X k W e g h o
  cases e <;> first | (simp [matE] at h; done) | skip
  rename_i c n p
  cases c <;> first | (simp [matE] at h; done) | skip
  simp only [matE, decide_eq_true_eq] at h
  subst h
  exact pe_imp pe_str (tC_of (fun _ => .str _) fun _ _ _ _ w => w)
theorem se_glob (x : Str) (d : D) : SE CA CN nC (.glob x d) := by
  intro X k W e g h o
  cases e <;> first | (simp [matE] at h; done) | skip
  simp only [matE, Bool.and_eq_true, decide_eq_true_eq] at h
  obtain ⟨⟨h1, h2⟩, h3⟩ := h
  subst h1
  obtain ⟨u, v, hm, r, hx⟩ := o
  exact pe_imp (pe_glob (glB_ok h2) hm r (dbg_ok h3)) (tC_of hx fun _ _ _ _ w => w)
theorem se_bin {o : Op2} {a b : ME} (ia : SE CA CN nC a) (ib : SE CA CN nC b) : SE CA CN nC (.bin o a b) := by
  intro X k W e g h ok
  cases e <;> first | (simp [matE] at h; done) | skip
  simp only [matE, Bool.and_eq_true] at h
  obtain ⟨⟨h1, h2⟩, h3⟩ := h
  refine pe_imp (pe_op (rOp_ok g.seer h1) (ia g h2 ok.1) (ib g h3 ok.2)) fun σ H Q q => ?_
  obtain ⟨F, R, ρ, μ, Y, Qd, s, w, k⟩ := q
  refine Gr.mk s w fun d1 μ1 v1 F1 H1 q1 f1 s1 x1 => Gr.mk s1 q1 fun d2 μ2 v2 F2 H2 q2 f2 s2 x2 => ?_
  exact opD_ok q2 (x1.mono f2) x2 s2.hs fun d μ' v F' H' q f z x => k d μ' v F' H' q ((f1.trans f2).trans f) z x
theorem se_neg {a : ME} (ia : SE CA CN nC a) : SE CA CN nC (.neg a) := by
  intro X k W e g h ok
  cases e <;> first | (simp [matE] at h; done) | skip
  rename_i op l p
  cases op <;> first | (simp [matE] at h; done) | skip
  simp only [matE] at h
  refine pe_imp (pe_un un_neg (ia g h ok)) fun σ H Q q => ?_
  obtain ⟨F, R, ρ, μ, Y, Qd, s, w, k⟩ := q
  refine Gr.mk s w fun d1 μ1 v1 F1 H1 q1 f1 s1 x1 => ?_
  cases x1 <;> first | exact q1.elim | skip
  exact ⟨_, rfl, k _ _ _ _ _ q1 f1 s1.hs (.int _)⟩
theorem small_len {n : Nat} (h : n ≤ 1000) : n ≤ sizeLine := Nat.le_trans h (by decide)
theorem se_tup {a : MA} (ia : SA CA CN nC a) : SE CA CN nC (.tup a) := by
  intro X k W e g h ok
  cases e <;> first | (simp [matE] at h; done) | skip
  simp only [matE, Bool.and_eq_true, decide_eq_true_eq] at h
  refine pe_imp (pe_tup (ia g h.2 ok)) fun σ H Q q => ?_
  obtain ⟨F, R, ρ, μ, Y, Qd, s, w, k⟩ := q
  refine Gr.mk s w fun ds μ1 vs F1 H1 q1 f1 s1 x1 => ⟨by rw [x1.1.length, x1.2]; exact small_len h.1, fun p hp => ?_⟩
  have sn := same_new (o := .tup vs) (s1.hs.ff hp)
  exact k _ _ _ _ _ q1 (f1.trans sn) (s1.hs.new hp) (.tup (.of upd_same) (x1.1.mono sn))
theorem se_lst {a : MA} (ia : SA CA CN nC a) : SE CA CN nC (.lst a) := by
  intro X k W e g h ok
  cases e <;> first | (simp [matE] at h; done) | skip
  simp only [matE, Bool.and_eq_true, decide_eq_true_eq] at h
  refine pe_imp (pe_lst (ia g h.2 ok)) fun σ H Q q => ?_
  obtain ⟨F, R, ρ, μ, Y, Qd, s, w, k⟩ := q
  refine Gr.mk s w fun ds μ1 vs F1 H1 q1 f1 s1 x1 => ⟨by rw [x1.1.length, x1.2]; exact small_len h.1, fun p hp => ?_⟩
  have sn := same_new (o := .lst vs) (s1.hs.ff hp)
  exact k _ _ _ _ _ q1 (f1.trans sn) (s1.hs.new hp) (.lst (.of upd_same) (x1.1.mono sn))
theorem se_newl {a : MA} (ia : SA CA CN nC a) : SE CA CN nC (.newl a) := by
  intro X k W e g h ok
  cases e <;> first | (simp [matE] at h; done) | skip
  simp only [matE, Bool.and_eq_true, decide_eq_true_eq] at h
  refine pe_imp (pe_lst (ia g h.2 ok)) fun σ H Q q => ?_
  obtain ⟨F, R, ρ, μ, Y, Qd, s, w, k⟩ := q
  refine Gr.mk s w fun ds μ1 vs F1 H1 q1 f1 s1 x1 => ⟨by rw [x1.1.length, x1.2]; exact small_len h.1, fun p hp => ?_⟩
  exact k _ _ _ _ _ (q1 p (s1.hs.mf hp)) f1 (s1.hs.newM hp x1.1) (.ref p)
theorem se_ixc {a : ME} {n : Nat} (ia : SE CA CN nC a) : SE CA CN nC (.ixc a n) := by
  intro X k W e g h ok
  cases e <;> first | (simp [matE] at h; done) | skip
  rename_i v i p
  cases i <;> first | (simp [matE] at h; done) | skip
  rename_i c j p2
  cases c <;> first | (simp [matE] at h; done) | skip
  simp only [matE, Bool.and_eq_true, beq_iff_eq] at h
  obtain ⟨h1, h2⟩ := h
  subst h1
  refine pe_imp (pe_ix ix_seq (ia g h2 ok) pe_int (fun _ _ => rfl)) fun σ H Q q => ?_
  obtain ⟨F, R, ρ, μ, Y, Qd, s, w, k⟩ := q
  refine Gr.mk s w fun d1 μ1 v1 F1 H1 q1 f1 s1 x1 => ?_
  obtain ⟨d, e1, q1⟩ := ifD_some q1
  exact selI_ok (selN_I e1) x1 s1.hs fun u xu => k _ _ _ _ _ q1 f1 s1.hs xu
theorem se_ix {a i : ME} (ia : SE CA CN nC a) (ii : SE CA CN nC i) : SE CA CN nC (.ix a i) := by
  intro X k W e g h ok
  cases e <;> first | (simp [matE] at h; done) | skip
  simp only [matE, Bool.and_eq_true] at h
  obtain ⟨⟨h1, h2⟩, h3⟩ := h
  refine pe_imp (pe_ix ix_seq (ia g h2 ok.1) (ii g h3 ok.2) (notSl_ok h1)) fun σ H Q q => ?_
  obtain ⟨F, R, ρ, μ, Y, Qd, s, w, k⟩ := q
  refine Gr.mk s w fun d1 μ1 v1 F1 H1 q1 f1 s1 x1 => Gr.mk s1 q1 fun d2 μ2 v2 F2 H2 q2 f2 s2 x2 => ?_
  cases x2 <;> first | exact q2.elim | skip
  obtain ⟨d, e1, q2⟩ := ifD_some q2
  exact selI_ok e1 (x1.mono f2) s2.hs fun u xu => k _ _ _ _ _ q2 (f1.trans f2) s2.hs xu
theorem se_slc {a : ME} {lo hi : MO} (ia : SE CA CN nC a) (il : SO CA CN nC lo) (ih : SO CA CN nC hi) : SE CA CN nC (.slc a lo hi) := by
  intro X k W e g h ok
  cases e <;> first | (simp [matE] at h; done) | skip
  rename_i v i p
  cases i <;> first | (simp [matE] at h; done) | skip
  rename_i l u st p2
  cases st <;> first | (simp [matE] at h; done) | skip
  simp only [matE, Bool.and_eq_true] at h
  obtain ⟨⟨h1, h2⟩, h3⟩ := h
  refine pe_imp (pe_slice rSl_ok (ia g h1 ok.1) (il.1 g h2 ok.2.1) (ih.1 g h3 ok.2.2)) fun σ H Q q => ?_
  obtain ⟨F, R, ρ, μ, Y, Qd, s, w, k⟩ := q
  refine Gr.mk s w fun d1 μ1 v1 F1 H1 q1 f1 s1 x1 => Gr.mk s1 q1 fun d2 μ2 v2 F2 H2 q2 f2 s2 x2 => Gr.mk s2 q2 fun d3 μ3 v3 F3 H3 q3 f3 s3 x3 => ?_
  subst x2 x3
  exact slcD_ok q3 ((x1.mono f2).mono f3) s3.hs fun d μ' v F' H' q f z x => k d μ' v F' H' q (((f1.trans f2).trans f3).trans f) z x
theorem se_call {x : Str} {S : DSp} {a : MA} (ia : SA CA CN nC a) : SE CA CN nC (.call x S a) := by
  intro X k W e g h ok
  cases e <;> first | (simp [matE] at h; done) | skip
  rename_i fn args kws p
  cases fn <;> first | (simp [matE] at h; done) | skip
  cases args <;> first | (simp [matE] at h; done) | skip
  cases kws <;> first | (simp [matE] at h; done) | skip
  rename_i y yp e es
  simp only [matE, Bool.and_eq_true, decide_eq_true_eq] at h
  obtain ⟨⟨⟨h1, h2⟩, h3⟩, h4⟩ := h
  subst h1
  obtain ⟨⟨f, fd, ps, fo, fm, fk, fb⟩, oa⟩ := ok
  have st := matA_star h4
  simp only [List.all_cons, Bool.and_eq_true] at st
  refine pe_imp (pe_g fo g.grd g.room (glB_ok h2) fm fk fb (fun σ => passAt g.tk σ) (ia g h4 oa) (dbg_ok h3) (star_cons st.1 es X.env) (star_none st.2 p X.env)) fun σ H Q q => ?_
  obtain ⟨F, R, ρ, μ, Y, Qd, s, w, k⟩ := q
  refine Gr.mk s w fun ds μ1 vs F1 H1 q1 f1 s1 x1 => ?_
  exact ⟨F1, R, μ1, ds, Y, Qd, s1.hs, x1.1, q1, fun d μ' v F' H' q f z x => k d μ' v F' H' q (f1.trans f) z x, fun c μ' F' H' q f z => s1.xx c μ' F' H' q f z⟩
theorem se_bl1 {f : Bl1} {a : ME} (ia : SE CA CN nC a) : SE CA CN nC (.bl1 f a) := by
  intro X k W e g h ok
  cases e <;> first | (simp [matE] at h; done) | skip
  rename_i fn args kws p
  cases fn <;> first | (simp [matE] at h; done) | skip
  cases args with
  | nil => simp [matE] at h
  | cons e es =>
    cases es <;> first | (simp [matE] at h; done) | skip
    cases kws <;> first | (simp [matE] at h; done) | skip
    simp only [matE, Bool.and_eq_true, decide_eq_true_eq] at h
    obtain ⟨⟨⟨h1, h2⟩, h3⟩, h4⟩ := h
    subst h1
    refine pe_imp (pe_b1 g.grd (by have := g.room.un; omega) g.calm (glB_ok h2) (g.wd.blt _ (name_mem_b1 f)) h3 (ia g h4 ok)) fun σ H Q q => ?_
    obtain ⟨F, R, ρ, μ, Y, Qd, s, w, k⟩ := q
    refine Gr.mk s w fun d1 μ1 v1 F1 H1 q1 f1 s1 x1 => ?_
    exact b1D_ok q1 x1 s1.hs fun d μ' v F' H' q f z x => k d μ' v F' H' q (f1.trans f) z x
theorem se_bl2 {f : Bl2} {a b : ME} (ia : SE CA CN nC a) (ib : SE CA CN nC b) : SE CA CN nC (.bl2 f a b) := by
  intro X k W e g h ok
  cases e <;> first | (simp [matE] at h; done) | skip
  rename_i fn args kws p
  cases fn <;> first | (simp [matE] at h; done) | skip
  cases args with
  | nil => simp [matE] at h
  | cons e es =>
    cases es with
    | nil => simp [matE] at h
    | cons e2 es =>
      cases es <;> first | (simp [matE] at h; done) | skip
      cases kws <;> first | (simp [matE] at h; done) | skip
      simp only [matE, Bool.and_eq_true, decide_eq_true_eq] at h
      obtain ⟨⟨⟨⟨⟨h1, h2⟩, h3⟩, h4⟩, h5⟩, h6⟩ := h
      subst h1
      refine pe_imp (pe_b2 g.calm (glB_ok h2) (g.wd.blt _ (name_mem_b2 f)) h3 h4 (ia g h5 ok.1) (ib g h6 ok.2)) fun σ H Q q => ?_
      obtain ⟨F, R, ρ, μ, Y, Qd, s, w, k⟩ := q
      refine Gr.mk s w fun d1 μ1 v1 F1 H1 q1 f1 s1 x1 => Gr.mk s1 q1 fun d2 μ2 v2 F2 H2 q2 f2 s2 x2 => ?_
      exact b2D_ok q2 (x1.mono f2) x2 s2.hs fun d μ' v F' H' q f z x => k d μ' v F' H' q ((f1.trans f2).trans f) z x
theorem okE_isi {fs : Str → DSp → Prop} {gs : Str → D → Prop} {a : ME} {t : Ty} (h : okE nC fs gs (.isi a t)) : okE nC fs gs a ∧ (∀ c, t = .cls c → nC = NC.n ∧ c < NC.n) ∧ (t = .vErr → nC = NC.n) := by
  cases t with
  | cls c => exact ⟨h.2.2, fun c' e => by cases e; exact ⟨h.1, h.2.1⟩, fun e => (nomatch e)⟩
  | vErr => exact ⟨h.2, fun c' e => (nomatch e), fun _ => h.1⟩
  | _ => exact ⟨h, fun c' e => (nomatch e), fun e => (nomatch e)⟩
theorem se_isi {a : ME} {t : Ty} (ia : SE CA CN nC a) : SE CA CN nC (.isi a t) := by
  intro X k W e g h ok
  cases e <;> first | (simp [matE] at h; done) | skip
  rename_i fn args kws p
  cases fn <;> first | (simp [matE] at h; done) | skip
  cases args with
  | nil => simp [matE] at h
  | cons e es =>
    cases es with
    | nil => simp [matE] at h
    | cons e2 es =>
      cases e2 <;> first | (simp [matE] at h; done) | skip
      rename_i z zp
      cases es <;> first | (simp [matE] at h; done) | skip
      cases kws <;> first | (simp [matE] at h; done) | skip
      simp only [matE, Bool.and_eq_true, decide_eq_true_eq] at h
      obtain ⟨⟨⟨⟨⟨⟨h1, h2⟩, h3⟩, h4⟩, h5⟩, h6⟩, h7⟩ := h
      subst h1 h2
      obtain ⟨oa, oc, ov⟩ := okE_isi ok
      have e1 := star_cons h6 [.Name (t.name CN) zp] X.env
      have pz : PE X (.Name (t.name CN) zp) (tC (tyV2 CA t)) := pe_tyN g.wd (glB_ok h4) (dbg_ok h5) (fun c hc => by have := oc c hc; omega)
      refine pe_imp (pe_callB (call_isi.or call_isX) (glB_ok h3) (g.wd.blt _ name_mem_isi) boot_isinstance (pa_cons (ia g h7 oa) (pa_cons pz pa_nil rfl) e1) (by decide) (by decide) e1 rfl) fun σ H Q q => ?_
      obtain ⟨F, R, ρ, μ, Y, Qd, s, w, k⟩ := q
      refine Gr.mk s w fun d1 μ1 v1 F1 H1 q1 f1 s1 x1 => ?_
      obtain ⟨b, eb, q1⟩ := ifB_some q1
      exact isiD_ok g.wd oc ov eb x1 s1.hs (k _ _ _ _ _ q1 f1 s1.hs (.bl _))

theorem se_cmp {o : Cop} {a b : ME} (ia : SE CA CN nC a) (ib : SE CA CN nC b) : SE CA CN nC (.cmp o a b) ∧ ST CA CN nC (.cmp o a b) := by
  constructor
  · intro X k W e g h ok
    cases e <;> first | (simp [matE] at h; done) | skip
    rename_i l ops rs p
    cases ops with
    | nil => simp [matE] at h
    | cons op ops =>
      cases ops <;> first | (simp [matE] at h; done) | skip
      cases rs with
      | nil => simp [matE] at h
      | cons r rs =>
        cases rs <;> first | (simp [matE] at h; done) | skip
        simp only [matE, Bool.and_eq_true] at h
        obtain ⟨⟨⟨h1, h2⟩, h3⟩, h4⟩ := h
        refine pe_imp (pe_cmpR (rCmp_ok g.room h1) (ia g h3 ok.1) (ib g h4 ok.2) (notSet_in h2 op)) fun σ H Q q => ?_
        obtain ⟨F, R, ρ, μ, Y, Qd, s, w, k⟩ := q
        refine Gr.mk s w fun d1 μ1 v1 F1 H1 q1 f1 s1 x1 => Gr.mk s1 q1 fun d2 μ2 v2 F2 H2 q2 f2 s2 x2 => ?_
        exact cmpD_ok q2 (x1.mono f2) x2 s2.hs fun d μ' v F' H' q f z x => k d μ' v F' H' q ((f1.trans f2).trans f) z x
  · intro X k W e g h ok _
    cases e <;> first | (simp [matE] at h; done) | skip
    rename_i l ops rs p
    cases ops with
    | nil => simp [matE] at h
    | cons op ops =>
      cases ops <;> first | (simp [matE] at h; done) | skip
      cases rs with
      | nil => simp [matE] at h
      | cons r rs =>
        cases rs <;> first | (simp [matE] at h; done) | skip
        simp only [matE, Bool.and_eq_true] at h
        obtain ⟨⟨⟨h1, h2⟩, h3⟩, h4⟩ := h
        refine pt_imp (pt_cmpR (rCmp_ok g.room h1) (ia g h3 ok.1) (ib g h4 ok.2) (notSet_in h2 op)) fun σ H Q q => ?_
        obtain ⟨F, R, ρ, μ, Y, Qd, s, w, k⟩ := q
        refine Gr.mk s w fun d1 μ1 v1 F1 H1 q1 f1 s1 x1 => Gr.mk s1 q1 fun d2 μ2 v2 F2 H2 q2 f2 s2 x2 => ?_
        refine cmpD_ok (cmpD_bl q2) (x1.mono f2) x2 s2.hs fun d μ' v F' H' q f z x => ?_
        obtain ⟨b, rfl, q⟩ := q
        cases x
        exact ⟨b, rfl, k b μ' b F' H' q ((f1.trans f2).trans f) z rfl⟩
theorem se_isN {yes : Bool} {a : ME} (ia : SE CA CN nC a) : SE CA CN nC (.isN yes a) ∧ ST CA CN nC (.isN yes a) := by
  have inv : ∀ {N : List Str} {sc : Scope} {e : Expr}, matE CN N sc (.isN yes a) e = true → ∃ l j p1 p2, matE CN N sc a l = true ∧ e = .Compare l [if yes then .Is else .IsNot] [.Constant .none j p1] p2 := by
    intro N sc e h
    cases e <;> first | (cases yes <;> simp [matE] at h; done) | skip
    rename_i l ops rs p
    cases ops with
    | nil => cases yes <;> simp [matE] at h
    | cons op ops =>
      cases ops <;> first | (cases yes <;> simp [matE] at h; done) | skip
      cases rs with
      | nil => cases yes <;> cases op <;> simp [matE] at h
      | cons r rs =>
        cases rs <;> first | (cases yes <;> cases op <;> simp [matE] at h; done) | skip
        cases r <;> first | (cases yes <;> cases op <;> simp [matE] at h; done) | skip
        rename_i c j p1
        cases c <;> first | (cases yes <;> cases op <;> simp [matE] at h; done) | skip
        cases yes <;> cases op <;> first | (simp [matE] at h; done) | exact ⟨l, j, p1, p, by simpa [matE] using h, rfl⟩
  have pc : ∀ {X : Cx} {l : Expr} {j : Nat} {p1 : Pos} {ta : TE}, PE X l ta → PC X (if yes then .Is else .IsNot) l (.Constant .none j p1) (fun σ H Q => ta σ H fun x H1 => Q (.bl (decide (x = .non) == yes)) H1) := by
    intro X l j p1 ta hl
    cases yes with
    | true => exact ⟨fun pins s σ H Q I q => (pc_isN hl).run pins s σ H Q I (by simpa [tIsN] using q)⟩
    | false => exact ⟨fun pins s σ H Q I q => (pc_notN hl).run pins s σ H Q I (by simpa [tNotN] using q)⟩
  constructor
  · intro X k W e g h ok
    obtain ⟨l, j, p1, p2, hl, rfl⟩ := inv h
    refine pe_imp (pe_cmp (pc (ia g hl ok)) rfl) fun σ H Q q => ?_
    obtain ⟨F, R, ρ, μ, Y, Qd, s, w, k⟩ := q
    refine Gr.mk s w fun d1 μ1 v1 F1 H1 q1 f1 s1 x1 => ?_
    rw [isNon_ok x1]
    exact k _ _ _ _ _ q1 f1 s1.hs (.bl _)
  · intro X k W e g h ok _
    obtain ⟨l, j, p1, p2, hl, rfl⟩ := inv h
    refine pt_imp (pt_cmp (pc (ia g hl ok)) rfl) fun σ H Q q => ?_
    obtain ⟨F, R, ρ, μ, Y, Qd, s, w, k⟩ := q
    refine Gr.mk s w fun d1 μ1 v1 F1 H1 q1 f1 s1 x1 => ⟨_, rfl, ?_⟩
    rw [isNon_ok x1]
    exact k _ _ _ _ _ q1 f1 s1.hs rfl
theorem se_nt {a : ME} (ia : SE CA CN nC a ∧ ST CA CN nC a) : SE CA CN nC (.nt a) ∧ ST CA CN nC (.nt a) := by
  constructor
  · intro X k W e g h ok
    cases e <;> first | (simp [matE] at h; done) | skip
    rename_i op l p
    cases op <;> first | (simp [matE] at h; done) | skip
    simp only [matE] at h
    refine pe_imp (pe_notT (ia.1 g h ok)) fun σ H Q q => ?_
    obtain ⟨F, R, ρ, μ, Y, Qd, s, w, k⟩ := q
    refine Gr.mk s w fun d1 μ1 v1 F1 H1 q1 f1 s1 x1 => ?_
    obtain ⟨b, eb, q1⟩ := ifB_some q1
    exact ⟨b, truD_ok eb x1 s1.hs, k _ _ _ _ _ q1 f1 s1.hs (.bl _)⟩
  · intro X k W e g h ok ht
    cases e <;> first | (simp [matE] at h; done) | skip
    rename_i op l p
    cases op <;> first | (simp [matE] at h; done) | skip
    simp only [matE] at h
    refine pt_imp (pt_not (ia.2 g h ok ht)) fun σ H Q q => ?_
    obtain ⟨F, R, ρ, μ, Y, Qd, s, w, k⟩ := q
    refine Gr.mk (Qd := fun b μ1 => Qd (!b) μ1) s w fun b μ1 b' F1 H1 q1 f1 s1 x1 => ?_
    subst x1
    exact k _ _ _ _ _ q1 f1 s1.hs rfl
theorem se_ife {t a b : ME} (it : SE CA CN nC t ∧ ST CA CN nC t) (ia : SE CA CN nC a) (ib : SE CA CN nC b) : SE CA CN nC (.ife t a b) := by
  intro X k W e g h ok
  cases e <;> first | (simp [matE] at h; done) | skip
  simp only [matE, Bool.and_eq_true] at h
  obtain ⟨⟨⟨hz, h1⟩, h2⟩, h3⟩ := h
  refine pe_imp (pe_ifExp (it.2 g h1 ok.1 hz) (ia g h2 ok.2.1) (ib g h3 ok.2.2)) fun σ H Q q => ?_
  obtain ⟨F, R, ρ, μ, Y, Qd, s, w, k⟩ := q
  refine Gr.mk (Qd := fun (c : Bool) μ1 => if c = true then wpE a ρ μ1 Qd Y else wpE b ρ μ1 Qd Y) s w fun c μ1 c' F1 H1 q1 f1 s1 x1 => ?_
  subst x1
  cases c' with
  | true => exact Gr.mk s1 q1 fun d μ' v F' H' q f z x => k d μ' v F' H' q (f1.trans f) z.hs x
  | false => exact Gr.mk s1 q1 fun d μ' v F' H' q f z x => k d μ' v F' H' q (f1.trans f) z.hs x
theorem se_frz {a : ME} (ia : SE CA CN nC a) : SE CA CN nC (.frz a) := by
  intro X k W e g h ok
  simp only [matE, Bool.and_eq_true] at h
  refine pe_imp (ia g h.2 ok) fun σ H Q q => ?_
  obtain ⟨F, R, ρ, μ, Y, Qd, s, w, k⟩ := q
  refine Gr.mk s w fun d1 μ1 v1 F1 H1 q1 f1 s1 x1 => ?_
  cases x1 <;> first | exact q1.elim | skip
  case lst h a => exact k _ _ _ _ _ q1 f1 s1.hs (.lst h a)
  case ref p =>
    obtain ⟨ds, e1, q1⟩ := ifL_some q1
    obtain ⟨vs, z, xs, fp⟩ := s1.hs.freeze e1
    have sn := same_new (o := .lst vs) fp
    exact k _ _ _ _ _ q1 (f1.trans sn) z (.lst (.of upd_same) (xs.mono sn))
theorem relS_loc {sc scope : Scope} {x : Str} (h : locB scope x = true) : Loc (relS scope sc) x ∧ ((scope.names.lookup x == some .cell) = true ∨ (relS scope sc).names.lookup x = some .local) := by
  rcases locB_ok h with z | z
  · have e : (relS scope sc).names.lookup x = some .local := lookup_relS_keep (by decide) z
    exact ⟨.inl e, .inr e⟩
  · have e : (relS scope sc).names.lookup x = some .cell := lookup_relS_keep (by decide) z
    exact ⟨.inr e, .inl (by rw [z]; rfl)⟩
theorem lc_read {K : PySem.W.Frag} {W : WX} {mu : Bool} {tg : MT} {it : MI} {c : MO} {e : ME} (σ : L2.St) (H : Hp) (Q : VK) (q : tE K CA W (.lc mu tg it c e) σ H Q) :
    tLc (tI K CA W it) (gT K tg) (tQ K CA (fun _ _ _ _ => False) c) (tE K CA (fun _ _ _ _ => False) e) tg.slots σ H Q := by
  obtain ⟨F, R, ρ, μ, Y, Qd, s, w, k⟩ := q
  refine Gr.mk s w fun ds μ1 J F1 H1 q1 f1 s1 wk => ?_
  obtain ⟨hlen, hl⟩ := q1
  intro Dl hD
  have hR : R Dl = none := s1.hs.rf hD
  generalize hf : (fun d μ2 (k : Option D → Mu → Prop) => bindT tg d (wipeD ρ tg.slots) fun ρ1 => wpC c ρ1 μ2 (fun b μ3 => if b = true then wpE e ρ1 μ3 (fun y μ4 => k (some y) μ4) (fun _ _ => False) else k none μ3) (fun _ _ => False)) = f at hl
  refine ⟨fun i m H' => m = ds.length - i ∧ i ≤ ds.length ∧ ∃ F' μ' acc vacc, Same F1 F' ∧ Hs K CA F' (upd R Dl (.lst vacc)) μ' H' ∧ DxA K CA F' vacc acc ∧ acc.length ≤ i ∧ lcW f (ds.drop i) acc μ' (lcEnd mu Qd),
    ⟨ds.length, by simp, Nat.zero_le _, F1, μ1, [], [], Same.refl F1, s1.hs.hide hD, .nil, Nat.le_refl _, hl⟩, ?_⟩
  rintro i m H' ⟨rfl, hi, F', μ', acc, vacc, g, z, xa, la, hw⟩
  by_cases hlt : i < ds.length
  · have hd : ds.drop i = ds[i] :: ds.drop (i + 1) := List.drop_eq_getElem_cons hlt
    have hg : ds[i]? = some ds[i] := List.getElem?_eq_getElem hlt
    rw [hd] at hw
    obtain ⟨go, yl⟩ := (wk F' _ μ' H' g z i).2 _ hg
    refine .inr ⟨go, fun H'' => ∃ F'' μ'' acc' vacc', Same F1 F'' ∧ Hs K CA F'' (upd R Dl (.lst vacc')) μ'' H'' ∧ DxA K CA F'' vacc' acc' ∧ acc'.length ≤ i + 1 ∧ lcW f (ds.drop (i + 1)) acc' μ'' (lcEnd mu Qd), ?_, ?_⟩
    · rintro H'' ⟨F'', μ'', acc', vacc', a1, a2, a3, a4, a5⟩
      exact ⟨ds.length - (i + 1), by omega, rfl, hlt, F'', μ'', acc', vacc', a1, a2, a3, a4, a5⟩
    · intro x H2 hy
      obtain ⟨F2, g2, z2, x2⟩ := yl x H2 hy
      have hb : f ds[i] μ' fun o μ'' => lcW f (ds.drop (i + 1)) (acc ++ o.toList) μ'' (lcEnd mu Qd) := hw
      rw [← hf] at hb
      rw [hf] at hb
      have rp : Rp K CA F2 (wipeD ρ tg.slots) (L2.wipe σ tg.slots) := (s.rp.mono (f1.trans (g.trans g2))).wipe tg.slots
      refine gT_ok hb x2 rp z2 fun ρ' σ' hk rp' up => ⟨wipe_upd up, ?_⟩
      have sx : Sx K CA (fun _ _ _ _ => False) σ' F2 (upd R Dl (.lst vacc)) ρ' μ' (fun _ _ => False) H2 := ⟨z2, rp', fun _ _ _ _ q _ _ => q.elim⟩
      refine Gr.mk sx hk fun b μ3 b' F3 H3 q3 f3 s3 eb => ?_
      subst eb
      cases b' with
      | false =>
        have q3 : lcW f (ds.drop (i + 1)) (acc ++ []) μ3 (lcEnd mu Qd) := q3
        rw [List.append_nil] at q3
        show ∃ F'' μ'' acc' vacc', _
        exact ⟨F3, μ3, acc, vacc, g.trans (g2.trans f3), s3.hs, xa.mono (g2.trans f3), Nat.le_succ_of_le la, q3⟩
      | true =>
        have q3 : wpE e ρ' μ3 (fun y μ4 => lcW f (ds.drop (i + 1)) (acc ++ [y]) μ4 (lcEnd mu Qd)) (fun _ _ => False) := q3
        refine Gr.mk s3 q3 fun y μ4 v F4 H4 q4 f4 s4 xy => ?_
        refine ⟨vacc, s4.hs.r Dl _ upd_same, by rw [xa.length]; exact line_lt (by omega), F4, μ4, acc ++ [y], vacc ++ [v], g.trans (g2.trans (f3.trans f4)), s4.hs.hset, (xa.mono (g2.trans (f3.trans f4))).append (.cons xy .nil), ?_, q4⟩
        rw [List.length_append, List.length_singleton]
        omega
  · have ei : i = ds.length := by omega
    subst ei
    rw [List.drop_length] at hw
    have hw : lcEnd mu Qd acc μ' := hw
    refine .inl ⟨(wk F' _ μ' H' g z ds.length).1 (Nat.le_refl _), ?_⟩
    cases mu with
    | true =>
    obtain ⟨z', hn⟩ := z.bareM hR xa
    exact k _ _ _ _ _ (hw _ hn) (f1.trans g) z' (.ref Dl)
    | false =>
    have hw : Qd (.lst acc) μ' := hw
    obtain ⟨z', fp, hp⟩ := z.bare hR
    have sn := same_new (o := .lst vacc) fp
    exact k _ _ _ _ _ hw (f1.trans (g.trans sn)) z' (.lst (.of upd_same) (xa.mono sn))
theorem se_lc {mu : Bool} {tg : MT} {it : MI} {c : MO} {e : ME} (ii : SI CA CN nC it) (ic : SO CA CN nC c) (ie : SE CA CN nC e) : SE CA CN nC (.lc mu tg it c e) := by
  intro X k W ex g h ok
  cases ex <;> first | (simp [matE] at h; done) | skip
  rename_i elt gens scope p
  cases gens with
  | nil => simp [matE] at h
  | cons gn gens =>
    cases gens <;> first | (simp [matE] at h; done) | skip
    obtain ⟨t, i, ifs, as⟩ := gn
    simp only [matE, Bool.and_eq_true, decide_eq_true_eq] at h
    obtain ⟨⟨⟨⟨⟨⟨ea, h1⟩, h2⟩, h3⟩, h4⟩, h5⟩, h6⟩ := h
    subst ea
    have hl : ∀ (s : Shared) (H : Hp) (C : Addr) (cl : List (Str × Addr)) (fp : List Addr) (x : Str), locB scope x = true →
        Loc (X.blk s H scope (compEnvC scope cl C X.env) fp).env.scope x ∧ ((X.blk s H scope (compEnvC scope cl C X.env) fp).fn x = true ∨ (X.blk s H scope (compEnvC scope cl C X.env) fp).env.scope.names.lookup x = some .local) :=
      fun s H C cl fp x hx => relS_loc hx
    have pe := pe_lc (X := X) (pos := p) (wi := tI X.K CA W it) (g := gT X.K tg) (tt := tQ X.K CA (fun _ _ _ _ => False) c) (te := tE X.K CA (fun _ _ _ _ => False) e) g.calm g.nd (ii g h3 ok.1) (blkOk_by h2)
      (fun s H C cl fp => pg_T (X := X.blk s H scope (compEnvC scope cl C X.env) fp) (N := X.N) (sc := scope) g.calm rfl g.nd (hl s H C cl fp) h1)
      (fun s H C cl fp => ic.2 (g.blk s H scope C cl fp) h5 ok.2.1) (fun s H C cl fp => ie (g.blk s H scope C cl fp) h6 ok.2.2) (fun x => notSet_ok h4 X.env x)
    rw [own_slots h1] at pe
    exact pe_imp pe fun σ H Q q => lc_read σ H Q q
/-- the walk along a list that may change, by its own place -/
def tR (K : PySem.W.Frag) (CA : Nat → Addr) (W : WX) (a : ME) : TI := fun σ H R => tE K CA W a σ H fun x H1 => ∃ p, x = .ref p ∧ ((∃ xs, SqL K H1 p xs) ∧ R (Itl K p) H1 ∨ (∃ xs, SqT K H1 p xs) ∧ R (Itt K p) H1)
theorem wk_ref {K : PySem.W.Frag} {F R : Hp} {μ : Mu} {H : Hp} {p : Addr} {ds : List D} (z : Hs K CA F R μ H) (hm : μ p = some ds) (i : Nat) : (ds.length ≤ i → (Itl K p).stop i H) ∧ ∀ d, ds[i]? = some d → (Itl K p).go i H ∧ ∀ x H', (Itl K p).yld i H x H' → ∃ F', Same F F' ∧ Hs K CA F' R μ H' ∧ Dx K CA F' x d := by
  obtain ⟨_, _, vs, hv, x⟩ := z.m p ds hm
  have sq : SqL K H p vs := .of hv
  refine ⟨fun hi => ⟨vs, sq, by rw [x.length]; exact hi⟩, fun d hd => ?_⟩
  obtain ⟨u, h1, h2⟩ := x.get hd
  refine ⟨⟨vs, u, sq, h1⟩, fun y H' q => ?_⟩
  obtain ⟨e, q⟩ := q
  subst e
  have zz := q vs sq
  rw [h1] at zz; cases zz
  exact ⟨F, Same.refl F, z, h2⟩
theorem lcr_read {K : PySem.W.Frag} {W : WX} {mu : Bool} {tg : MT} {a : ME} {c : MO} {e : ME} (σ : L2.St) (H : Hp) (Q : VK) (q : tE K CA W (.lcr mu tg a c e) σ H Q) :
    tLc (tR K CA W a) (gT K tg) (tQ K CA (fun _ _ _ _ => False) c) (tE K CA (fun _ _ _ _ => False) e) tg.slots σ H Q := by
  obtain ⟨F, R, ρ, μ, Y, Qd, s, w, k⟩ := q
  refine Gr.mk s w fun d0 μ1 v0 F1 H1 q1 f1 s1 x0 => ?_
  cases x0 <;> first | exact q1.elim | skip
  rename_i pa
  obtain ⟨ds, e0, hlen, hl⟩ := ifL_some q1
  have wk := fun F' R' μ' H' (z : Hs K CA F' R' μ' H') (hm : μ' pa = some ds) => wk_ref z hm
  obtain ⟨_, _, vs0, hv0, xv0⟩ := s1.hs.m pa ds e0
  refine ⟨pa, rfl, .inl ⟨⟨vs0, .of hv0⟩, ?_⟩⟩
  intro Dl hD
  have hR : R Dl = none := s1.hs.rf hD
  generalize hf : (fun d μ2 (k : Option D → Mu → Prop) => μ2 pa = some ds ∧ bindT tg d (wipeD ρ tg.slots) fun ρ1 => wpC c ρ1 μ2 (fun b μ3 => if b = true then wpE e ρ1 μ3 (fun y μ4 => k (some y) μ4) (fun _ _ => False) else k none μ3) (fun _ _ => False)) = f at hl
  refine ⟨fun i m H' => m = ds.length - i ∧ i ≤ ds.length ∧ ∃ F' μ' acc vacc, Same F1 F' ∧ Hs K CA F' (upd R Dl (.lst vacc)) μ' H' ∧ DxA K CA F' vacc acc ∧ acc.length ≤ i ∧ lcW f (ds.drop i) acc μ' (fun acc μ' => μ' pa = some ds ∧ lcEnd mu Qd acc μ'),
    ⟨ds.length, by simp, Nat.zero_le _, F1, μ1, [], [], Same.refl F1, s1.hs.hide hD, .nil, Nat.le_refl _, hl⟩, ?_⟩
  rintro i m H' ⟨rfl, hi, F', μ', acc, vacc, g, z, xa, la, hw⟩
  by_cases hlt : i < ds.length
  · have hd : ds.drop i = ds[i] :: ds.drop (i + 1) := List.drop_eq_getElem_cons hlt
    have hg : ds[i]? = some ds[i] := List.getElem?_eq_getElem hlt
    rw [hd] at hw
    have hb : f ds[i] μ' fun o μ'' => lcW f (ds.drop (i + 1)) (acc ++ o.toList) μ'' (fun acc μ' => μ' pa = some ds ∧ lcEnd mu Qd acc μ') := hw
    rw [← hf] at hb
    obtain ⟨hm, hb⟩ := hb
    rw [hf] at hb
    obtain ⟨go, yl⟩ := (wk F' _ μ' H' z hm i).2 _ hg
    refine .inr ⟨go, fun H'' => ∃ F'' μ'' acc' vacc', Same F1 F'' ∧ Hs K CA F'' (upd R Dl (.lst vacc')) μ'' H'' ∧ DxA K CA F'' vacc' acc' ∧ acc'.length ≤ i + 1 ∧ lcW f (ds.drop (i + 1)) acc' μ'' (fun acc μ' => μ' pa = some ds ∧ lcEnd mu Qd acc μ'), ?_, ?_⟩
    · rintro H'' ⟨F'', μ'', acc', vacc', a1, a2, a3, a4, a5⟩
      exact ⟨ds.length - (i + 1), by omega, rfl, hlt, F'', μ'', acc', vacc', a1, a2, a3, a4, a5⟩
    · intro x H2 hy
      obtain ⟨F2, g2, z2, x2⟩ := yl x H2 hy
      have rp : Rp K CA F2 (wipeD ρ tg.slots) (L2.wipe σ tg.slots) := (s.rp.mono (f1.trans (g.trans g2))).wipe tg.slots
      refine gT_ok hb x2 rp z2 fun ρ' σ' hk rp' up => ⟨wipe_upd up, ?_⟩
      have sx : Sx K CA (fun _ _ _ _ => False) σ' F2 (upd R Dl (.lst vacc)) ρ' μ' (fun _ _ => False) H2 := ⟨z2, rp', fun _ _ _ _ q _ _ => q.elim⟩
      refine Gr.mk sx hk fun b μ3 b' F3 H3 q3 f3 s3 eb => ?_
      subst eb
      cases b' with
      | false =>
        have q3 : lcW f (ds.drop (i + 1)) (acc ++ []) μ3 (fun acc μ' => μ' pa = some ds ∧ lcEnd mu Qd acc μ') := q3
        rw [List.append_nil] at q3
        show ∃ F'' μ'' acc' vacc', _
        exact ⟨F3, μ3, acc, vacc, g.trans (g2.trans f3), s3.hs, xa.mono (g2.trans f3), Nat.le_succ_of_le la, q3⟩
      | true =>
        have q3 : wpE e ρ' μ3 (fun y μ4 => lcW f (ds.drop (i + 1)) (acc ++ [y]) μ4 (fun acc μ' => μ' pa = some ds ∧ lcEnd mu Qd acc μ')) (fun _ _ => False) := q3
        refine Gr.mk s3 q3 fun y μ4 v F4 H4 q4 f4 s4 xy => ?_
        refine ⟨vacc, s4.hs.r Dl _ upd_same, by rw [xa.length]; exact line_lt (by omega), F4, μ4, acc ++ [y], vacc ++ [v], g.trans (g2.trans (f3.trans f4)), s4.hs.hset, (xa.mono (g2.trans (f3.trans f4))).append (.cons xy .nil), ?_, q4⟩
        rw [List.length_append, List.length_singleton]
        omega
  · have ei : i = ds.length := by omega
    subst ei
    rw [List.drop_length] at hw
    obtain ⟨hm, hw⟩ : μ' pa = some ds ∧ lcEnd mu Qd acc μ' := hw
    refine .inl ⟨(wk F' _ μ' H' z hm ds.length).1 (Nat.le_refl _), ?_⟩
    cases mu with
    | true =>
    obtain ⟨z', hn⟩ := z.bareM hR xa
    exact k _ _ _ _ _ (hw _ hn) (f1.trans g) z' (.ref Dl)
    | false =>
    have hw : Qd (.lst acc) μ' := hw
    obtain ⟨z', fp, hp⟩ := z.bare hR
    have sn := same_new (o := .lst vacc) fp
    exact k _ _ _ _ _ hw (f1.trans (g.trans sn)) z' (.lst (.of upd_same) (xa.mono sn))
theorem se_lcr {mu : Bool} {tg : MT} {a : ME} {c : MO} {e : ME} (ii : SE CA CN nC a) (ic : SO CA CN nC c) (ie : SE CA CN nC e) : SE CA CN nC (.lcr mu tg a c e) := by
  intro X k W ex g h ok
  cases ex <;> first | (simp [matE] at h; done) | skip
  rename_i elt gens scope p
  cases gens with
  | nil => simp [matE] at h
  | cons gn gens =>
    cases gens <;> first | (simp [matE] at h; done) | skip
    obtain ⟨t, i, ifs, as⟩ := gn
    simp only [matE, Bool.and_eq_true, decide_eq_true_eq] at h
    obtain ⟨⟨⟨⟨⟨⟨ea, h1⟩, h2⟩, h3⟩, h4⟩, h5⟩, h6⟩ := h
    subst ea
    have hl : ∀ (s : Shared) (H : Hp) (C : Addr) (cl : List (Str × Addr)) (fp : List Addr) (x : Str), locB scope x = true →
        Loc (X.blk s H scope (compEnvC scope cl C X.env) fp).env.scope x ∧ ((X.blk s H scope (compEnvC scope cl C X.env) fp).fn x = true ∨ (X.blk s H scope (compEnvC scope cl C X.env) fp).env.scope.names.lookup x = some .local) :=
      fun s H C cl fp x hx => relS_loc hx
    have pe := pe_lc (X := X) (pos := p) (wi := tR X.K CA W a) (g := gT X.K tg) (tt := tQ X.K CA (fun _ _ _ _ => False) c) (te := tE X.K CA (fun _ _ _ _ => False) e) g.calm g.nd (pi_seq (ii g h3 ok.1)) (blkOk_by h2)
      (fun s H C cl fp => pg_T (X := X.blk s H scope (compEnvC scope cl C X.env) fp) (N := X.N) (sc := scope) g.calm rfl g.nd (hl s H C cl fp) h1)
      (fun s H C cl fp => ic.2 (g.blk s H scope C cl fp) h5 ok.2.1) (fun s H C cl fp => ie (g.blk s H scope C cl fp) h6 ok.2.2) (fun x => notSet_ok h4 X.env x)
    rw [own_slots h1] at pe
    exact pe_imp pe fun σ H Q q => lcr_read σ H Q q
theorem se_isl {a : ME} (ia : SE CA CN nC a) : SE CA CN nC (.isl a) := by
  intro X k W e g h ok
  cases e <;> first | (simp [matE] at h; done) | skip
  rename_i fn args kws p
  cases fn <;> first | (simp [matE] at h; done) | skip
  cases args with
  | nil => simp [matE] at h
  | cons e es =>
    cases es with
    | nil => simp [matE] at h
    | cons e2 es =>
      cases e2 <;> first | (simp [matE] at h; done) | skip
      rename_i z zp
      cases es <;> first | (simp [matE] at h; done) | skip
      cases kws <;> first | (simp [matE] at h; done) | skip
      simp only [matE, Bool.and_eq_true, decide_eq_true_eq] at h
      obtain ⟨⟨⟨⟨⟨⟨h1, h2⟩, h3⟩, h4⟩, h5⟩, h6⟩, h7⟩ := h
      subst h1 h2
      have e1 := star_cons h6 [.Name "list" zp] X.env
      have pz : PE X (.Name "list" zp) (tC (tyV2 CA .list)) := pe_tyN (t := .list) g.wd (glB_ok h4) (dbg_ok h5) (fun c hc => by cases hc)
      refine pe_imp (pe_callB (call_isi.or call_isX) (glB_ok h3) (g.wd.blt _ name_mem_isi) boot_isinstance (pa_cons (ia g h7 ok) (pa_cons pz pa_nil rfl) e1) (by decide) (by decide) e1 rfl) fun σ H Q q => ?_
      obtain ⟨F, R, ρ, μ, Y, Qd, s, w, k⟩ := q
      refine Gr.mk s w fun d1 μ1 v1 F1 H1 q1 f1 s1 x1 => ?_
      cases x1
      case ref pa =>
        obtain ⟨e0, q1⟩ := q1
        obtain ⟨ds, e0⟩ := Option.isSome_iff_exists.mp e0
        obtain ⟨_, _, vs, hv, xv⟩ := s1.hs.m pa ds e0
        exact .inl ⟨_, tyV2 CA .list, .type "list", .type "list", true, rfl, .ty "list", tyx_lst (.of hv), kit_ty (isi_kit (d := .lst []) (t := .list) rfl rfl rfl), k _ _ _ _ _ q1 f1 s1.hs (.bl _)⟩
      all_goals
        obtain ⟨b, eb, q1⟩ := ifB_some q1
        refine isiD_ok g.wd (t := .list) (fun c hc => by cases hc) (fun hc => by cases hc) eb ?_ s1.hs (k _ _ _ _ _ q1 f1 s1.hs (.bl _))
        first | exact .non | exact .bl _ | exact .int _ | exact .str _ | (exact .tup (by assumption) (by assumption)) | (exact .lst (by assumption) (by assumption)) | (exact .exc (by assumption))
/-- the defs' values -/
def FV (CA : Nat → Addr) (X : Cx) (k : Nat) : List V → List (Str × DSp) → Prop
  | [], [] => True
  | v :: vs, p :: fl => (∃ f fd ps, v = .ref f ∧ FnG X.prog X.w X.K X.mg X.base (L2.CX X.prog X.w) k f fd ps (spOf X.K CA p.2) ∧ PySem.W.keepIn X.K (.ref f) = true ∧ Binds X.K fd ps []) ∧ FV CA X k vs fl
  | _, _ => False
theorem FV.len {X : Cx} {k : Nat} : ∀ {vs : List V} {fl : List (Str × DSp)}, FV CA X k vs fl → vs.length = fl.length
  | [], [], _ => rfl
  | _ :: _, _ :: _, h => by rw [List.length_cons, List.length_cons, FV.len h.2]
  | [], _ :: _, h => h.elim
  | _ :: _, [], h => h.elim
theorem FV.at {X : Cx} {k : Nat} : ∀ {vs : List V} {fl : List (Str × DSp)} {n : Nat} {p : Str × DSp}, FV CA X k vs fl → fl[n]? = some p →
    ∃ f fd ps, vs[n]? = some (.ref f) ∧ FnG X.prog X.w X.K X.mg X.base (L2.CX X.prog X.w) k f fd ps (spOf X.K CA p.2) ∧ PySem.W.keepIn X.K (.ref f) = true ∧ Binds X.K fd ps []
  | [], [], n, p, _, e => by simp at e
  | v :: vs, q :: fl, 0, p, h, e => by
    simp only [List.getElem?_cons_zero, Option.some.injEq] at e
    subst e
    obtain ⟨f, fd, ps, rfl, a, b, c⟩ := h.1
    exact ⟨f, fd, ps, rfl, a, b, c⟩
  | v :: vs, q :: fl, n + 1, p, h, e => by
    simp only [List.getElem?_cons_succ] at e ⊢
    exact FV.at h.2 e
  | [], _ :: _, _, _, h, _ => h.elim
  | _ :: _, [], _, _, h, _ => h.elim
theorem pa_fns {X : Cx} {k : Nat} : ∀ (fl : List (Str × DSp)) (es : List Expr), fnNames X.env.scope fl es = true → (∀ p ∈ fl, FnSat CA X k p.1 p.2) → ∃ vs, FV CA X k vs fl ∧ PA X es (fun _ H R => R vs H)
  | [], [], _, _ => ⟨[], trivial, pa_nil⟩
  | p :: fl, .Name y py :: es, h, ok => by
    simp only [fnNames, Bool.and_eq_true, decide_eq_true_eq] at h
    obtain ⟨⟨⟨h1, h2⟩, h3⟩, h4⟩ := h
    subst h1
    obtain ⟨f, fd, ps, fo, fm, fk, fb⟩ := ok p List.mem_cons_self
    obtain ⟨vs, a, b⟩ := pa_fns fl es h4 fun q hq => ok q (List.mem_cons_of_mem _ hq)
    exact ⟨.ref f :: vs, ⟨⟨f, fd, ps, rfl, fo, fk, fb⟩, a⟩, pa_cons (pe_glob (v := .ref f) (glB_ok h2) fm rfl (dbg_ok h3)) b (star_cons rfl es X.env)⟩
  | [], _ :: _, h, _ => by simp [fnNames] at h
  | _ :: _, [], h, _ => by simp [fnNames] at h
  | _ :: _, .Constant _ _ _ :: _, h, _ => by simp [fnNames] at h
  | _ :: _, .BinOp _ _ _ _ :: _, h, _ => by simp [fnNames] at h
  | _ :: _, .Call _ _ _ _ :: _, h, _ => by simp [fnNames] at h
theorem se_callAt {fl : List (Str × DSp)} {i : ME} {a : MA} (ii : SE CA CN nC i) (ia : SA CA CN nC a) : SE CA CN nC (.callAt fl i a) := by
  intro X k W e g h ok
  simp only [matE] at h
  cases hv : callAtOf e with
  | none => rw [hv] at h; cases h
  | some v =>
    obtain ⟨ns, s, e1, es⟩ := v
    rw [hv] at h
    obtain ⟨p1, p2, p3, rfl⟩ := callAtOf_ok hv
    simp only [Bool.and_eq_true, decide_eq_true_eq] at h
    obtain ⟨⟨⟨⟨h1, h2⟩, h3⟩, h4⟩, h5⟩ := h
    obtain ⟨vs, fv, pn⟩ := pa_fns fl ns h1 ok.1
    have st := matA_star h5
    simp only [List.all_cons, Bool.and_eq_true] at st
    refine pe_imp (pe_fv (E := fun σ => WE W σ) (pe_ix ix_seq (pe_lst pn) (ii g h4 ok.2.1) (notSl_ok h3)) g.grd g.room (fun σ => passAt g.tk σ) (ia g h5 ok.2.2) rfl (star_cons st.1 es X.env) (star_none st.2 p3 X.env)) fun σ H Q q => ?_
    obtain ⟨F, R, ρ, μ, Y, Qd, s, w, k⟩ := q
    refine ⟨by rw [fv.len]; exact small_len h2, fun p hp => ?_⟩
    have sn := same_new (o := .lst vs) (s.hs.ff hp)
    have s' : Sx X.K CA W σ (upd F p (.lst vs)) R ρ μ Y (upd H p (.lst vs)) := ⟨s.hs.new hp, s.rp.mono sn, fun c μ' F' H' q f z => s.xx c μ' F' H' q (sn.trans f) z⟩
    refine Gr.mk s' w fun d1 μ1 v1 F1 H1 q1 f1 s1 x1 => ?_
    cases x1 <;> first | exact q1.elim | skip
    rename_i n
    obtain ⟨pr, hn, q1⟩ := q1
    have hsq : SqL X.K H1 p vs := .of (s1.hs.f p _ (f1 p _ upd_same))
    unfold L2.atI at hn
    obtain ⟨j, h6, h7⟩ := Option.bind_eq_some_iff.mp hn
    obtain ⟨f, fd, ps, h8, G, kp, bi⟩ := fv.at h7
    refine .inl ⟨_, _, _, .ref f, rfl, rfl, hsq, ?_, f, fd, ps, _, rfl, G, kp, bi, ?_⟩
    · unfold L2.atI
      rw [fv.len, h6]
      exact h8
    · refine Gr.mk s1 q1 fun ds μ2 vs2 F2 H2 q2 f2 s2 x2 => ?_
      exact ⟨F2, R, μ2, ds, Y, Qd, s2.hs, x2.1, q2, fun d μ' v F' H' q f z x => k d μ' v F' H' q (sn.trans (f1.trans (f2.trans f))) z x, fun c μ' F' H' q f z => s2.xx c μ' F' H' q f z⟩
theorem se_bits {a : ME} (ia : SE CA CN nC a) : SE CA CN nC (.bits a) := by
  intro X k W e g h ok
  simp only [matE] at h
  cases hv : bitsOf e with
  | none => rw [hv] at h; cases h
  | some v =>
    obtain ⟨o, ap, p⟩ := v
    rw [hv] at h
    cases bitsOf_ok hv
    simp only [Bool.and_eq_true] at h
    obtain ⟨⟨h1, h2⟩, h3⟩ := h
    refine pe_imp (pe_bits (ia g h3 ok) (attrOk_ok h1 _ _ _) h2) fun σ H Q q => ?_
    obtain ⟨F, R, ρ, μ, Y, Qd, s, w, k⟩ := q
    refine Gr.mk s w fun d1 μ1 v1 F1 H1 q1 f1 s1 x1 => ?_
    cases x1 <;> first | exact q1.elim | skip
    exact ⟨_, rfl, k _ _ _ _ _ q1 f1 s1.hs (.int _)⟩
theorem se_rev {a : ME} (ia : SE CA CN nC a) : SE CA CN nC (.rev a) := by
  intro X k W e g h ok
  simp only [matE] at h
  cases hv : revOf e with
  | none => rw [hv] at h; cases h
  | some v =>
    rw [hv] at h
    obtain ⟨k', p1, p2, p3, p4, rfl⟩ := revOf_ok hv
    refine pe_imp (pe_revB (ia g h ok)) fun σ H Q q => ?_
    obtain ⟨F, R, ρ, μ, Y, Qd, s, w, k⟩ := q
    refine Gr.mk s w fun d1 μ1 v1 F1 H1 q1 f1 s1 x1 => ?_
    have fin : ∀ (a : Addr) (vs : List V) (ds : List D), SqL X.K H1 a vs → DxA X.K CA F1 vs ds → Qd (.lst ds.reverse) μ1 → v1 = .ref a → ∃ a xs, v1 = .ref a ∧ SqL X.K H1 a xs ∧ ∀ p, H1 p = none → Q (.ref p) (upd H1 p (.lst xs.reverse)) := by
      intro a vs ds sq xs q1 e
      refine ⟨_, _, e, sq, fun p hp => ?_⟩
      have fp := s1.hs.ff hp
      have sn := same_new (o := .lst vs.reverse) fp
      exact k _ _ _ _ _ q1 (f1.trans sn) (s1.hs.new hp) (.lst (.of upd_same) (xs.reverse.mono sn))
    cases x1 <;> first | exact q1.elim | skip
    · rename_i a vs ds sq xs
      refine .inr ⟨_, _, rfl, seqT s1.hs.f sq, fun p hp => ?_⟩
      have fp := s1.hs.ff hp
      have sn := same_new (o := .tup vs.reverse) fp
      exact k _ _ _ _ _ q1 (f1.trans sn) (s1.hs.new hp) (.tup (.of upd_same) (xs.reverse.mono sn))
    · rename_i a vs ds sq xs
      exact .inl (fin a vs ds (s1.hs.f.seq sq) xs q1 rfl)
    · rename_i a
      obtain ⟨ds, e, q1⟩ := ifL_some q1
      obtain ⟨h1, h2, vs, h3, h4⟩ := s1.hs.m _ _ e
      exact .inl (fin a vs ds (.of h3) h4 q1 rfl)
theorem strsD_ok {K : PySem.W.Frag} {F : Hp} : ∀ {ds : List D} {vs : List V} {ys : List Str}, strsD ds = some ys → DxA K CA F vs ds → vs = ys.map V.str
  | [], _, _, h, .nil => by cases h; rfl
  | d :: ds, _, ys, h, .cons x xs => by
    cases x <;> first | (simp [strsD] at h; done) | skip
    simp only [strsD, Option.map_eq_some_iff] at h
    obtain ⟨zs, h1, rfl⟩ := h
    rw [strsD_ok h1 xs]; rfl
theorem ifSs_some {o : Option (List Str)} {p : List Str → Prop} (h : ifSs o p) : ∃ ys, o = some ys ∧ p ys := by
  cases o with
  | none => exact h.elim
  | some ys => exact ⟨ys, rfl, h⟩
theorem DxA_strs {K : PySem.W.Frag} {F : Hp} : ∀ ys : List Str, DxA K CA F (ys.map V.str) (ys.map D.str)
  | [] => .nil
  | y :: ys => .cons (.str y) (DxA_strs ys)
theorem se_join {s : Str} {a : ME} (ia : SE CA CN nC a) : SE CA CN nC (.join s a) := by
  intro X k W e g h ok
  simp only [matE] at h
  cases hv : joinOf e with
  | none => rw [hv] at h; cases h
  | some v =>
    obtain ⟨x, e1, ap, p⟩ := v
    rw [hv] at h
    obtain ⟨k', p0, rfl⟩ := joinOf_ok hv
    simp only [Bool.and_eq_true, decide_eq_true_eq] at h
    obtain ⟨⟨⟨h1, h2⟩, h3⟩, h4⟩ := h
    subst h1
    refine pe_imp (pe_join (pe_str (X := X)) (ia g h4 ok) (star_cons h3 [] X.env) rfl h2) fun σ H Q q => ?_
    obtain ⟨F, R, ρ, μ, Y, Qd, s, w, k⟩ := q
    refine ⟨⟨_, rfl⟩, Gr.mk s w fun d1 μ1 v1 F1 H1 q1 f1 s1 x1 => ?_⟩
    cases x1 <;> first | exact q1.elim | skip
    · rename_i a vs ds sq xs
      obtain ⟨ys, e, hl, q1⟩ := ifSs_some q1
      have ev := strsD_ok e xs
      subst ev
      exact ⟨_, _, ys, rfl, rfl, .inr (seqT s1.hs.f sq), Nat.le_trans hl (by decide), k _ _ _ _ _ q1 f1 s1.hs (.str _)⟩
    · rename_i a vs ds sq xs
      obtain ⟨ys, e, hl, q1⟩ := ifSs_some q1
      have ev := strsD_ok e xs
      subst ev
      exact ⟨_, _, ys, rfl, rfl, .inl (s1.hs.f.seq sq), Nat.le_trans hl (by decide), k _ _ _ _ _ q1 f1 s1.hs (.str _)⟩
theorem se_split {s : Str} {a : ME} (ia : SE CA CN nC a) : SE CA CN nC (.split a s) := by
  intro X k W e g h ok
  simp only [matE] at h
  cases hv : splitOf e with
  | none => rw [hv] at h; cases h
  | some v =>
    obtain ⟨x, o, ap, p⟩ := v
    rw [hv] at h
    obtain ⟨k', p0, rfl⟩ := splitOf_ok hv
    simp only [Bool.and_eq_true, decide_eq_true_eq] at h
    obtain ⟨⟨⟨h1, h2⟩, h3⟩, h4⟩ := h
    subst h1
    refine pe_imp (pe_split (ia g h4 ok) (pe_str (X := X)) rfl (attrOk_ok h3 _ _ _) h2) fun σ H Q q => ?_
    obtain ⟨F, R, ρ, μ, Y, Qd, s, w, k⟩ := q
    refine Gr.mk s w fun d1 μ1 v1 F1 H1 q1 f1 s1 x1 => ?_
    cases x1 <;> first | exact q1.elim | skip
    rename_i z
    obtain ⟨h1, h2, q1⟩ := q1
    refine ⟨⟨_, rfl⟩, _, _, rfl, rfl, h1, line_le h2, fun p hp => ?_⟩
    have sn := same_new (o := .lst ((Txt.split z x).map V.str)) (s1.hs.ff hp)
    exact k _ _ _ _ _ q1 (f1.trans sn) (s1.hs.new hp) (.lst (.of upd_same) (DxA_strs _))
/-- len(set(xs)), xs a list of tuples of ints -/
def tLenSetT (K : PySem.W.Frag) (ta : TE) : TE := fun σ H Q => ta σ H fun x H1 => ∃ (l : Addr) (ks : List (Addr × List Int)), x = V.ref l ∧ SqL K H1 l (ks.map fun p => V.ref p.1) ∧ (∀ p ∈ ks, SqT K H1 p.1 (p.2.map V.int)) ∧ ks.length < 64 ∧
  ∀ L : List (Addr × List Int), (∀ p ∈ L, p ∈ ks) → (∀ p ∈ ks, p.2 ∈ L.map (·.2)) → (L.map (·.2)).Nodup → Q (.int L.length) H1
theorem pe_lenSetT {X : Cx} {a : Expr} {ta : TE} {p p2 q pos : Pos} (hc : X.calm = true) (hu : X.A.units + 64 < cLine) (hg : Gl X "len") (hm : X.mg "len" = none) (hg2 : Gl X "set") (hm2 : X.mg "set" = none) (ha : PE X a ta)
    (na : starEach [a] X.env = (false, eval a X.env) :: starEach [] X.env) : PE X (.Call (.Name "len" p) [.Call (.Name "set" p2) [a] [] q] [] pos) (tLenSetT X.K ta) := by
  refine ⟨fun pins s σ H Q I h => ?_⟩
  refine Call_ (ld_blt I hg hm PySem.boot_len ?_)
  refine PyProof.Rows.callWith_builtin1 (PyProof.Rows.args_cons ?_ rfl) rfl rfl
  refine Call_ (ld_blt I hg2 hm2 PyProof.Rows.boot_set ?_)
  refine PyProof.Rows.callWith_type1 (PyProof.Rows.args_cons (thn (ha.run pins s σ H _ I h) fun v s1 ⟨x, H1, I1, r1, q1⟩ => PyProof.Rows.args_nil ?_) na) na rfl
  obtain ⟨l, ks, rfl, hq, hk, h1, q1⟩ := q1
  cases r1
  obtain ⟨its, r, pl, hz⟩ := I1.list hq
  refine call_set_tups (P := X.prog) (w := X.w) ks (I1.ok.hd hc) pl.isList (by simpa using refs_of_vals r) (fun p hp => I1.isT (hk p hp)) h1 (by omega) fun h' tk L es ep t R g k => ?_
  refine PyProof.Rows.args_nil ?_
  obtain ⟨o, ho, hex, hd⟩ := R.ob
  have I2 : Inv X pins σ H1 { s1 with heap := h', toks := tk } := I1.kept k
  have R2 : SetTR X.prog X.w ({ s1 with heap := h', toks := tk } : Shared).heap s1.heap.objs.size L es ep t := R
  have hsz := R2.size
  have few := R.few
  refine call_len_set ho hex hd R2.fits (by rw [hsz]; omega) ⟨.int L.length, H1, I2.tok _, ⟨_, by rw [hsz]⟩, q1 L (fun p hp => List.mem_of_mem_take (g.sub p hp)) (fun p hp => g.all p (by rw [List.take_length]; exact hp)) R.nd⟩
theorem rows_ok {K : PySem.W.Frag} {F : Hp} : ∀ {vs : List V} {ds : List D} {L : List (List Int)}, DxA K CA F vs ds → rowsD ds = some L → ∃ ks : List (Addr × List Int), vs = ks.map (fun p => V.ref p.1) ∧ ks.map (·.2) = L ∧ ∀ p ∈ ks, SqT K F p.1 (p.2.map V.int)
  | _, _, L, .nil, e => by
    have e' : ([] : List (List Int)) = L := Option.some.inj e
    subst e'
    exact ⟨[], rfl, rfl, fun _ h => by cases h⟩
  | _, _, L, .cons h t, e => by
    cases h with
    | @tup a _ _ sq xs =>
      simp only [rowsD, Option.bind_eq_some_iff, Option.map_eq_some_iff] at e
      obtain ⟨ns, e1, M, e2, e3⟩ := e
      subst e3
      obtain ⟨ks, h1, h2, h3⟩ := rows_ok t e2
      have ev := xs.ints e1
      subst ev
      refine ⟨(a, ns) :: ks, by rw [h1]; rfl, by rw [← h2]; rfl, fun p hp => ?_⟩
      rcases List.mem_cons.mp hp with rfl | hp
      · exact sq
      · exact h3 p hp
    | _ => simp [rowsD] at e
theorem nodup_le {α : Type} [DecidableEq α] : ∀ (A B : List α), A.Nodup → (∀ x ∈ A, x ∈ B) → A.length ≤ B.length
  | [], _, _, _ => Nat.zero_le _
  | a :: A, B, h, s => by
    have hb : a ∈ B := s a (by simp)
    have h2 := List.nodup_cons.mp h
    have := nodup_le A (B.erase a) h2.2 fun x hx => by
      have ne : x ≠ a := fun e => h2.1 (e ▸ hx)
      exact (List.mem_erase_of_ne ne).mpr (s x (by simp [hx]))
    rw [List.length_erase_of_mem hb] at this
    have : 0 < B.length := List.length_pos_of_mem hb
    simp only [List.length_cons]
    omega
theorem nodup_len {α : Type} [DecidableEq α] {A B : List α} (ha : A.Nodup) (hb : B.Nodup) (h1 : ∀ x ∈ A, x ∈ B) (h2 : ∀ x ∈ B, x ∈ A) : A.length = B.length := by
  have := nodup_le A B ha h1
  have := nodup_le B A hb h2
  omega
theorem nodup_dups {α : Type} [BEq α] [LawfulBEq α] : ∀ (n : Nat) (L : List α), L.length ≤ n → L.eraseDups.Nodup
  | 0, L, h => by
    have : L = [] := List.length_eq_zero_iff.mp (by omega)
    subst this
    simp
  | n + 1, [], _ => by simp
  | n + 1, a :: L, h => by
    rw [List.eraseDups_cons]
    refine List.nodup_cons.mpr ⟨fun hm => ?_, nodup_dups n _ ?_⟩
    · have := List.mem_eraseDups.mp hm
      simp at this
    · have := List.length_filter_le (fun b => !b == a) L
      simp at h
      omega
theorem se_setl {a : ME} (ia : SE CA CN nC a) : SE CA CN nC (.setl a) := by
  intro X k W e g h ok
  simp only [matE] at h
  cases hv : setlOf e with
  | none => rw [hv] at h; cases h
  | some v =>
    rw [hv] at h
    obtain ⟨p1, p2, p3, p4, rfl⟩ := setlOf_ok hv
    simp only [Bool.and_eq_true] at h
    obtain ⟨⟨⟨h1, h2⟩, h3⟩, h4⟩ := h
    refine pe_imp (pe_lenSetT g.calm (by have := g.room.un; omega) (glB_ok h1) (g.wd.blt _ (by decide +kernel)) (glB_ok h2) (g.wd.blt _ (by decide +kernel)) (ia g h4 ok) (star_cons h3 [] X.env)) fun σ H Q q => ?_
    obtain ⟨F, R, ρ, μ, Y, Qd, s, w, k⟩ := q
    refine Gr.mk s w fun d1 μ1 v1 F1 H1 q1 f1 s1 x1 => ?_
    cases x1 with
    | lst sq xs =>
      obtain ⟨L, e, hl, q1⟩ := q1
      obtain ⟨ks, e1, e2, e3⟩ := rows_ok xs e
      have el := xs.length
      rw [e1] at sq el
      refine ⟨_, ks, rfl, s1.hs.f.seq sq, fun p hp => seqT s1.hs.f (e3 p hp), by rw [List.length_map] at el; omega, fun M m1 m2 nd => ?_⟩
      have : M.length = L.eraseDups.length := by
        rw [← List.length_map (f := (·.2))]
        refine nodup_len nd (nodup_dups _ L (Nat.le_refl _)) (fun x hx => ?_) fun x hx => ?_
        · obtain ⟨p, hp, rfl⟩ := List.mem_map.mp hx
          rw [List.mem_eraseDups, ← e2]
          exact List.mem_map.mpr ⟨p, m1 p hp, rfl⟩
        · rw [List.mem_eraseDups, ← e2] at hx
          obtain ⟨p, hp, rfl⟩ := List.mem_map.mp hx
          exact m2 p hp
      rw [this]
      exact k _ _ _ _ _ q1 f1 s1.hs (.int _)
    | _ => exact q1.elim
theorem itemsL_ok {K : PySem.W.Frag} {F R H : Hp} {μ : Mu} {v : V} {d : D} {xs : List D} (e : itemsL d μ = some xs) (x : Dx K CA F v d) (s : Hs K CA F R μ H) : ∃ (l : Addr) (vs : List V), v = .ref l ∧ SqL K H l vs ∧ DxA K CA F vs xs := by
  cases x with
  | lst sq ys => cases e; exact ⟨_, _, rfl, s.f.seq sq, ys⟩
  | ref p =>
    obtain ⟨_, _, vs, hv, xv⟩ := s.m p xs e
    exact ⟨p, vs, rfl, .of hv, xv⟩
  | _ => cases e
theorem se_cat {mu : Bool} {a b : ME} (ia : SE CA CN nC a) (ib : SE CA CN nC b) : SE CA CN nC (.cat mu a b) := by
  intro X k W e g h ok
  cases e <;> first | (simp [matE] at h; done) | skip
  rename_i l op r p
  simp only [matE, Bool.and_eq_true] at h
  obtain ⟨⟨h1, h2⟩, h3⟩ := h
  cases op <;> first | (simp [Op2.is] at h1; done) | skip
  refine pe_imp (pe_op (op_catW (X := X)) (ia g h2 ok.1) (ib g h3 ok.2)) fun σ H Q q => ?_
  obtain ⟨F, R, ρ, μ, Y, Qd, s, w, k⟩ := q
  refine Gr.mk s w fun d1 μ1 v1 F1 H1 q1 f1 s1 x1 => Gr.mk s1 q1 fun d2 μ2 v2 F2 H2 q2 f2 s2 x2 => ?_
  obtain ⟨xs, e1, q2⟩ := ifL_some q2
  obtain ⟨ys, e2, hl, q2⟩ := ifL_some q2
  obtain ⟨l1, vs1, rfl, sq1, xv1⟩ := itemsL_ok e1 (x1.mono f2) s2.hs
  obtain ⟨l2, vs2, rfl, sq2, xv2⟩ := itemsL_ok e2 x2 s2.hs
  refine ⟨_, _, _, _, rfl, rfl, sq1, sq2, line_le (by rw [xv1.length, xv2.length]; exact hl), fun p hp => ?_⟩
  have xa := xv1.append xv2
  cases mu with
  | false =>
    have sn := same_new (o := .lst (vs1 ++ vs2)) (s2.hs.ff hp)
    exact k _ _ _ _ _ q2 ((f1.trans f2).trans sn) (s2.hs.new hp) (.lst (.of upd_same) (xa.mono sn))
  | true => exact k _ _ _ _ _ (q2 p (s2.hs.mf hp)) (f1.trans f2) (s2.hs.newM hp xa) (.ref p)
end
end Dl

/-! The data layer, part G: all expressions. -/
namespace Dl
open PySem L2 PyProof.Rows
variable [NC]
section
variable {CA : Nat → Addr} {CN : Nat → Str} {nC : Nat}
theorem sa_nil : SA CA CN nC .nil := by
  intro X k W e g h ok
  cases e <;> first | (simp [matA] at h; done) | skip
  refine pa_imp pa_nil fun σ H Q q => ?_
  obtain ⟨F, R, ρ, μ, Y, Qd, s, w, k⟩ := q
  exact k _ _ _ _ _ w (Same.refl F) s.hs ⟨.nil, rfl⟩
theorem sa_cons {m : ME} {a : MA} (im : SE CA CN nC m) (ia : SA CA CN nC a) : SA CA CN nC (.cons m a) := by
  intro X k W e g h ok
  cases e <;> first | (simp [matA] at h; done) | skip
  rename_i e es
  simp only [matA, Bool.and_eq_true] at h
  obtain ⟨⟨h1, h2⟩, h3⟩ := h
  refine pa_imp (pa_cons (im g h2 ok.1) (ia g h3 ok.2) (star_cons h1 es X.env)) fun σ H Q q => ?_
  obtain ⟨F, R, ρ, μ, Y, Qd, s, w, k⟩ := q
  refine Gr.mk s w fun d1 μ1 v1 F1 H1 q1 f1 s1 x1 => Gr.mk s1 q1 fun ds μ2 vs F2 H2 q2 f2 s2 x2 => ?_
  exact k _ _ _ _ _ q2 (f1.trans f2) s2.hs ⟨.cons (x1.mono f2) x2.1, by simp [MA.len, x2.2]⟩
theorem sl_nil : SL CA CN nC .nil := by
  intro X k W e pos isAnd op hop g h ok
  exact ⟨⟨fun _ _ _ _ _ _ q => by obtain ⟨F, R, ρ, μ, Y, Qd, s, w, k⟩ := q; exact w.elim⟩, fun _ => ⟨fun _ _ _ _ _ _ _ q => by obtain ⟨F, R, ρ, μ, Y, Qd, s, w, k⟩ := q; exact w.elim⟩⟩
theorem sl_one {m : ME} (im : SE CA CN nC m ∧ ST CA CN nC m) : SL CA CN nC (.cons m .nil) := by
  intro X k W e pos isAnd op hop g h ok
  cases e <;> first | (simp [matA] at h; done) | skip
  rename_i e es
  cases es <;> first | (simp [matA] at h; done) | skip
  simp only [matA, Bool.and_eq_true, Bool.and_true] at h
  have pe := im.1 g h.2 ok.1
  refine ⟨pe_imp (pe_one pe) fun σ H Q q => q, fun ht => ?_⟩
  simp only [tsts, Bool.and_eq_true, Bool.and_true] at ht
  have pt := im.2 g h.2 ok.1 ht
  subst hop
  cases isAnd with
  | true => exact pw_imp (pw_and1 pt) fun σ H Q q => q
  | false => exact pw_imp (pw_or1 pt) fun σ H Q q => q
theorem sl_cons {m m2 : ME} {a : MA} (im : SE CA CN nC m ∧ ST CA CN nC m) (il : SL CA CN nC (.cons m2 a)) : SL CA CN nC (.cons m (.cons m2 a)) := by
  intro X k W e pos isAnd op hop g h ok
  cases e <;> first | (simp [matA] at h; done) | skip
  rename_i e es
  cases es <;> first | (simp [matA] at h; done) | skip
  rename_i e2 es
  have h' : notStar e = true ∧ matE CN X.N X.env.scope m e = true ∧ matA CN X.N X.env.scope (.cons m2 a) (e2 :: es) = true := by
    simp only [matA, Bool.and_eq_true] at h ⊢
    exact ⟨h.1.1, h.1.2, h.2⟩
  obtain ⟨_, h2, h3⟩ := h'
  have pe := im.1 g h2 ok.1
  obtain ⟨r1, r2⟩ := il (pos := pos) hop g h3 ok.2
  subst hop
  constructor
  · cases isAnd with
    | true =>
      refine pe_imp (pe_andT pe r1) fun σ H Q q => ?_
      obtain ⟨F, R, ρ, μ, Y, Qd, s, w, k⟩ := q
      refine Gr.mk s w fun d1 μ1 v1 F1 H1 q1 f1 s1 x1 => ?_
      obtain ⟨b, eb, q1⟩ := ifB_some q1
      refine ⟨b, truD_ok eb x1 s1.hs, ?_⟩
      cases b with
      | true => exact Gr.mk s1 q1 fun d μ' v F' H' q f z x => k d μ' v F' H' q (f1.trans f) z.hs x
      | false => exact k _ _ _ _ _ q1 f1 s1.hs x1
    | false =>
      refine pe_imp (pe_orT pe r1) fun σ H Q q => ?_
      obtain ⟨F, R, ρ, μ, Y, Qd, s, w, k⟩ := q
      refine Gr.mk s w fun d1 μ1 v1 F1 H1 q1 f1 s1 x1 => ?_
      obtain ⟨b, eb, q1⟩ := ifB_some q1
      refine ⟨b, truD_ok eb x1 s1.hs, ?_⟩
      cases b with
      | false => exact Gr.mk s1 q1 fun d μ' v F' H' q f z x => k d μ' v F' H' q (f1.trans f) z.hs x
      | true => exact k _ _ _ _ _ q1 f1 s1.hs x1
  · intro ht
    have ht' : tst m = true ∧ tsts (.cons m2 a) = true := by
      simp only [tsts, Bool.and_eq_true] at ht ⊢
      exact ⟨ht.1, ht.2⟩
    have pt := im.2 g h2 ok.1 ht'.1
    have pw := r2 ht'.2
    have eqf : ∀ (ρ : Rho) (Qd : Bool → Mu → Prop) (Y : Xst), (fun d μ1 => ifB (truD d μ1) fun b => if b = isAnd then wpL isAnd (.cons m2 a) ρ μ1 (fun d μ1 => ifB (truD d μ1) fun b => Qd b μ1) Y else (fun d μ1 => ifB (truD d μ1) fun b => Qd b μ1) d μ1) =
        fun d μ1 => ifB (truD d μ1) fun b => if b = isAnd then wpL isAnd (.cons m2 a) ρ μ1 (fun d μ1 => ifB (truD d μ1) fun b => Qd b μ1) Y else Qd b μ1 := by
      intro ρ Qd Y
      funext d μ1
      dsimp only
      cases e : truD d μ1 with
      | none => rfl
      | some b => rfl
    cases isAnd with
    | true =>
      refine pw_imp (pw_and pt pw) fun σ H Q q => ?_
      obtain ⟨F, R, ρ, μ, Y, Qd, s, w, k⟩ := q
      have w' : wpE m ρ μ (fun d μ1 => ifB (truD d μ1) fun b => if b = true then wpL true (.cons m2 a) ρ μ1 (fun d μ1 => ifB (truD d μ1) fun b => Qd b μ1) Y else Qd b μ1) Y := by
        rw [← eqf]; exact w
      refine Gr.mk (Qd := fun (b : Bool) μ1 => if b = true then wpL true (.cons m2 a) ρ μ1 (fun d μ1 => ifB (truD d μ1) fun b => Qd b μ1) Y else Qd b μ1) s w' fun c μ1 c' F1 H1 q1 f1 s1 x1 => ?_
      subst x1
      cases c' with
      | true => exact Gr.mk s1 q1 fun d μ' v F' H' q f z x => k d μ' v F' H' q (f1.trans f) z.hs x
      | false => exact k _ _ _ _ _ q1 f1 s1.hs rfl
    | false =>
      refine pw_imp (pw_or pt pw) fun σ H Q q => ?_
      obtain ⟨F, R, ρ, μ, Y, Qd, s, w, k⟩ := q
      have w' : wpE m ρ μ (fun d μ1 => ifB (truD d μ1) fun b => if b = false then wpL false (.cons m2 a) ρ μ1 (fun d μ1 => ifB (truD d μ1) fun b => Qd b μ1) Y else Qd b μ1) Y := by
        rw [← eqf]; exact w
      refine Gr.mk (Qd := fun (b : Bool) μ1 => if b = false then wpL false (.cons m2 a) ρ μ1 (fun d μ1 => ifB (truD d μ1) fun b => Qd b μ1) Y else Qd b μ1) s w' fun c μ1 c' F1 H1 q1 f1 s1 x1 => ?_
      subst x1
      cases c' with
      | false => exact Gr.mk s1 q1 fun d μ' v F' H' q f z x => k d μ' v F' H' q (f1.trans f) z.hs x
      | true => exact k _ _ _ _ _ q1 f1 s1.hs rfl
theorem se_bop {isAnd : Bool} {a : MA} (il : SL CA CN nC a) : SE CA CN nC (.bop isAnd a) ∧ ST CA CN nC (.bop isAnd a) := by
  have inv : ∀ {N : List Str} {sc : Scope} {e : Expr}, matE CN N sc (.bop isAnd a) e = true → ∃ es p, matA CN N sc a es = true ∧ e = .BoolOp (if isAnd then .And else .Or) es p := by
    intro N sc e h
    cases e <;> first | (cases isAnd <;> simp [matE] at h; done) | skip
    rename_i op es p
    cases isAnd <;> cases op <;> first | (simp [matE] at h; done) | exact ⟨es, p, by simpa [matE] using h, rfl⟩
  constructor
  · intro X k W e g h ok
    obtain ⟨es, p, hm, rfl⟩ := inv h
    exact (il (isAnd := isAnd) rfl g hm ok).1
  · intro X k W e g h ok ht
    obtain ⟨es, p, hm, rfl⟩ := inv h
    exact ((il (isAnd := isAnd) rfl g hm ok).2 ht).pt
theorem so_no : SO CA CN nC .no := by
  constructor
  · intro X k W e g h ok
    cases e <;> first | (simp [matO] at h; done) | skip
    refine po_imp po_none fun σ H Q q => ?_
    obtain ⟨F, R, ρ, μ, Y, Qd, s, w, k⟩ := q
    exact k _ _ _ _ _ w (Same.refl F) s.hs rfl
  · intro X k W e g h ok
    cases e <;> first | (simp [matC] at h; done) | skip
    refine pts_imp pts_nil fun σ H Q q => ?_
    obtain ⟨F, R, ρ, μ, Y, Qd, s, w, k⟩ := q
    exact k _ _ _ _ _ w (Same.refl F) s.hs rfl
theorem so_so {m : ME} (im : SE CA CN nC m ∧ ST CA CN nC m) : SO CA CN nC (.so m) := by
  constructor
  · intro X k W e g h ok
    cases e <;> first | (simp [matO] at h; done) | skip
    simp only [matO] at h
    refine po_imp (po_some (im.1 g h ok)) fun σ H Q q => ?_
    obtain ⟨F, R, ρ, μ, Y, Qd, s, w, k⟩ := q
    refine Gr.mk s w fun d1 μ1 v1 F1 H1 q1 f1 s1 x1 => ?_
    cases x1 <;> first | exact q1.elim | skip
    exact ⟨_, rfl, k _ _ _ _ _ q1 f1 s1.hs rfl⟩
  · intro X k W e g h ok
    cases e <;> first | (simp [matC] at h; done) | skip
    rename_i e es
    cases es <;> first | (simp [matC] at h; done) | skip
    simp only [matC, Bool.and_eq_true] at h
    exact pts_imp (pts_one (im.2 g h.2 ok h.1)) fun σ H Q q => q
theorem si_seq {m : ME} (im : SE CA CN nC m) : SI CA CN nC (.seq m) := by
  intro X k W t e g h ok
  simp only [matI] at h
  refine pi_imp (pi_seq (im g h ok)) fun σ H Q q => ?_
  obtain ⟨F, R, ρ, μ, Y, Qd, s, w, k⟩ := q
  refine Gr.mk s w fun d1 μ1 v1 F1 H1 q1 f1 s1 x1 => ?_
  obtain ⟨ds, e1, q1⟩ := ifL_some q1
  cases x1 with
  | tup a b => cases e1; exact ⟨_, rfl, .inr ⟨⟨_, seqT s1.hs.f a⟩, k _ _ _ _ _ q1 f1 s1.hs (wk_tup a b)⟩⟩
  | lst a b => cases e1; exact ⟨_, rfl, .inl ⟨⟨_, s1.hs.f.seq a⟩, k _ _ _ _ _ q1 f1 s1.hs (wk_lst a b)⟩⟩
  | _ => cases e1
theorem si_rng1 {m : ME} (im : SE CA CN nC m) : SI CA CN nC (.rng1 m) := by
  intro X k W t e g h ok
  cases e <;> first | (simp [matI] at h; done) | skip
  rename_i fn args kws p
  cases fn <;> first | (simp [matI] at h; done) | skip
  cases args with
  | nil => simp [matI] at h
  | cons e es =>
    cases es <;> first | (simp [matI] at h; done) | skip
    cases kws <;> first | (simp [matI] at h; done) | skip
    simp only [matI, Bool.and_eq_true, decide_eq_true_eq] at h
    obtain ⟨⟨⟨h1, h2⟩, h3⟩, h4⟩ := h
    subst h1
    have e1 := star_cons h3 [] X.env
    refine pi_imp (pi_range1 (glB_ok h2) (g.wd.blt _ name_mem_range) (pa_cons (im g h4 ok) pa_nil e1) e1) fun σ H Q q => ?_
    obtain ⟨F, R, ρ, μ, Y, Qd, s, w, k⟩ := q
    refine Gr.mk s w fun d1 μ1 v1 F1 H1 q1 f1 s1 x1 => ?_
    cases x1 <;> first | exact q1.elim | skip
    obtain ⟨b, q1⟩ := q1
    exact ⟨_, rfl, b.1, b.2, k _ _ _ _ _ q1 f1 s1.hs (wk_rng _ _)⟩
theorem si_rng2 {m m2 : ME} (im : SE CA CN nC m) (im2 : SE CA CN nC m2) : SI CA CN nC (.rng2 m m2) := by
  intro X k W t e g h ok
  cases e <;> first | (simp [matI] at h; done) | skip
  rename_i fn args kws p
  cases fn <;> first | (simp [matI] at h; done) | skip
  cases args with
  | nil => simp [matI] at h
  | cons e es =>
    cases es with
    | nil => simp [matI] at h
    | cons e2 es =>
      cases es <;> first | (simp [matI] at h; done) | skip
      cases kws <;> first | (simp [matI] at h; done) | skip
      simp only [matI, Bool.and_eq_true, decide_eq_true_eq] at h
      obtain ⟨⟨⟨⟨⟨h1, h2⟩, h3⟩, h4⟩, h5⟩, h6⟩ := h
      subst h1
      have e1 := star_cons h3 [e2] X.env
      have e3 := star_cons h4 [] X.env
      refine pi_imp (pi_range2 (glB_ok h2) (g.wd.blt _ name_mem_range) (pa_cons (im g h5 ok.1) (pa_cons (im2 g h6 ok.2) pa_nil e3) e1) (by rw [e1, e3]; rfl) e3) fun σ H Q q => ?_
      obtain ⟨F, R, ρ, μ, Y, Qd, s, w, k⟩ := q
      refine Gr.mk s w fun d1 μ1 v1 F1 H1 q1 f1 s1 x1 => Gr.mk s1 q1 fun d2 μ2 v2 F2 H2 q2 f2 s2 x2 => ?_
      cases x1 <;> first | exact q2.elim | skip
      cases x2 <;> first | exact q2.elim | skip
      obtain ⟨b, q2⟩ := q2
      exact ⟨_, _, rfl, b, k _ _ _ _ _ q2 (f1.trans f2) s2.hs (wk_rng _ _)⟩
theorem si_zip {m m2 : ME} (im : SE CA CN nC m) (im2 : SE CA CN nC m2) : SI CA CN nC (.zip m m2) := by
  intro X k W t e g h ok
  cases e <;> first | (simp [matI] at h; done) | skip
  rename_i fn args kws p
  cases fn <;> first | (simp [matI] at h; done) | skip
  cases args with
  | nil => simp [matI] at h
  | cons e es =>
    cases es with
    | nil => simp [matI] at h
    | cons e2 es =>
      cases es <;> first | (simp [matI] at h; done) | skip
      cases kws <;> first | (simp [matI] at h; done) | skip
      simp only [matI, Bool.and_eq_true, decide_eq_true_eq] at h
      obtain ⟨⟨⟨⟨⟨⟨h0, h1⟩, h2⟩, h3⟩, h4⟩, h5⟩, h6⟩ := h
      subst h1
      cases t <;> first | (simp [isTupE] at h0; done) | skip
      have e1 := star_cons h3 [e2] X.env
      have e3 := star_cons h4 [] X.env
      refine pi_imp (RZ.pi_zipA (glB_ok h2) (g.wd.blt _ name_mem_zip) (pa_cons (im g h5 ok.1) (pa_cons (im2 g h6 ok.2) pa_nil e3) e1) e1 (star_none (by simp [h4]) p X.env)) fun σ H Q q => ?_
      obtain ⟨F, R, ρ, μ, Y, Qd, s, w, k⟩ := q
      refine Gr.mk s w fun d1 μ1 v1 F1 H1 q1 f1 s1 x1 => Gr.mk s1 q1 fun d2 μ2 v2 F2 H2 q2 f2 s2 x2 => ?_
      cases x1 with
      | lst a b =>
        cases x2 with
        | lst a2 b2 => exact ⟨_, _, _, _, rfl, .inl ⟨s2.hs.f.seq (f2.seq a), s2.hs.f.seq a2, k _ _ _ _ _ q2 (f1.trans f2) s2.hs (wk_zipL (f2.seq a) (b.mono f2) a2 b2)⟩⟩
        | _ => exact q2.elim
      | tup a b =>
        cases x2 with
        | tup a2 b2 => exact ⟨_, _, _, _, rfl, .inr ⟨seqT s2.hs.f (seqT f2 a), seqT s2.hs.f a2, k _ _ _ _ _ q2 (f1.trans f2) s2.hs (wk_zipT (seqT f2 a) (b.mono f2) a2 b2)⟩⟩
        | _ => exact q2.elim
      | _ => exact q2.elim
mutual
theorem sE (CA : Nat → Addr) (CN : Nat → Str) (nC : Nat) : ∀ m : ME, SE CA CN nC m ∧ ST CA CN nC m
  | .var i => plainly (se_var i) (by intro N sc e h; cases e <;> first | (simp [matE] at h; done) | rfl)
  | .non => plainly se_non (by intro N sc e h; cases e <;> first | (simp [matE] at h; done) | rfl)
  | .bl b => plainly (se_bl b) (by intro N sc e h; cases e <;> first | (simp [matE] at h; done) | rfl)
  | .int b => plainly (se_int b) (by intro N sc e h; cases e <;> first | (simp [matE] at h; done) | rfl)
  | .str b => plainly (se_str b) (by intro N sc e h; cases e <;> first | (simp [matE] at h; done) | rfl)
  | .glob x d => plainly (se_glob x d) (by intro N sc e h; cases e <;> first | (simp [matE] at h; done) | rfl)
  | .bin o a b => plainly (se_bin (sE CA CN nC a).1 (sE CA CN nC b).1) (by intro N sc e h; cases e <;> first | (simp [matE] at h; done) | rfl)
  | .neg a => plainly (se_neg (sE CA CN nC a).1) (by intro N sc e h; cases e <;> first | (simp [matE] at h; done) | rfl | (rename_i op l p; cases op <;> first | (simp [matE] at h; done) | rfl))
  | .tup a => plainly (se_tup (sA CA CN nC a).1) (by intro N sc e h; cases e <;> first | (simp [matE] at h; done) | rfl)
  | .lst a => plainly (se_lst (sA CA CN nC a).1) (by intro N sc e h; cases e <;> first | (simp [matE] at h; done) | rfl)
  | .newl a => plainly (se_newl (sA CA CN nC a).1) (by intro N sc e h; cases e <;> first | (simp [matE] at h; done) | rfl)
  | .ixc a n => plainly (se_ixc (sE CA CN nC a).1) (by intro N sc e h; cases e <;> first | (simp [matE] at h; done) | rfl)
  | .ix a i => plainly (se_ix (sE CA CN nC a).1 (sE CA CN nC i).1) (by intro N sc e h; cases e <;> first | (simp [matE] at h; done) | rfl)
  | .slc a lo hi => plainly (se_slc (sE CA CN nC a).1 (sO CA CN nC lo) (sO CA CN nC hi)) (by intro N sc e h; cases e <;> first | (simp [matE] at h; done) | rfl)
  | .call x S a => plainly (se_call (sA CA CN nC a).1) (by intro N sc e h; cases e <;> first | (simp [matE] at h; done) | rfl)
  | .bl1 f a => plainly (se_bl1 (sE CA CN nC a).1) (by intro N sc e h; cases e <;> first | (simp [matE] at h; done) | rfl)
  | .bl2 f a b => plainly (se_bl2 (sE CA CN nC a).1 (sE CA CN nC b).1) (by intro N sc e h; cases e <;> first | (simp [matE] at h; done) | rfl)
  | .isi a t => plainly (se_isi (sE CA CN nC a).1) (by intro N sc e h; cases e <;> first | (simp [matE] at h; done) | rfl)
  | .cmp o a b => se_cmp (sE CA CN nC a).1 (sE CA CN nC b).1
  | .isN yes a => se_isN (sE CA CN nC a).1
  | .bop isAnd a => se_bop (sA CA CN nC a).2
  | .nt a => se_nt (sE CA CN nC a)
  | .ife t a b => ⟨se_ife (sE CA CN nC t) (sE CA CN nC a).1 (sE CA CN nC b).1, fun _ _ _ h => by simp [tst] at h⟩
  | .callAt fl i a => plainly (se_callAt (sE CA CN nC i).1 (sA CA CN nC a).1) (by intro N sc e h; simp only [matE] at h; cases hv : callAtOf e with | none => (rw [hv] at h; cases h) | some v => (obtain ⟨ns, s, e1, es⟩ := v; obtain ⟨p1, p2, p3, rfl⟩ := callAtOf_ok hv; rfl))
  | .bits a => plainly (se_bits (sE CA CN nC a).1) (by intro N sc e h; simp only [matE] at h; cases hv : bitsOf e with | none => (rw [hv] at h; cases h) | some v => (obtain ⟨o, ap, p⟩ := v; cases bitsOf_ok hv; rfl))
  | .rev a => plainly (se_rev (sE CA CN nC a).1) (by intro N sc e h; simp only [matE] at h; cases hv : revOf e with | none => (rw [hv] at h; cases h) | some v => (obtain ⟨k', p1, p2, p3, p4, rfl⟩ := revOf_ok hv; rfl))
  | .join s a => plainly (se_join (sE CA CN nC a).1) (by intro N sc e h; simp only [matE] at h; cases hv : joinOf e with | none => (rw [hv] at h; cases h) | some v => (obtain ⟨x, e1, ap, p⟩ := v; obtain ⟨k', p0, rfl⟩ := joinOf_ok hv; rfl))
  | .split a s => plainly (se_split (sE CA CN nC a).1) (by intro N sc e h; simp only [matE] at h; cases hv : splitOf e with | none => (rw [hv] at h; cases h) | some v => (obtain ⟨x, e1, ap, p⟩ := v; obtain ⟨k', p0, rfl⟩ := splitOf_ok hv; rfl))
  | .cat mu a b => plainly (se_cat (sE CA CN nC a).1 (sE CA CN nC b).1) (by intro N sc e h; cases e <;> first | (simp [matE] at h; done) | rfl)
  | .setl a => plainly (se_setl (sE CA CN nC a).1) (by intro N sc e h; simp only [matE] at h; cases hv : setlOf e with | none => (rw [hv] at h; cases h) | some v => (obtain ⟨p1, p2, p3, p4, rfl⟩ := setlOf_ok hv; rfl))
  | .isl a => plainly (se_isl (sE CA CN nC a).1) (by intro N sc e h; cases e <;> first | (simp [matE] at h; done) | rfl)
  | .lcr mu tg a c e => plainly (se_lcr (sE CA CN nC a).1 (sO CA CN nC c) (sE CA CN nC e).1) (by intro N sc e h; cases e <;> first | (simp [matE] at h; done) | rfl)
  | .lc mu tg it c e => plainly (se_lc (sI CA CN nC it) (sO CA CN nC c) (sE CA CN nC e).1) (by intro N sc e h; cases e <;> first | (simp [matE] at h; done) | rfl)
  | .frz a => plainly (se_frz (sE CA CN nC a).1) (by intro N sc e h; simp only [matE, Bool.and_eq_true] at h; exact h.1)
theorem sA (CA : Nat → Addr) (CN : Nat → Str) (nC : Nat) : ∀ m : MA, SA CA CN nC m ∧ SL CA CN nC m
  | .nil => ⟨sa_nil, sl_nil⟩
  | .cons m .nil => ⟨sa_cons (sE CA CN nC m).1 sa_nil, sl_one (sE CA CN nC m)⟩
  | .cons m (.cons m2 a) => ⟨sa_cons (sE CA CN nC m).1 (sA CA CN nC (.cons m2 a)).1, sl_cons (sE CA CN nC m) (sA CA CN nC (.cons m2 a)).2⟩
theorem sO (CA : Nat → Addr) (CN : Nat → Str) (nC : Nat) : ∀ m : MO, SO CA CN nC m
  | .no => so_no
  | .so m => so_so (sE CA CN nC m)
theorem sI (CA : Nat → Addr) (CN : Nat → Str) (nC : Nat) : ∀ m : MI, SI CA CN nC m
  | .seq m => si_seq (sE CA CN nC m).1
  | .rng1 m => si_rng1 (sE CA CN nC m).1
  | .rng2 m m2 => si_rng2 (sE CA CN nC m).1 (sE CA CN nC m2).1
  | .zip m m2 => si_zip (sE CA CN nC m).1 (sE CA CN nC m2).1
end
end
end Dl

/-! The data layer, part H: an error caught and kept. -/
namespace Dl
open PySem L2 PyProof.Rows
variable [NC]

section
variable {X : Cx} {pins : List (Addr × Obj)} {σ : L2.St} {H : Hp} {s : Shared}
/-- an object of ours is told from now on -/
theorem inv_track {a : Addr} {o : HO} (I : Inv X pins σ H s) (hn : H a = none) (hL : a ≠ X.env.locals) (hC : ∀ x c, X.env.cells.lookup x = some c → c ≠ a) (hp : ∀ p ∈ X.pn ++ pins, p.1 ≠ a) (h0 : X.s_0.heap.get? a = none)
    (new : ObjOk X.prog X.w (upd H a o) s.heap a o) : Inv X pins σ (upd H a o) s := by
  have ne0 : ∀ b u, X.s_0.heap.get? b = some u → b ≠ a := fun b u e z => by rw [z, h0] at e; cases e
  have neH : ∀ b u, H b = some u → b ≠ a := fun b u e => ne_of_none e hn
  refine ⟨I.ok, I.os, I.bare, ⟨I.base.keep, I.base.slot, fun b u e n x => ?_, I.base.there, fun b u e => ?_, fun b u v e => ?_, fun b ps e => ?_⟩, I.loc, I.cell, ?_, fun x c e => ?_, fun p m => ?_, fun b u e => ?_, I.len⟩
  · rw [upd_ne (ne0 b u e)]; exact I.base.free b u e n x
  · have q := I.base.tups b u e
    rw [upd_ne (neH b _ q)]; exact q
  · have q := I.base.frzs b u v e
    rw [upd_ne (neH b _ q)]; exact q
  · obtain ⟨m, q⟩ := I.base.tbls b ps e
    exact ⟨m, by rw [upd_ne (neH b _ q)]; exact q⟩
  · rw [upd_ne (Ne.symm hL)]; exact I.free
  · rw [upd_ne (hC x c e)]; exact I.freeC x c e
  · obtain ⟨p1, p2, p3, p4, p5⟩ := I.pin p m
    exact ⟨p1, by rw [upd_ne (hp p m)]; exact p2, p3, p4, p5⟩
  · by_cases q : b = a
    · subst q
      rw [upd_same] at e; cases e
      exact new
    · rw [upd_ne q] at e
      exact (I.hok b u e).stay (fun _ _ _ z => z) (fun c z => by rw [upd_ne (neH c _ z)]; exact z) fun c xs z => by rw [upd_ne (neH c _ z)]; exact z
end
/-- the wish of «except x as n: y = n», n in slot i, y in slot j -/
def wKept (K : PySem.W.Frag) (c : Value) (i j : Nat) (Wout : WX) (D : Ends) : WX := fun cls d σ H =>
  ∃ b C, cls = .ref C ∧ d = none ∧ PySem.W.exmOne K cls c = some b ∧
    (b = true → ∀ a, H a = none → D.nx (((σ.set i (some (.ref a))).set j (some (.ref a))).set i none) (upd H a (ExI C a))) ∧ (b = false → Wout cls d σ H)
section
variable {X : Cx} {x n y : Str} {c : Value} {i j : Nat} {body : List Stmt} {np pos pos' py pz ps : Pos} {tb : WX → TS} {Wout : WX}
theorem ps_try_kept (hs : X.stack = X.env :: X.outer) (hf : X.env.frame = some X.env.locals) (hex : X.ex = []) (hN : X.N.Nodup) (hi : X.N[i]? = some n) (hln : X.env.kindOf n = some .local) (hj : X.N[j]? = some y) (hy : Loc X.env.scope y)
    (hfn : X.fn y = true ∨ X.env.scope.names.lookup y = some .local) (hnd : (n == ("__debug__" : Str)) = false ∧ (n == ("__classdict__" : Str)) = false) (hc : Names X x c) (tk : Takes X Wout)
    (hb : ∀ (W : WX) (pn : List (Addr × Obj)) (xe : Value → Shared → Prop), Takes (X.tr pn xe) W → PassesOwn (model X.prog X.w) X.A X.env xe → PSs (X.tr pn xe) body (tb W)) :
    PS X (.Try body [.ExceptHandler (some (.Name x np)) (some n) [.Assign [.Name y py] (.Name n pz) ps] pos'] [] [] pos) (fun D σ H => tb (wKept X.K c i j Wout D) D σ H) := by
  refine ⟨fun pins s σ H D I h => ?_⟩
  have ok := I.ok
  have fr : X.A.frames = some (X.env :: X.outer) := by
    rw [ok.frames, hs]
  refine wpAny_Try_except ?_
  have body := hb (wKept X.K c i j Wout D) (X.pn ++ pins) (fun e t1 => wpAny (model X.prog X.w) X.A (noteFrame e X.env) (fun _ t2 => wpAny (model X.prog X.w) X.A (setFlight e none)
    (fun _ t3 => wpAny (model X.prog X.w) X.A (handleBy e X.env [.ExceptHandler (some (.Name x np)) (some n) [.Assign [.Name y py] (.Name n pz) ps] pos']) (SP X pins D) X.xe t3) X.xe t2) X.xe t1) (fun u t xe => ?_) PassesOwn.looking
  · refine wpAny_mono (body.run [] s σ H D (I.toTry _) h) (fun fl t sp => ?_) (fun _ _ z => z)
    cases fl with
    | next =>
      obtain ⟨σ1, H1, J1, q1⟩ := sp
      exact wpAny_execs_nil ⟨σ1, H1, J1.ofTry ok, q1⟩
    | brk =>
      obtain ⟨σ1, H1, J1, q1⟩ := sp
      exact ⟨σ1, H1, J1.ofTry ok, q1⟩
    | cont =>
      obtain ⟨σ1, H1, J1, q1⟩ := sp
      exact ⟨σ1, H1, J1.ofTry ok, q1⟩
    | ret u =>
      obtain ⟨w1, σ1, H1, J1, r1, q1⟩ := sp
      exact ⟨w1, σ1, H1, J1.ofTry ok, r1, q1⟩
  · obtain ⟨a, B, sI, pins', σ1, H1, cls, d, rfl, J0, nb, up, sky, na, os, ag, b, C, rfl, rfl, hm, hyes, hno⟩ := xe
    have J : Inv X pins σ1 H1 sI := J0.ofTry ok
    have sky1 : Sky B (X.env :: X.outer) a (Zc (.ref C) none) X.env.locals t.heap := by
      rw [← hs]
      exact sky
    refine Sky.land Zc.steady fr hf sky1 fun h3 fl3 up3 => ?_
    have J3 : Inv X pins σ1 H1 { t with heap := h3 } := J.landed nb fl3.1 (up.trans up3) os ag
    obtain ⟨o3, v3, g3, z3, d3⟩ := fl3.there
    have nfr : a ∉ frs (X.env :: X.outer) := fun mm => by
      obtain ⟨_, o', e', hnf⟩ := fl3.2.2.1.mem mm
      rw [g3] at e'
      cases e'
      exact hnf _ d3
    have nL : a ≠ X.env.locals := fun z => nfr (List.mem_filterMap.mpr ⟨X.env, List.mem_cons_self, by rw [hf, z]⟩)
    have nF : a ∉ X.fs := fun mm => by
      obtain ⟨ev, he, q⟩ := List.mem_filterMap.mp mm
      exact nfr (List.mem_filterMap.mpr ⟨ev, List.mem_cons_of_mem _ he, q⟩)
    have nI : sI.heap.get? a = none := by
      cases e : sI.heap.get? a with
      | none => rfl
      | some o =>
        have z := nb a o e (by rw [hs]; exact nfr)
        rw [fl3.2.1] at z
        cases z
    have n0 : X.s_0.heap.get? a = none := by
      cases e : X.s_0.heap.get? a with
      | none => rfl
      | some o =>
        obtain ⟨o', z⟩ := J.base.there a o e (by rw [hex]; exact fun z => nomatch z)
        rw [nI] at z
        cases z
    have nP : ∀ p ∈ X.pn ++ pins, p.1 ≠ a := fun p mm z => by
      have q := (J.pin p mm).1
      rw [z, nI] at q
      cases q
    have S3 := J3.suite g3 d3 na nL nF
    refine wpAny_handleBy_cons (codeAny_handlers_test ?_) (by intro q; cases q)
    have LT : PySem.W.Looks (model X.prog X.w) h3 (typeOf (.ref a)) (.ref C) := fun A Q E t k q => wpAny_typeOf_ref (k _ _ g3) (by rw [z3.1]; exact q)
    have LM := PySem.W.exm_one (M := model X.prog X.w) (J3.kIn) LT hm
    have test : ∀ {Q : Value → Shared → Prop} {E : Value → Shared → Prop}, Q c { t with heap := h3 } → wpAny (model X.prog X.w) (X.A.mark (some (.ref a))) (eval (.Name x np) X.env) Q E { t with heap := h3 } := by
      intro Q E q
      obtain ⟨hg, hdbg, hm1 | ⟨hm1, hv, hnn⟩⟩ := hc
      · exact ld_glob (X := X.suite a ((a, o3) :: (X.pn ++ pins))) S3 hg hm1 q hdbg
      · exact ld_blt (X := X.suite a ((a, o3) :: (X.pn ++ pins))) S3 hg hm1 hv q hnn hdbg
    refine test (LM.here ?_)
    cases b with
    | true =>
      refine codeAny_handlers_suite_as (HandSPX.lands_againZ fl3 fun h4 fl4 up4 => ?_)
      have J4 : Inv X pins σ1 H1 { t with heap := h4 } := J.landed nb fl4.1 ((up.trans up3).trans up4) os ag
      obtain ⟨o4, v4, g4, z4, d4⟩ := fl4.there
      have S4 := J4.suite g4 d4 na nL nF
      refine store_ok (X := X.suite a ((a, o4) :: (X.pn ++ pins))) (v := .ref a) S4 hN hi (.inl hln) rfl (fun s5 S5 => ?_) (.inr hln)
      have suite : PSs (X.suite a ((a, o4) :: (X.pn ++ pins))) [.Assign [.Name y py] (.Name n pz) ps] (tSeq (tAsg (tVar i) (gName j)) tNext) :=
        pss_cons (ps_set hN hj hy (pe_var hi (.inl hln) hnd.1 hnd.2) rfl hfn) pss_nil
      have il : i < σ1.length := by
        have e1 := J.len
        have e2 := (List.getElem?_eq_some_iff.mp hi).1
        omega
      have rd : (tSeq (tAsg (tVar i) (gName j)) tNext) { nx := fun σ' H' => σ' = ((σ1.set i (some (.ref a))).set j (some (.ref a))) ∧ H' = H1, rt := fun _ _ => False } (σ1.set i (some (.ref a))) H1 :=
        ⟨.ref a, List.getElem?_set_self il, rfl, rfl⟩
      refine wpAny_mono (suite.run [] s5 _ H1 _ S5 rd) (fun fl s6 sp => ?_) (fun _ _ z => False.elim z)
      cases fl with
      | next =>
        obtain ⟨σ6, H6, S6, e6, e7⟩ := sp
        subst e6 e7
        have J6 : Inv X ((a, o4) :: pins) ((σ1.set i (some (.ref a))).set j (some (.ref a))) H6 s6 := by
          refine ⟨ok, S6.os, S6.bare, S6.base, S6.loc, S6.cell, S6.free, S6.freeC, fun p mm => S6.pin p (List.mem_append_left _ ?_), S6.hok, S6.len⟩
          rcases List.mem_append.mp mm with z | z
          · exact List.mem_cons_of_mem _ (List.mem_append_left _ z)
          · rcases List.mem_cons.mp z with z | z
            · rw [z]; exact List.mem_cons_self
            · exact List.mem_cons_of_mem _ (List.mem_append_right _ z)
        refine gone_ok J6 hN hi hln fun s7 J7 => ?_
        obtain ⟨p1, p2, p3, p4, p5⟩ := J7.pin (a, o4) (List.mem_append_right _ List.mem_cons_self)
        have J8 : Inv X pins (((σ1.set i (some (.ref a))).set j (some (.ref a))).set i none) H6 s7 :=
          J7.pins_of fun p mm => J7.pin p (List.mem_append_right _ (List.mem_cons_of_mem _ mm))
        have nC : ∀ z cc, X.env.cells.lookup z = some cc → cc ≠ a := fun z cc e q => by
          obtain ⟨vv, ob, e1, e2⟩ := J8.cell z cc e
          rw [q, p1] at e1
          cases e1
          rw [d4] at e2
          cases e2
        have ob : ObjOk X.prog X.w (upd H6 a (ExI C a)) s7.heap a (ExI C a) :=
          ⟨⟨o4, v4, p1, z4, d4⟩, ⟨o4, p1⟩, fun h1 h2 ⟨o, v, q1, q2⟩ k => ⟨o, v, k o q1, q2⟩⟩
        exact ⟨_, _, inv_track J8 p2 nL nC nP n0 ob, hyes rfl a na⟩
      | brk => obtain ⟨_, _, _, q⟩ := sp; exact q.elim
      | cont => obtain ⟨_, _, _, q⟩ := sp; exact q.elim
      | ret u => obtain ⟨_, _, _, _, _, q⟩ := sp; exact q.elim
    | false =>
      show wpAny _ X.A (handleBy (.ref a) X.env []) _ _ _
      refine wpAny_handleBy_nil ?_
      obtain ⟨k1, k2, k3, oe, vs, T, oT, ts', he, hz, hd, h1, hr⟩ := id fl3
      unfold PySem.passOn
      refine wpAny_bind (wpAny_field he hd h1 ?_)
      rw [if_neg (show ¬ ((Value.ref T == Value.none) = true) from by simp)]
      have fin : wpAny (model X.prog X.w) X.A (setFlight (.ref a) X.env.frame) (fun _ s4 => wpAny (model X.prog X.w) X.A (throw (.ref a) : Sem Flow) (SP X pins D) X.xe s4) X.xe { t with heap := h3 } := by
        rw [hf]
        refine HandSPX.setFlight_upZ fl3 fun h4 hh4 up4 => wpAny_throw (tk _ _ ⟨a, B, sI, pins, σ1, H1, .ref C, none, rfl, J, nb, (up.trans up3).trans up4, .inr (.inr ?_), na, os, ag, hno rfl⟩)
        rw [hs]
        exact hh4
      first
        | exact wpAny_bind (wpAny_pure (wpAny_bind fin))
        | exact wpAny_bind fin
end
end Dl

/-! The data layer, part I: statements. -/
namespace Dl
open PySem L2 PyProof.Rows
variable [NC]

/-! ### the match -/
def isTupOrList : Expr → Bool
  | .Tuple _ _ _ => true
  | .List _ _ => true
  | _ => false
theorem swapped_none {tg v : Expr} (env : Env) (h : isTupOrList tg = false ∨ isTupE v = false) : swappedStores [tg] v env = pure none := by
  rcases h with h | h
  · cases tg <;> first | (simp [isTupOrList] at h; done) | rfl
  · cases v <;> first | (simp [isTupE] at h; done) | (cases tg <;> rfl)
def isLcM : ME → Bool
  | .lc _ _ _ _ _ => true
  | .lcr _ _ _ _ _ => true
  | _ => false
/-- is the comprehension's list stored within its block -/
def swB (env : Env) (x : Str) (p p2 : Pos) (scope : Scope) : Bool := env.blockKind == .function && env.kindOf x == some .local && p.line == p2.line && !(scope.names.any fun (n, k) => n == x && (k == .local || k == .cell))
theorem swB_is (elt : Expr) (gens : List Comprehension) (scope : Scope) (p2 p : Pos) (x : Str) (l : Nat) (env : Env) : swapsWith (.ListComp elt gens scope p2) (some (.Name x p)) l env = pure (swB env x p p2 scope) := rfl
def parOf : Stmt → Option (Str × Pos × Str × Pos × Expr × Expr)
  | .Assign [.Tuple [.Name x px, .Name y py] _ _] (.Tuple [e1, e2] _ _) _ => some (x, px, y, py, e1, e2)
  | _ => none
theorem parOf_ok {st : Stmt} {x y : Str} {px py : Pos} {e1 e2 : Expr} (h : parOf st = some (x, px, y, py, e1, e2)) : ∃ kk pt k2 pt2 p, st = .Assign [.Tuple [.Name x px, .Name y py] kk pt] (.Tuple [e1, e2] k2 pt2) p := by
  unfold parOf at h
  split at h
  · cases h; exact ⟨_, _, _, _, _, rfl⟩
  · cases h
def parOf3 : Stmt → Option (Str × Pos × Str × Pos × Str × Pos × Expr × Expr × Expr)
  | .Assign [.Tuple [.Name x px, .Name y py, .Name z pz] _ _] (.Tuple [e1, e2, e3] _ _) _ => some (x, px, y, py, z, pz, e1, e2, e3)
  | _ => none
theorem parOf3_ok {st : Stmt} {x y z : Str} {px py pz : Pos} {e1 e2 e3 : Expr} (h : parOf3 st = some (x, px, y, py, z, pz, e1, e2, e3)) : ∃ kk pt k2 pt2 p, st = .Assign [.Tuple [.Name x px, .Name y py, .Name z pz] kk pt] (.Tuple [e1, e2, e3] k2 pt2) p := by
  unfold parOf3 at h
  split at h
  · cases h; exact ⟨_, _, _, _, _, rfl⟩
  · cases h
theorem sole_tup (v : Expr) (es : List Expr) (kk : _) (px : Pos) (l : Nat) (env : Env) : swapsWith v (some (.Tuple es kk px)) l env = pure false := by
  cases v <;> rfl
def raisOf : Stmt → Option Str
  | .Raise (some (.Call (.Name x _) [.Constant (.str _) _ _] [] _)) none _ => some x
  | _ => none
theorem raisOf_ok {st : Stmt} {x : Str} (h : raisOf st = some x) : ∃ p1 m j p2 p3 p4, st = .Raise (some (.Call (.Name x p1) [.Constant (.str m) j p2] [] p3)) none p4 := by
  unfold raisOf at h
  split at h
  · cases h; exact ⟨_, _, _, _, _, _, rfl⟩
  · cases h
def tryOf : Stmt → Option (List Stmt × Str × Str × Str × Str)
  | .Try body [.ExceptHandler (some (.Name x _)) (some n) [.Assign [.Name y _] (.Name z _) _] _] [] [] _ => some (body, x, n, y, z)
  | _ => none
theorem tryOf_ok {st : Stmt} {body : List Stmt} {x n y z : Str} (h : tryOf st = some (body, x, n, y, z)) : ∃ p1 p2 p3 p4 p5 p6, st = .Try body [.ExceptHandler (some (.Name x p1)) (some n) [.Assign [.Name y p2] (.Name z p3) p4] p5] [] [] p6 := by
  unfold tryOf at h
  split at h
  · cases h; exact ⟨_, _, _, _, _, _, rfl⟩
  · cases h
def Mth.name : Mth → Str
  | .clear => "clear"
  | .reverse => "reverse"
mutual
def matS (CN : Nat → Str) (N : List Str) (sc : Scope) : MS → Stmt → Bool
  | .pas, .Pass _ => true
  | .asg (.name i) e, .Assign [.Name x p] v _ => decide (N[i]? = some x) && locB sc x && (notComp v || isLcM e) && matE CN N sc e v
  | .asg (.tup is) e, .Assign [.Tuple es k p] v _ => matT.matTs N sc is es && !isTupE v && matE CN N sc e v
  | .asgr is e, .Assign [.Tuple es k p] v _ => matT.matTs N sc is es && notComp v && !isTupE v && matE CN N sc e v
  | .par i j a b, st => (match parOf st with
      | some (x, px, y, py, e1, e2) => decide (N[i]? = some x) && decide (N[j]? = some y) && decide (i ≠ j) && decide (x ≠ y) && lclB sc x && lclB sc y && px.line == py.line && notStar e1 && notStar e2 && (!(foldedForSure 8 e1 && foldedForSure 8 e2)) && (!(constantsAlone 8 e1 && constantsAlone 8 e2)) && matE CN N sc a e1 && matE CN N sc b e2
      | none => false)
  | .par3 i j l a b c, st => (match parOf3 st with
      | some (x, px, y, py, z, pz, e1, e2, e3) => decide (N[i]? = some x) && decide (N[j]? = some y) && decide (N[l]? = some z) && decide (i ≠ j ∧ i ≠ l ∧ j ≠ l) && decide (x ≠ y ∧ x ≠ z ∧ y ≠ z) && lclB sc x && lclB sc y && lclB sc z && decide (px.line = py.line ∧ px.line = pz.line) && notStar e1 && notStar e2 && notStar e3 && (!(foldedForSure 8 e1 && (foldedForSure 8 e2 && foldedForSure 8 e3))) && (!(constantsAlone 8 e1 && (constantsAlone 8 e2 && constantsAlone 8 e3))) && matE CN N sc a e1 && matE CN N sc b e2 && matE CN N sc c e3
      | none => false)
  | .setix o i e, .Assign [.Subscript o' i' _] v _ => notSl i' && notComp v && matE CN N sc o o' && matE CN N sc i i' && matE CN N sc e v
  | .app o e, .Expr (.Call (.Attribute o' nm pa) [e'] [] pc) _ => decide (nm = "append") && attrOk o' && (pa.endLine == pc.line) && notStar e' && matE CN N sc o o' && matE CN N sc e e'
  | .mth f o, .Expr (.Call (.Attribute o' nm pa) [] [] pc) _ => decide (nm = f.name) && attrOk o' && (pa.endLine == pc.line) && matE CN N sc o o'
  | .expr e, .Expr v _ => notComp v && matE CN N sc e v
  | .ret e, .Return (some v) _ => matE CN N sc e v
  | .retN, .Return none _ => true
  | .ite t a b, .If c x y _ => tst t && matE CN N sc t c && matB CN N sc a x && matB CN N sc b y
  | .loop t it b, .For tg i x [] _ => matT N sc t tg && matI CN N sc it tg i && notSet i && matB CN N sc b x
  | .loopr t a b, .For tg i x [] _ => matT N sc t tg && matE CN N sc a i && notSet i && matB CN N sc b x
  | .whl t b, .While c x [] _ => tst t && matE CN N sc t c && matB CN N sc b x
  | .brk, .Break _ => true
  | .cnt, .Continue _ => true
  | .rais c, st => (match raisOf st with
      | some x => decide (CN c = x) && glB sc x && dbg x && decide (c < NC.n)
      | none => false)
  | .try1 c b i j, st => (match tryOf st with
      | some (body, x, n, y, z) => decide (CN c = x) && glB sc x && dbg x && decide (c < NC.n) && decide (N[i]? = some n) && lclB sc n && decide (N[j]? = some y) && locB sc y && decide (z = n) && decide (i ≠ j) && matB CN N sc b body
      | none => false)
  | _, _ => false
def matB (CN : Nat → Str) (N : List Str) (sc : Scope) : MB → List Stmt → Bool
  | .nil, [] => true
  | .cons m b, s :: ss => matS CN N sc m s && matB CN N sc b ss
  | _, _ => false
end
mutual
def okS (nC : Nat) (fs : Str → DSp → Prop) (gs : Str → D → Prop) : MS → Prop
  | .asg _ e => okE nC fs gs e
  | .asgr _ e => okE nC fs gs e
  | .par _ _ a b => okE nC fs gs a ∧ okE nC fs gs b
  | .par3 _ _ _ a b c => okE nC fs gs a ∧ okE nC fs gs b ∧ okE nC fs gs c
  | .setix o i e => okE nC fs gs o ∧ okE nC fs gs i ∧ okE nC fs gs e
  | .app o e => okE nC fs gs o ∧ okE nC fs gs e
  | .mth _ o => okE nC fs gs o
  | .expr e => okE nC fs gs e
  | .ret e => okE nC fs gs e
  | .ite t a b => okE nC fs gs t ∧ okB nC fs gs a ∧ okB nC fs gs b
  | .loop _ it b => okI nC fs gs it ∧ okB nC fs gs b
  | .loopr _ a b => okE nC fs gs a ∧ okB nC fs gs b
  | .whl t b => okE nC fs gs t ∧ okB nC fs gs b
  | .rais _ => nC = NC.n
  | .try1 _ b _ _ => nC = NC.n ∧ okB nC fs gs b
  | _ => True
def okB (nC : Nat) (fs : Str → DSp → Prop) (gs : Str → D → Prop) : MB → Prop
  | .nil => True
  | .cons s b => okS nC fs gs s ∧ okB nC fs gs b
end

/-! ### readings -/
structure Kc (K : PySem.W.Frag) (CA : Nat → Addr) (W : WX) (E : Ends) (F R : Hp) (N : En) : Prop where
  nx : ∀ ρ' μ' σ' F' H', N.nx ρ' μ' → Same F F' → Hs K CA F' R μ' H' → Rp K CA F' ρ' σ' → E.nx σ' H'
  rt : ∀ d μ' v F' H', N.rt d μ' → Same F F' → Hs K CA F' R μ' H' → Dx K CA F' v d → E.rt v H'
  bk : ∀ ρ' μ' σ' F' H', N.bk ρ' μ' → Same F F' → Hs K CA F' R μ' H' → Rp K CA F' ρ' σ' → E.bk σ' H'
  ct : ∀ ρ' μ' σ' F' H', N.ct ρ' μ' → Same F F' → Hs K CA F' R μ' H' → Rp K CA F' ρ' σ' → E.ct σ' H'
  xx : ∀ c ρ' μ' σ' F' H', N.xx c ρ' μ' → Same F F' → Hs K CA F' R μ' H' → Rp K CA F' ρ' σ' → W (.ref (CA c)) none σ' H'
theorem Kc.go {K : PySem.W.Frag} {CA : Nat → Addr} {W : WX} {E : Ends} {F F1 R : Hp} {N : En} (k : Kc K CA W E F R N) (f : Same F F1) : Kc K CA W E F1 R N :=
  ⟨fun a b c d e q g => k.nx a b c d e q (f.trans g), fun a b c d e q g => k.rt a b c d e q (f.trans g), fun a b c d e q g => k.bk a b c d e q (f.trans g), fun a b c d e q g => k.ct a b c d e q (f.trans g), fun a b c d e h q g => k.xx a b c d e h q (f.trans g)⟩

def tS (K : PySem.W.Frag) (CA : Nat → Addr) (W : WX) (w : Rho → Mu → En → Prop) : TS := fun E σ H => ∃ F R ρ μ N, Hs K CA F R μ H ∧ Rp K CA F ρ σ ∧ w ρ μ N ∧ Kc K CA W E F R N
structure GdS (X : Cx) (k : Nat) (W : WX) (CA : Nat → Addr) (CN : Nat → Str) (nC : Nat) : Prop extends Gd X k W CA CN nC where
  fn : ∀ x, X.fn x = true
  stk : X.stack = X.env :: X.outer
  frm : X.env.frame = some X.env.locals
  ex : X.ex = []
  kind : X.env.scope.kind = .function
theorem ps_imp {X : Cx} {e : Stmt} {t t' : TS} (h : PS X e t) (i : ∀ E σ H, t' E σ H → t E σ H) : PS X e t' := ⟨fun pins s σ H D I q => h.run pins s σ H D I (i D σ H q)⟩
theorem pss_imp {X : Cx} {e : List Stmt} {t t' : TS} (h : PSs X e t) (i : ∀ E σ H, t' E σ H → t E σ H) : PSs X e t' := ⟨fun pins s σ H D I q => h.run pins s σ H D I (i D σ H q)⟩
section
variable (CA : Nat → Addr) (CN : Nat → Str) (nC : Nat)
def SS (m : MS) : Prop := ∀ {X : Cx} {k : Nat} {W : WX} {e : Stmt}, GdS X k W CA CN nC → matS CN X.N X.env.scope m e = true → okS nC (FnSat CA X k) (GlSat CA X) m → PS X e (tS X.K CA W (wpS m))
def SB (m : MB) : Prop := ∀ {X : Cx} {k : Nat} {W : WX} {e : List Stmt}, GdS X k W CA CN nC → matB CN X.N X.env.scope m e = true → okB nC (FnSat CA X k) (GlSat CA X) m → PSs X e (tS X.K CA W (wpB m))
end
section
variable {CA : Nat → Addr} {CN : Nat → Str} {nC : Nat}
theorem Kc.sx {K : PySem.W.Frag} {W : WX} {E : Ends} {F R H : Hp} {N : En} {ρ : Rho} {μ : Mu} {σ : L2.St} (k : Kc K CA W E F R N) (hs : Hs K CA F R μ H) (rp : Rp K CA F ρ σ) : Sx K CA W σ F R ρ μ (fun c μ1 => N.xx c ρ μ1) H :=
  ⟨hs, rp, fun c μ' F' H' q f z => k.xx c ρ μ' σ F' H' q f z (rp.mono f)⟩
theorem ss_pas : SS CA CN nC .pas := by
  intro X k W e g h ok
  cases e <;> first | (simp [matS] at h; done) | skip
  refine ps_imp ps_pass fun E σ H q => ?_
  obtain ⟨F, R, ρ, μ, N, hs, rp, w, kc⟩ := q
  exact kc.nx _ _ _ _ _ w (Same.refl F) hs rp
theorem ss_brk : SS CA CN nC .brk := by
  intro X k W e g h ok
  cases e <;> first | (simp [matS] at h; done) | skip
  refine ps_imp ps_break fun E σ H q => ?_
  obtain ⟨F, R, ρ, μ, N, hs, rp, w, kc⟩ := q
  exact kc.bk _ _ _ _ _ w (Same.refl F) hs rp
theorem ss_cnt : SS CA CN nC .cnt := by
  intro X k W e g h ok
  cases e <;> first | (simp [matS] at h; done) | skip
  refine ps_imp ps_continue fun E σ H q => ?_
  obtain ⟨F, R, ρ, μ, N, hs, rp, w, kc⟩ := q
  exact kc.ct _ _ _ _ _ w (Same.refl F) hs rp
theorem ss_retN : SS CA CN nC .retN := by
  intro X k W e g h ok
  cases e <;> first | (simp [matS] at h; done) | skip
  rename_i v p
  cases v <;> first | (simp [matS] at h; done) | skip
  refine ps_imp ps_retN fun E σ H q => ?_
  obtain ⟨F, R, ρ, μ, N, hs, rp, w, kc⟩ := q
  exact kc.rt _ _ _ _ _ w (Same.refl F) hs .non
theorem ss_ret {m : ME} : SS CA CN nC (.ret m) := by
  intro X k W e g h ok
  cases e <;> first | (simp [matS] at h; done) | skip
  rename_i v p
  cases v <;> first | (simp [matS] at h; done) | skip
  simp only [matS] at h
  refine ps_imp (ps_ret ((sE CA CN nC m).1 g.toGd h ok)) fun E σ H q => ?_
  obtain ⟨F, R, ρ, μ, N, hs, rp, w, kc⟩ := q
  exact Gr.mk (kc.sx hs rp) w fun d μ1 v F1 H1 q1 f1 s1 x1 => kc.rt _ _ _ _ _ q1 f1 s1.hs x1
theorem ss_expr {m : ME} : SS CA CN nC (.expr m) := by
  intro X k W e g h ok
  cases e <;> first | (simp [matS] at h; done) | skip
  simp only [matS, Bool.and_eq_true] at h
  refine ps_imp (ps_expr ((sE CA CN nC m).1 g.toGd h.2 ok) (notComp_ok h.1 _ _ _)) fun E σ H q => ?_
  obtain ⟨F, R, ρ, μ, N, hs, rp, w, kc⟩ := q
  exact Gr.mk (kc.sx hs rp) w fun d μ1 v F1 H1 q1 f1 s1 x1 => kc.nx _ _ _ _ _ q1 f1 s1.hs s1.rp
/-- the parts of a comprehension -/
theorem lc_parts {mu : Bool} {tg : MT} {it : MI} {c : MO} {e : ME} {X : Cx} {k : Nat} {W : WX} {ex : Expr} (g : Gd X k W CA CN nC) (h : matE CN X.N X.env.scope (.lc mu tg it c e) ex = true) (ok : okE nC (FnSat CA X k) (GlSat CA X) (.lc mu tg it c e)) :
    ∃ (elt t i : Expr) (ifs : List Expr) (scope : Scope) (p : Pos) (own : List (Str × Nat)), ex = .ListComp elt [⟨t, i, ifs, 0⟩] scope p ∧ own.map (·.2) = tg.slots ∧ PI X t i (tI X.K CA W it) ∧ BlkOk X.N X.env.scope scope own ∧
      (∀ (s : Shared) (H : Hp) (C : Addr) (cl : List (Str × Addr)) (fp : List Addr), PG (X.blk s H scope (compEnvC scope cl C X.env) fp) t (gT X.K tg)) ∧
      (∀ (s : Shared) (H : Hp) (C : Addr) (cl : List (Str × Addr)) (fp : List Addr), PTs (X.blk s H scope (compEnvC scope cl C X.env) fp) ifs (tQ X.K CA (fun _ _ _ _ => False) c)) ∧
      (∀ (s : Shared) (H : Hp) (C : Addr) (cl : List (Str × Addr)) (fp : List Addr), PE (X.blk s H scope (compEnvC scope cl C X.env) fp) elt (tE X.K CA (fun _ _ _ _ => False) e)) ∧ ∀ x, foldedSetIterable i X.env x = pure x := by
  cases ex <;> first | (simp [matE] at h; done) | skip
  rename_i elt gens scope p
  cases gens with
  | nil => simp [matE] at h
  | cons gn gens =>
    cases gens <;> first | (simp [matE] at h; done) | skip
    obtain ⟨t, i, ifs, as⟩ := gn
    simp only [matE, Bool.and_eq_true, decide_eq_true_eq] at h
    obtain ⟨⟨⟨⟨⟨⟨ea, h1⟩, h2⟩, h3⟩, h4⟩, h5⟩, h6⟩ := h
    subst ea
    exact ⟨elt, t, i, ifs, scope, p, ownOf tg t, rfl, own_slots h1, sI CA CN nC it g h3 ok.1, blkOk_by h2,
      fun s H C cl fp => pg_T (X := X.blk s H scope (compEnvC scope cl C X.env) fp) (N := X.N) (sc := scope) g.calm rfl g.nd (fun x hx => relS_loc hx) h1,
      fun s H C cl fp => (sO CA CN nC c).2 (g.blk s H scope C cl fp) h5 ok.2.1, fun s H C cl fp => (sE CA CN nC e).1 (g.blk s H scope C cl fp) h6 ok.2.2, fun x => notSet_ok h4 X.env x⟩
theorem lcr_parts {mu : Bool} {tg : MT} {a : ME} {c : MO} {e : ME} {X : Cx} {k : Nat} {W : WX} {ex : Expr} (g : Gd X k W CA CN nC) (h : matE CN X.N X.env.scope (.lcr mu tg a c e) ex = true) (ok : okE nC (FnSat CA X k) (GlSat CA X) (.lcr mu tg a c e)) :
    ∃ (elt t i : Expr) (ifs : List Expr) (scope : Scope) (p : Pos) (own : List (Str × Nat)), ex = .ListComp elt [⟨t, i, ifs, 0⟩] scope p ∧ own.map (·.2) = tg.slots ∧ PI X t i (tR X.K CA W a) ∧ BlkOk X.N X.env.scope scope own ∧
      (∀ (s : Shared) (H : Hp) (C : Addr) (cl : List (Str × Addr)) (fp : List Addr), PG (X.blk s H scope (compEnvC scope cl C X.env) fp) t (gT X.K tg)) ∧
      (∀ (s : Shared) (H : Hp) (C : Addr) (cl : List (Str × Addr)) (fp : List Addr), PTs (X.blk s H scope (compEnvC scope cl C X.env) fp) ifs (tQ X.K CA (fun _ _ _ _ => False) c)) ∧
      (∀ (s : Shared) (H : Hp) (C : Addr) (cl : List (Str × Addr)) (fp : List Addr), PE (X.blk s H scope (compEnvC scope cl C X.env) fp) elt (tE X.K CA (fun _ _ _ _ => False) e)) ∧ ∀ x, foldedSetIterable i X.env x = pure x := by
  cases ex <;> first | (simp [matE] at h; done) | skip
  rename_i elt gens scope p
  cases gens with
  | nil => simp [matE] at h
  | cons gn gens =>
    cases gens <;> first | (simp [matE] at h; done) | skip
    obtain ⟨t, i, ifs, as⟩ := gn
    simp only [matE, Bool.and_eq_true, decide_eq_true_eq] at h
    obtain ⟨⟨⟨⟨⟨⟨ea, h1⟩, h2⟩, h3⟩, h4⟩, h5⟩, h6⟩ := h
    subst ea
    exact ⟨elt, t, i, ifs, scope, p, ownOf tg t, rfl, own_slots h1, pi_seq ((sE CA CN nC a).1 g h3 ok.1), blkOk_by h2,
      fun s H C cl fp => pg_T (X := X.blk s H scope (compEnvC scope cl C X.env) fp) (N := X.N) (sc := scope) g.calm rfl g.nd (fun x hx => relS_loc hx) h1,
      fun s H C cl fp => (sO CA CN nC c).2 (g.blk s H scope C cl fp) h5 ok.2.1, fun s H C cl fp => (sE CA CN nC e).1 (g.blk s H scope C cl fp) h6 ok.2.2, fun x => notSet_ok h4 X.env x⟩
theorem ss_asg {t : MT} {m : ME} : SS CA CN nC (.asg t m) := by
  intro X k W e g h ok
  have rd : ∀ (E : Ends) (σ : L2.St) (H : Hp), tS X.K CA W (wpS (.asg t m)) E σ H → tAsg (tE X.K CA W m) (gT X.K t) E σ H := fun E σ H q => by
    obtain ⟨F, R, ρ, μ, N, hs, rp, w, kc⟩ := q
    refine Gr.mk (kc.sx hs rp) w fun d μ1 v F1 H1 q1 f1 s1 x1 => ?_
    exact gT_ok q1 x1 s1.rp s1.hs fun ρ' σ' hk rp' _ => kc.nx _ _ _ _ _ hk f1 s1.hs rp'
  cases t with
  | name i =>
    cases e <;> first | (simp [matS] at h; done) | skip
    rename_i tgs v p
    cases tgs with
    | nil => simp [matS] at h
    | cons tg tgs =>
      cases tgs <;> first | (cases tg <;> simp [matS] at h; done) | skip
      cases tg <;> first | (simp [matS] at h; done) | skip
      rename_i x px
      simp only [matS, Bool.and_eq_true, decide_eq_true_eq] at h
      obtain ⟨⟨⟨h1, h2⟩, h3⟩, h4⟩ := h
      have hv := (sE CA CN nC m).1 g.toGd h4 ok
      by_cases nc : notComp v = true
      · exact ps_imp (ps_set g.nd h1 (locB_ok h2) hv (notComp_ok nc _ _ _) (.inl (g.fn x))) rd
      · have hl : isLcM m = true := by
          simp only [Bool.or_eq_true] at h3
          exact h3.resolve_left nc
        cases m <;> first | (simp [isLcM] at hl; done) | skip
        case lc mu tg it c e =>
          obtain ⟨elt, tt, ii, ifs, scope, p2, own, rfl, ho, pi, bo, pg, pts, pee, hss⟩ := lc_parts g.toGd h4 ok
          cases sw : swB X.env x px p2 scope with
          | false => exact ps_imp (ps_set g.nd h1 (locB_ok h2) hv (by rw [swB_is, sw]) (.inl (g.fn x))) rd
          | true =>
            have lo : X.env.scope.names.lookup x = some .local := by
              unfold swB at sw
              simp only [Bool.and_eq_true, beq_iff_eq] at sw
              exact sw.1.1.2
            have ps := ps_setLc (X := X) (i := i) (y := x) (py := px) (spos := p) g.calm g.nd h1 lo (by rw [swB_is, sw]) pi bo pg pts pee hss
            rw [ho] at ps
            refine ps_imp ps fun E σ H q => ?_
            obtain ⟨F, R, ρ, μ, N, hs, rp, w, kc⟩ := q
            refine lc_read (W := W) σ H _ (Gr.mk (Qd := fun d μ1 => bindT (.name i) d ρ fun ρ1 => N.nx ρ1 μ1) (kc.sx hs rp) w fun d μ1 v F1 H1 q1 f1 s1 x1 => ?_)
            exact kc.nx _ _ _ _ _ q1 f1 s1.hs (s1.rp.set i x1)
        case lcr mu tg a c e =>
          obtain ⟨elt, tt, ii, ifs, scope, p2, own, rfl, ho, pi, bo, pg, pts, pee, hss⟩ := lcr_parts g.toGd h4 ok
          cases sw : swB X.env x px p2 scope with
          | false => exact ps_imp (ps_set g.nd h1 (locB_ok h2) hv (by rw [swB_is, sw]) (.inl (g.fn x))) rd
          | true =>
            have lo : X.env.scope.names.lookup x = some .local := by
              unfold swB at sw
              simp only [Bool.and_eq_true, beq_iff_eq] at sw
              exact sw.1.1.2
            have ps := ps_setLc (X := X) (i := i) (y := x) (py := px) (spos := p) g.calm g.nd h1 lo (by rw [swB_is, sw]) pi bo pg pts pee hss
            rw [ho] at ps
            refine ps_imp ps fun E σ H q => ?_
            obtain ⟨F, R, ρ, μ, N, hs, rp, w, kc⟩ := q
            refine lcr_read (W := W) σ H _ (Gr.mk (Qd := fun d μ1 => bindT (.name i) d ρ fun ρ1 => N.nx ρ1 μ1) (kc.sx hs rp) w fun d μ1 v F1 H1 q1 f1 s1 x1 => ?_)
            exact kc.nx _ _ _ _ _ q1 f1 s1.hs (s1.rp.set i x1)
  | tup is =>
    cases e <;> first | (simp [matS] at h; done) | skip
    rename_i tgs v p
    cases tgs with
    | nil => simp [matS] at h
    | cons tg tgs =>
      cases tgs <;> first | (cases tg <;> simp [matS] at h; done) | skip
      cases tg <;> first | (simp [matS] at h; done) | skip
      rename_i es kk px
      simp only [matS, Bool.and_eq_true] at h
      obtain ⟨⟨h1, h3⟩, h4⟩ := h
      have h3' : isTupE v = false := by simpa using h3
      have hv := (sE CA CN nC m).1 g.toGd h4 ok
      have pg : PG X (.Tuple es kk px) (gT X.K (.tup is)) := pg_T (N := X.N) (sc := X.env.scope) g.calm rfl g.nd (fun x hx => ⟨locB_ok hx, .inl (g.fn x)⟩) (by simp only [matT]; exact h1)
      exact ps_imp (ps_asg hv pg (show swapsWithSole [.Tuple es kk px] v p.line X.env = pure false from sole_tup v es kk px p.line X.env) (swapped_none X.env (.inr h3')) rfl) rd
theorem ss_asgr {is : List Nat} {m : ME} : SS CA CN nC (.asgr is m) := by
  intro X k W e g h ok
  have rd : ∀ (E : Ends) (σ : L2.St) (H : Hp), tS X.K CA W (wpS (.asgr is m)) E σ H → tAsg (tE X.K CA W m) (gT X.K (.tup is)) E σ H := fun E σ H q => by
    obtain ⟨F, R, ρ, μ, N, hs, rp, w, kc⟩ := q
    refine Gr.mk (kc.sx hs rp) w fun d μ1 v F1 H1 q1 f1 s1 x1 => ?_
    obtain ⟨ds, e1, q2⟩ := ifL_some q1
    clear q1
    cases z : bindAll is ds ρ with
    | none => rw [z] at q2; exact q2.elim
    | some ρ' =>
      rw [z] at q2
      cases x1 with
      | tup a c => cases e1; exact gT_ok (t := .tup is) (d := .tup ds) (k := fun r => N.nx r μ1) (show ifR (bindAll is ds ρ) _ by rw [z]; exact q2) (.tup a c) s1.rp s1.hs fun ρ' σ' hk rp' _ => kc.nx _ _ _ _ _ hk f1 s1.hs rp'
      | lst a c => cases e1; exact gT_ok (t := .tup is) (d := .lst ds) (k := fun r => N.nx r μ1) (show ifR (bindAll is ds ρ) _ by rw [z]; exact q2) (.lst a c) s1.rp s1.hs fun ρ' σ' hk rp' _ => kc.nx _ _ _ _ _ hk f1 s1.hs rp'
      | ref a =>
        obtain ⟨_, _, vs, hv, xv⟩ := s1.hs.m a ds e1
        obtain ⟨h1, h2⟩ := bindAll_ok z xv s1.rp
        exact .inr ⟨_, _, rfl, .of hv, h1.symm, gNs_of h1 (kc.nx _ _ _ _ _ q2 f1 s1.hs h2)⟩
      | _ => cases e1
  cases e <;> first | (simp [matS] at h; done) | skip
  rename_i tgs v p
  cases tgs with
  | nil => simp [matS] at h
  | cons tg tgs =>
    cases tgs <;> first | (cases tg <;> simp [matS] at h; done) | skip
    cases tg <;> first | (simp [matS] at h; done) | skip
    rename_i es kk px
    simp only [matS, Bool.and_eq_true] at h
    obtain ⟨⟨⟨h1, h2⟩, h3⟩, h4⟩ := h
    have h3' : isTupE v = false := by simpa using h3
    have hv := (sE CA CN nC m).1 g.toGd h4 ok
    have pg : PG X (.Tuple es kk px) (gT X.K (.tup is)) := pg_T (N := X.N) (sc := X.env.scope) g.calm rfl g.nd (fun x hx => ⟨locB_ok hx, .inl (g.fn x)⟩) (by simp only [matT]; exact h1)
    exact ps_imp (ps_asg hv pg (show swapsWithSole [.Tuple es kk px] v p.line X.env = pure false from notComp_ok h2 (some (.Tuple es kk px)) p.line X.env) (swapped_none X.env (.inr h3')) rfl) rd
theorem star_fn (e : Expr) : notStar e = true → (match e with | .Starred _ _ => true | _ => false) = false := by
  intro h
  cases e <;> first | rfl | (simp [notStar] at h)
theorem ss_par {i j : Nat} {a b : ME} : SS CA CN nC (.par i j a b) := by
  intro X k W e g h ok
  simp only [matS] at h
  split at h
  · rename_i x qx y qy e1 e2 hp
    obtain ⟨kk, px, k2, pt2, p, rfl⟩ := parOf_ok hp
    simp only [Bool.and_eq_true, decide_eq_true_eq] at h
    obtain ⟨⟨⟨⟨⟨⟨⟨⟨⟨⟨⟨⟨h1, h2⟩, h3⟩, h4⟩, h5⟩, h6⟩, h7⟩, h8⟩, h9⟩, h10⟩, h11⟩, h12⟩, h13⟩ := h
    have lx := lclB_ok h5
    have ly := lclB_ok h6
    have sw : swappedStores [.Tuple [.Name x qx, .Name y qy] kk px] (.Tuple [e1, e2] k2 pt2) X.env = pure (some [x, y]) := by
      have b0 : X.env.blockKind = .function := by unfold Env.blockKind; rw [g.kind]; rfl
      have kx : X.env.kindOf x = some .local := lx
      have ky : X.env.kindOf y = some .local := ly
      have f1 : (foldedForSure 8 e1 && foldedForSure 8 e2) = false := by simpa only [Bool.not_eq_true'] using h10
      have f2 : (constantsAlone 8 e1 && constantsAlone 8 e2) = false := by simpa only [Bool.not_eq_true'] using h11
      have ne : ([x, y] : List Str).eraseDups.length = 2 := by
        have : (y == x) = false := by simpa using Ne.symm h4
        simp [List.eraseDups_cons, this]
      have ql : (qy.line == qx.line) = true := by
        have := beq_iff_eq.mp h7
        rw [this]; simp
      unfold swappedStores
      simp only [List.length_cons, List.length_nil, List.any_cons, List.any_nil, b0, Bool.or_false, List.filterMap_cons, List.filterMap_nil, kx, ky, ql, List.all_cons, List.all_nil, Bool.and_true, f1, f2, List.head?_cons, Option.map_some, Option.getD_some, Expr.pos, ne, beq_self_eq_true, Bool.and_self, if_true]
      rw [if_neg (by decide), if_neg (by
        intro z
        rw [Bool.or_eq_true] at z
        rcases z with z | z
        · cases e1 <;> first | (simp [notStar] at h8; done) | cases z
        · cases e2 <;> first | (simp [notStar] at h9; done) | cases z)]
      rfl
    refine ps_imp (ps_par g.calm g.nd h1 h2 h3 lx ly (pa_cons ((sE CA CN nC a).1 g.toGd h12 ok.1) (pa_cons ((sE CA CN nC b).1 g.toGd h13 ok.2) pa_nil (star_cons h9 [] X.env)) (star_cons h8 [e2] X.env)) sw rfl) fun E σ H q => ?_
    obtain ⟨F, R, ρ, μ, N, hs, rp, w, kc⟩ := q
    refine Gr.mk (kc.sx hs rp) w fun d1 μ1 v1 F1 H1 q1 f1 s1 x1 => Gr.mk s1 q1 fun d2 μ2 v2 F2 H2 q2 f2 s2 x2 => ⟨v1, v2, rfl, ?_⟩
    exact kc.nx _ _ _ _ _ q2 (f1.trans f2) s2.hs ((s2.rp.set i (x1.mono f2)).set j x2)
  · cases h
theorem ss_par3 {i j l : Nat} {a b c : ME} : SS CA CN nC (.par3 i j l a b c) := by
  intro X k W e g h ok
  simp only [matS] at h
  split at h
  · rename_i x qx y qy z qz e1 e2 e3 hp
    obtain ⟨kk, px, k2, pt2, p, rfl⟩ := parOf3_ok hp
    simp only [Bool.and_eq_true, decide_eq_true_eq] at h
    obtain ⟨⟨⟨⟨⟨⟨⟨⟨⟨⟨⟨⟨⟨⟨⟨⟨h1, h2⟩, h2z⟩, h3⟩, h4⟩, h5⟩, h6⟩, h6z⟩, h7⟩, h8⟩, h9⟩, h9z⟩, h10⟩, h11⟩, h12⟩, h13⟩, h14⟩ := h
    have lx := lclB_ok h5
    have ly := lclB_ok h6
    have lz := lclB_ok h6z
    have sw : swappedStores [.Tuple [.Name x qx, .Name y qy, .Name z qz] kk px] (.Tuple [e1, e2, e3] k2 pt2) X.env = pure (some [x, y, z]) := by
      have b0 : X.env.blockKind = .function := by unfold Env.blockKind; rw [g.kind]; rfl
      have kx : X.env.kindOf x = some .local := lx
      have ky : X.env.kindOf y = some .local := ly
      have kz : X.env.kindOf z = some .local := lz
      have f1 : (foldedForSure 8 e1 && (foldedForSure 8 e2 && foldedForSure 8 e3)) = false := by simpa only [Bool.not_eq_true'] using h10
      have f2 : (constantsAlone 8 e1 && (constantsAlone 8 e2 && constantsAlone 8 e3)) = false := by simpa only [Bool.not_eq_true'] using h11
      have ne : ([x, y, z] : List Str).eraseDups.length = 3 := by
        have a1 : (y == x) = false := by simpa using Ne.symm h4.1
        have a2 : (z == x) = false := by simpa using Ne.symm h4.2.1
        have a3 : (z == y) = false := by simpa using Ne.symm h4.2.2
        simp [List.eraseDups_cons, a1, a2, a3]
      have ql : (qy.line == qx.line) = true := by rw [h7.1]; simp
      have qm : (qz.line == qx.line) = true := by rw [h7.2]; simp
      unfold swappedStores
      simp only [List.length_cons, List.length_nil, List.any_cons, List.any_nil, b0, Bool.or_false, List.filterMap_cons, List.filterMap_nil, kx, ky, kz, ql, qm, List.all_cons, List.all_nil, Bool.and_true, f1, f2, List.head?_cons, Option.map_some, Option.getD_some, Expr.pos, ne, beq_self_eq_true, Bool.and_self, if_true]
      rw [if_neg (by decide), if_neg (by
        intro w
        rw [Bool.or_eq_true, Bool.or_eq_true] at w
        rcases w with w | w | w
        · cases e1 <;> first | (simp [notStar] at h8; done) | cases w
        · cases e2 <;> first | (simp [notStar] at h9; done) | cases w
        · cases e3 <;> first | (simp [notStar] at h9z; done) | cases w)]
      rfl
    refine ps_imp (ps_par3 g.calm g.nd h1 h2 h2z h3.1 h3.2.1 h3.2.2 lx ly lz (pa_cons ((sE CA CN nC a).1 g.toGd h12 ok.1) (pa_cons ((sE CA CN nC b).1 g.toGd h13 ok.2.1) (pa_cons ((sE CA CN nC c).1 g.toGd h14 ok.2.2) pa_nil (star_cons h9z [] X.env)) (star_cons h9 [e3] X.env)) (star_cons h8 [e2, e3] X.env)) sw rfl) fun E σ H q => ?_
    obtain ⟨F, R, ρ, μ, N, hs, rp, w, kc⟩ := q
    refine Gr.mk (kc.sx hs rp) w fun d1 μ1 v1 F1 H1 q1 f1 s1 x1 => Gr.mk s1 q1 fun d2 μ2 v2 F2 H2 q2 f2 s2 x2 => Gr.mk s2 q2 fun d3 μ3 v3 F3 H3 q3 f3 s3 x3 => ⟨v1, v2, v3, rfl, ?_⟩
    exact kc.nx _ _ _ _ _ q3 ((f1.trans f2).trans f3) s3.hs (((s3.rp.set i ((x1.mono f2).mono f3)).set j (x2.mono f3)).set l x3)
  · cases h
theorem ss_setix {o i m : ME} : SS CA CN nC (.setix o i m) := by
  intro X k W e g h ok
  cases e <;> first | (simp [matS] at h; done) | skip
  rename_i tgs v p
  cases tgs with
  | nil => simp [matS] at h
  | cons tg tgs =>
    cases tgs <;> first | (cases tg <;> simp [matS] at h; done) | skip
    cases tg <;> first | (simp [matS] at h; done) | skip
    rename_i o' i' px
    simp only [matS, Bool.and_eq_true] at h
    obtain ⟨⟨⟨⟨h1, h2⟩, h3⟩, h4⟩, h5⟩ := h
    have pg : PG X (.Subscript o' i' px) (gSub (tE X.K CA W o) (tE X.K CA W i) rSetL) := pg_sub ((sE CA CN nC o).1 g.toGd h3 ok.1) ((sE CA CN nC i).1 g.toGd h4 ok.2.1) set_list (by
      intro u
      cases i' <;> first | (simp [notSl] at h1; done) | rfl)
    refine ps_imp (ps_asg ((sE CA CN nC m).1 g.toGd h5 ok.2.2) pg (show swapsWithSole [.Subscript o' i' px] v p.line X.env = pure false from notComp_ok h2 (some (.Subscript o' i' px)) p.line X.env) (swapped_none X.env (.inl rfl)) rfl) fun E σ H q => ?_
    obtain ⟨F, R, ρ, μ, N, hs, rp, w, kc⟩ := q
    refine Gr.mk (kc.sx hs rp) w fun d1 μ1 v1 F1 H1 q1 f1 s1 x1 => Gr.mk s1 q1 fun d2 μ2 v2 F2 H2 q2 f2 s2 x2 => Gr.mk s2 q2 fun d3 μ3 v3 F3 H3 q3 f3 s3 x3 => ?_
    cases x2 <;> first | exact q3.elim | skip
    cases x3 <;> first | exact q3.elim | skip
    obtain ⟨ds, e1, kk, e2, q3⟩ := ifL_some q3
    obtain ⟨_, _, vs, hv, xv⟩ := s3.hs.m _ ds e1
    refine ⟨_, vs, _, kk, rfl, rfl, hv, by rw [xv.length]; exact e2, ?_⟩
    exact kc.nx _ _ _ _ _ q3 ((f1.trans f2).trans f3) (s3.hs.set e1 (xv.set ((x1.mono f2).mono f3) kk)) s3.rp
theorem ss_app {o m : ME} : SS CA CN nC (.app o m) := by
  intro X k W e g h ok
  cases e <;> first | (simp [matS] at h; done) | skip
  rename_i v p
  cases v <;> first | (simp [matS] at h; done) | skip
  rename_i fn args kws pc
  cases fn <;> first | (simp [matS] at h; done) | skip
  rename_i o' nm pa
  cases args with
  | nil => simp [matS] at h
  | cons e' es =>
    cases es <;> first | (simp [matS] at h; done) | skip
    cases kws <;> first | (simp [matS] at h; done) | skip
    simp only [matS, Bool.and_eq_true, decide_eq_true_eq] at h
    obtain ⟨⟨⟨⟨⟨h1, h2⟩, h3⟩, h4⟩, h5⟩, h6⟩ := h
    subst h1
    have e1 := star_cons h4 [] X.env
    have hfew : ((backTo pc (starEach [e'] X.env)).all (fun x => !x.1) && (backToKw pc (keywordEach [] X.env)).all (fun x => x.1.isSome) && decide ([e'].length + ([] : List Keyword).length + (if ([] : List Keyword).isEmpty then 0 else 1) < 30)) = true := by
      rw [e1]; rfl
    refine ps_imp (ps_expr (pe_bm PySem.F.plainAttrs_list PySem.F.slot_list_append PySem.F.type_list_append mt_append ((sE CA CN nC o).1 g.toGd h5 ok.1) (pa_cons ((sE CA CN nC m).1 g.toGd h6 ok.2) pa_nil e1) (attrOk_ok h2 _ _ _) hfew h3 e1 rfl) rfl) fun E σ H q => ?_
    obtain ⟨F, R, ρ, μ, N, hs, rp, w, kc⟩ := q
    refine Gr.mk (kc.sx hs rp) w fun d1 μ1 v1 F1 H1 q1 f1 s1 x1 => ?_
    cases x1 <;> first | exact q1.elim | skip
    rename_i a
    obtain ⟨e0, q1⟩ := q1
    obtain ⟨ds0, e0⟩ := Option.isSome_iff_exists.mp e0
    obtain ⟨_, _, vs0, hv0, xv0⟩ := s1.hs.m a ds0 e0
    refine ⟨.inl ⟨rfl, vs0, .of hv0⟩, Gr.mk s1 q1 fun d2 μ2 v2 F2 H2 q2 f2 s2 x2 => ?_⟩
    obtain ⟨ds, e1, hl, q2⟩ := ifL_some q2
    obtain ⟨_, _, vs, hv, xv⟩ := s2.hs.m a ds e1
    refine ⟨a, vs, v2, rfl, rfl, hv, by rw [xv.length]; exact line_lt hl, ?_⟩
    exact kc.nx _ _ _ _ _ q2 (f1.trans f2) (s2.hs.set e1 (xv.append (.cons x2 .nil))) s2.rp
theorem ss_mth {f : Mth} {o : ME} : SS CA CN nC (.mth f o) := by
  intro X k W e g h ok
  cases e <;> first | (simp [matS] at h; done) | skip
  rename_i v p
  cases v <;> first | (simp [matS] at h; done) | skip
  rename_i fn args kws pc
  cases fn <;> first | (simp [matS] at h; done) | skip
  rename_i o' nm pa
  cases args <;> first | (simp [matS] at h; done) | skip
  cases kws <;> first | (simp [matS] at h; done) | skip
  simp only [matS, Bool.and_eq_true, decide_eq_true_eq] at h
  obtain ⟨⟨⟨h1, h2⟩, h3⟩, h4⟩ := h
  subst h1
  cases f with
  | clear =>
    refine ps_imp (ps_expr (pe_bm0 PySem.F.plainAttrs_list PySem.F.slot_list_clear PySem.F.type_list_clear mt_clear ((sE CA CN nC o).1 g.toGd h4 ok) (attrOk_ok h2 _ _ _) h3) rfl) fun E σ H q => ?_
    obtain ⟨F, R, ρ, μ, N, hs, rp, w, kc⟩ := q
    refine Gr.mk (kc.sx hs rp) w fun d1 μ1 v1 F1 H1 q1 f1 s1 x1 => ?_
    cases x1 <;> first | exact q1.elim | skip
    rename_i a
    obtain ⟨ds, e1, q1⟩ := ifL_some q1
    obtain ⟨_, _, vs, hv, xv⟩ := s1.hs.m a ds e1
    exact ⟨.inl ⟨rfl, vs, .of hv⟩, a, vs, rfl, rfl, hv, kc.nx _ _ _ _ _ q1 f1 (s1.hs.set e1 .nil) s1.rp⟩
  | reverse =>
    refine ps_imp (ps_expr (pe_bm0 PySem.F.plainAttrs_list PySem.F.slot_list_reverse PySem.F.type_list_reverse mt_reverse ((sE CA CN nC o).1 g.toGd h4 ok) (attrOk_ok h2 _ _ _) h3) rfl) fun E σ H q => ?_
    obtain ⟨F, R, ρ, μ, N, hs, rp, w, kc⟩ := q
    refine Gr.mk (kc.sx hs rp) w fun d1 μ1 v1 F1 H1 q1 f1 s1 x1 => ?_
    cases x1 <;> first | exact q1.elim | skip
    rename_i a
    obtain ⟨ds, e1, q1⟩ := ifL_some q1
    obtain ⟨_, _, vs, hv, xv⟩ := s1.hs.m a ds e1
    exact ⟨.inl ⟨rfl, vs, .of hv⟩, a, vs, rfl, rfl, hv, kc.nx _ _ _ _ _ q1 f1 (s1.hs.set e1 xv.reverse) s1.rp⟩
theorem ss_rais {c : Nat} : SS CA CN nC (.rais c) := by
  intro X k W e g h ok
  simp only [matS] at h
  split at h
  · rename_i x hp
    obtain ⟨p1, m, j, p2, p3, p4, rfl⟩ := raisOf_ok hp
    simp only [Bool.and_eq_true, decide_eq_true_eq] at h
    obtain ⟨⟨⟨h1, h2⟩, h3⟩, h4⟩ := h
    subst h1
    have n19 : nC = NC.n := ok
    have kc := g.wd.cls c (by omega)
    refine ps_imp (ps_raise g.calm g.tk (pmk_own PySem.F.excBase_ValueError kc.ex kc.g kc.kp (raises_own kc.base kc.ty) (glB_ok h2) (dbg_ok h3))) fun E σ H q => ?_
    obtain ⟨F, R, ρ, μ, N, hs, rp, w, kn⟩ := q
    exact kn.xx _ _ _ _ _ _ w (Same.refl F) hs rp
  · cases h
theorem sb_nil : SB CA CN nC .nil := by
  intro X k W e g h ok
  cases e <;> first | (simp [matB] at h; done) | skip
  refine pss_imp pss_nil fun E σ H q => ?_
  obtain ⟨F, R, ρ, μ, N, hs, rp, w, kc⟩ := q
  exact kc.nx _ _ _ _ _ w (Same.refl F) hs rp
theorem sb_cons {m : MS} {b : MB} (im : SS CA CN nC m) (ib : SB CA CN nC b) : SB CA CN nC (.cons m b) := by
  intro X k W e g h ok
  cases e <;> first | (simp [matB] at h; done) | skip
  simp only [matB, Bool.and_eq_true] at h
  refine pss_imp (pss_cons (im g h.1 ok.1) (ib g h.2 ok.2)) fun E σ H q => ?_
  obtain ⟨F, R, ρ, μ, N, hs, rp, w, kc⟩ := q
  exact ⟨F, R, ρ, μ, _, hs, rp, w, fun ρ' μ' σ' F' H' q f z r => ⟨F', R, ρ', μ', N, z, r, q, kc.go f⟩, kc.rt, kc.bk, kc.ct, kc.xx⟩
theorem ss_ite {t : ME} {a b : MB} (ia : SB CA CN nC a) (ib : SB CA CN nC b) : SS CA CN nC (.ite t a b) := by
  intro X k W e g h ok
  cases e <;> first | (simp [matS] at h; done) | skip
  simp only [matS, Bool.and_eq_true] at h
  obtain ⟨⟨⟨h1, h2⟩, h3⟩, h4⟩ := h
  refine ps_imp (ps_if ((sE CA CN nC t).2 g.toGd h2 ok.1 h1) (ia g h3 ok.2.1) (ib g h4 ok.2.2)) fun E σ H q => ?_
  obtain ⟨F, R, ρ, μ, N, hs, rp, w, kc⟩ := q
  refine Gr.mk (Qd := fun (c : Bool) μ1 => if c = true then wpB a ρ μ1 N else wpB b ρ μ1 N) (kc.sx hs rp) w fun c μ1 c' F1 H1 q1 f1 s1 x1 => ?_
  subst x1
  cases c' with
  | true => exact ⟨F1, R, ρ, μ1, N, s1.hs, s1.rp, q1, kc.go f1⟩
  | false => exact ⟨F1, R, ρ, μ1, N, s1.hs, s1.rp, q1, kc.go f1⟩
theorem ss_loop {t : MT} {it : MI} {b : MB} (ib : SB CA CN nC b) : SS CA CN nC (.loop t it b) := by
  intro X k W e g h ok
  cases e <;> first | (simp [matS] at h; done) | skip
  rename_i tg i x y p
  cases y <;> first | (simp [matS] at h; done) | skip
  simp only [matS, Bool.and_eq_true] at h
  obtain ⟨⟨⟨h1, h2⟩, h3⟩, h4⟩ := h
  have pg := pg_T (X := X) (N := X.N) (sc := X.env.scope) g.calm rfl g.nd (fun x hx => ⟨locB_ok hx, .inl (g.fn x)⟩) h1
  refine ps_imp (ps_for g.pass g.calm (sI CA CN nC it g.toGd h2 ok.1) pg (ib g h4 ok.2) (fun x => notSet_ok h3 X.env x)) fun E σ H q => ?_
  obtain ⟨F, R, ρ, μ, N, hs, rp, w, kc⟩ := q
  refine Gr.mk (kc.sx hs rp) w fun ds μ1 J F1 H1 q1 f1 s1 wk => ?_
  generalize hf : (fun d ρ1 μ2 (k : Rho → Mu → Prop) => bindT t d ρ1 fun ρ2 => wpB b ρ2 μ2 { nx := k, ct := k, bk := N.nx, rt := N.rt, xx := N.xx }) = f at q1
  refine ⟨fun i m σ' H' => m = ds.length - i ∧ i ≤ ds.length ∧ ∃ F' ρ' μ', Same F1 F' ∧ Hs X.K CA F' R μ' H' ∧ Rp X.K CA F' ρ' σ' ∧ forW f (ds.drop i) ρ' μ' N.nx,
    ⟨ds.length, by simp, Nat.zero_le _, F1, ρ, μ1, Same.refl F1, s1.hs, s1.rp, q1⟩, ?_⟩
  rintro i m σ' H' ⟨rfl, hi, F', ρ', μ', gg, z, r, hw⟩
  by_cases hlt : i < ds.length
  · have hd : ds.drop i = ds[i] :: ds.drop (i + 1) := List.drop_eq_getElem_cons hlt
    have hg : ds[i]? = some ds[i] := List.getElem?_eq_getElem hlt
    rw [hd] at hw
    obtain ⟨go, yl⟩ := (wk F' R μ' H' gg z i).2 _ hg
    refine .inr ⟨go, fun σ'' H'' => ∃ F'' ρ'' μ'', Same F1 F'' ∧ Hs X.K CA F'' R μ'' H'' ∧ Rp X.K CA F'' ρ'' σ'' ∧ forW f (ds.drop (i + 1)) ρ'' μ'' N.nx, ?_, ?_⟩
    · rintro σ'' H'' ⟨F'', ρ'', μ'', a1, a2, a3, a4⟩
      exact ⟨ds.length - (i + 1), by omega, rfl, hlt, F'', ρ'', μ'', a1, a2, a3, a4⟩
    · intro x H2 hy
      obtain ⟨F2, g2, z2, x2⟩ := yl x H2 hy
      have hb : f ds[i] ρ' μ' fun ρ'' μ'' => forW f (ds.drop (i + 1)) ρ'' μ'' N.nx := hw
      rw [← hf] at hb
      rw [hf] at hb
      refine gT_ok hb x2 (r.mono g2) z2 fun ρ2 σ2 hk r2 _ => ?_
      have kc2 := kc.go (f1.trans (gg.trans g2))
      have up : Same F1 F2 := gg.trans g2
      exact ⟨F2, R, ρ2, μ', _, z2, r2, hk, fun ρ3 μ3 σ3 F3 H3 q f z r => ⟨F3, ρ3, μ3, up.trans f, z, r, q⟩, kc2.rt, kc2.nx, fun ρ3 μ3 σ3 F3 H3 q f z r => ⟨F3, ρ3, μ3, up.trans f, z, r, q⟩, kc2.xx⟩
  · have ei : i = ds.length := by omega
    subst ei
    rw [List.drop_length] at hw
    exact .inl ⟨(wk F' R μ' H' gg z ds.length).1 (Nat.le_refl _), kc.nx _ _ _ _ _ hw (f1.trans gg) z r⟩
theorem ss_loopr {t : MT} {a : ME} {b : MB} (ib : SB CA CN nC b) : SS CA CN nC (.loopr t a b) := by
  intro X k W e g h ok
  cases e <;> first | (simp [matS] at h; done) | skip
  rename_i tg i x y p
  cases y <;> first | (simp [matS] at h; done) | skip
  simp only [matS, Bool.and_eq_true] at h
  obtain ⟨⟨⟨h1, h2⟩, h3⟩, h4⟩ := h
  have pg := pg_T (X := X) (N := X.N) (sc := X.env.scope) g.calm rfl g.nd (fun x hx => ⟨locB_ok hx, .inl (g.fn x)⟩) h1
  refine ps_imp (ps_for g.pass g.calm (pi_seq ((sE CA CN nC a).1 g.toGd h2 ok.1)) pg (ib g h4 ok.2) (fun x => notSet_ok h3 X.env x)) fun E σ H q => ?_
  obtain ⟨F, R, ρ, μ, N, hs, rp, w, kc⟩ := q
  refine Gr.mk (kc.sx hs rp) w fun d1 μ1 v1 F1 H1 q1 f1 s1 x1 => ?_
  obtain ⟨ds, e1, q1⟩ := ifL_some q1
  have wk : ∃ pa, v1 = .ref pa ∧ (((∃ xs, SqL X.K H1 pa xs) ∧ ∀ F' μ' H', Same F1 F' → Hs X.K CA F' R μ' H' → itemsOf d1 μ' = some ds → ∀ i, (ds.length ≤ i → (Itl X.K pa).stop i H') ∧ ∀ d, ds[i]? = some d → (Itl X.K pa).go i H' ∧ ∀ x H2, (Itl X.K pa).yld i H' x H2 → ∃ F2, Same F' F2 ∧ Hs X.K CA F2 R μ' H2 ∧ Dx X.K CA F2 x d) ∨ ((∃ xs, SqT X.K H1 pa xs) ∧ ∀ F' μ' H', Same F1 F' → Hs X.K CA F' R μ' H' → itemsOf d1 μ' = some ds → ∀ i, (ds.length ≤ i → (Itt X.K pa).stop i H') ∧ ∀ d, ds[i]? = some d → (Itt X.K pa).go i H' ∧ ∀ x H2, (Itt X.K pa).yld i H' x H2 → ∃ F2, Same F' F2 ∧ Hs X.K CA F2 R μ' H2 ∧ Dx X.K CA F2 x d)) := by
    cases x1 with
    | tup sa sb =>
      cases e1
      exact ⟨_, rfl, .inr ⟨⟨_, seqT s1.hs.f sa⟩, fun F' μ' H' gg z _ i => wk_tup sa sb F' R μ' H' gg z i⟩⟩
    | lst sa sb =>
      cases e1
      exact ⟨_, rfl, .inl ⟨⟨_, s1.hs.f.seq sa⟩, fun F' μ' H' gg z _ i => wk_lst sa sb F' R μ' H' gg z i⟩⟩
    | ref pa =>
      obtain ⟨_, _, vs, hv, xv⟩ := s1.hs.m pa ds e1
      exact ⟨_, rfl, .inl ⟨⟨_, .of hv⟩, fun F' μ' H' gg z km i => wk_ref z km i⟩⟩
    | _ => cases e1
  clear x1
  generalize hf : (fun x ρ1 μ2 (k : Rho → Mu → Prop) => itemsOf d1 μ2 = some ds ∧ bindT t x ρ1 fun ρ2 => wpB b ρ2 μ2 { nx := k, ct := k, bk := N.nx, rt := N.rt, xx := N.xx }) = f at q1
  obtain ⟨pa, rfl, wk⟩ := wk
  refine ⟨pa, rfl, ?_⟩
  rcases wk with ⟨hsq, wk⟩ | ⟨hsq, wk⟩
  case' inl => refine .inl ⟨hsq, ?_⟩
  case' inr => refine .inr ⟨hsq, ?_⟩
  all_goals
    refine ⟨fun i m σ' H' => m = ds.length - i ∧ i ≤ ds.length ∧ ∃ F' ρ' μ', Same F1 F' ∧ Hs X.K CA F' R μ' H' ∧ Rp X.K CA F' ρ' σ' ∧ forW f (ds.drop i) ρ' μ' (fun ρ' μ' => itemsOf d1 μ' = some ds ∧ N.nx ρ' μ'),
      ⟨ds.length, by simp, Nat.zero_le _, F1, ρ, μ1, Same.refl F1, s1.hs, s1.rp, q1⟩, ?_⟩
    rintro i m σ' H' ⟨rfl, hi, F', ρ', μ', gg, z, r, hw⟩
    by_cases hlt : i < ds.length
    · have hd : ds.drop i = ds[i] :: ds.drop (i + 1) := List.drop_eq_getElem_cons hlt
      have hg : ds[i]? = some ds[i] := List.getElem?_eq_getElem hlt
      rw [hd] at hw
      have hb : f ds[i] ρ' μ' fun ρ'' μ'' => forW f (ds.drop (i + 1)) ρ'' μ'' (fun ρ' μ' => itemsOf d1 μ' = some ds ∧ N.nx ρ' μ') := hw
      rw [← hf] at hb
      rw [hf] at hb
      obtain ⟨km, hb⟩ := hb
      obtain ⟨go, yl⟩ := (wk F' μ' H' gg z km i).2 _ hg
      refine .inr ⟨go, fun σ'' H'' => ∃ F'' ρ'' μ'', Same F1 F'' ∧ Hs X.K CA F'' R μ'' H'' ∧ Rp X.K CA F'' ρ'' σ'' ∧ forW f (ds.drop (i + 1)) ρ'' μ'' (fun ρ' μ' => itemsOf d1 μ' = some ds ∧ N.nx ρ' μ'), ?_, ?_⟩
      · rintro σ'' H'' ⟨F'', ρ'', μ'', a1, a2, a3, a4⟩
        exact ⟨ds.length - (i + 1), by omega, rfl, hlt, F'', ρ'', μ'', a1, a2, a3, a4⟩
      · intro x H2 hy
        obtain ⟨F2, g2, z2, x2⟩ := yl x H2 hy
        refine gT_ok hb x2 (r.mono g2) z2 fun ρ2 σ2 hk r2 _ => ?_
        have kc2 := kc.go (f1.trans (gg.trans g2))
        have up : Same F1 F2 := gg.trans g2
        exact ⟨F2, R, ρ2, μ', _, z2, r2, hk, fun ρ3 μ3 σ3 F3 H3 q f z r => ⟨F3, ρ3, μ3, up.trans f, z, r, q⟩, kc2.rt, kc2.nx, fun ρ3 μ3 σ3 F3 H3 q f z r => ⟨F3, ρ3, μ3, up.trans f, z, r, q⟩, kc2.xx⟩
    · have ei : i = ds.length := by omega
      subst ei
      rw [List.drop_length] at hw
      exact .inl ⟨(wk F' μ' H' gg z hw.1 ds.length).1 (Nat.le_refl _), kc.nx _ _ _ _ _ hw.2 (f1.trans gg) z r⟩
theorem ss_whl {t : ME} {b : MB} (ib : SB CA CN nC b) : SS CA CN nC (.whl t b) := by
  intro X k W e g h ok
  cases e <;> first | (simp [matS] at h; done) | skip
  rename_i c x y p
  cases y <;> first | (simp [matS] at h; done) | skip
  simp only [matS, Bool.and_eq_true] at h
  obtain ⟨⟨h1, h2⟩, h3⟩ := h
  refine ps_imp (ps_while g.pass ((sE CA CN nC t).2 g.toGd h2 ok.1 h1) (ib g h3 ok.2)) fun E σ H q => ?_
  obtain ⟨F, R, ρ, μ, N, hs, rp, ⟨n, w⟩, kc⟩ := q
  generalize hf : (fun ρ1 μ1 (k : Rho → Mu → Prop) => wpE t ρ1 μ1 (fun d μ2 => ifB (truD d μ2) fun c => if c = true then wpB b ρ1 μ2 { nx := k, ct := k, bk := N.nx, rt := N.rt, xx := N.xx } else N.nx ρ1 μ2) (fun c μ2 => N.xx c ρ1 μ2)) = f at w
  refine ⟨fun m σ' H' => ∃ F' ρ' μ', Same F F' ∧ Hs X.K CA F' R μ' H' ∧ Rp X.K CA F' ρ' σ' ∧ whW f m ρ' μ', ⟨n, F, ρ, μ, Same.refl F, hs, rp, w⟩, ?_⟩
  rintro m σ' H' ⟨F', ρ', μ', gg, z, r, hw⟩
  cases m with
  | zero => exact hw.elim
  | succ m =>
    have hb : f ρ' μ' (whW f m) := hw
    rw [← hf] at hb
    rw [hf] at hb
    have kc2 := kc.go gg
    refine Gr.mk (Qd := fun (c : Bool) μ2 => if c = true then wpB b ρ' μ2 { nx := whW f m, ct := whW f m, bk := N.nx, rt := N.rt, xx := N.xx } else N.nx ρ' μ2) (kc2.sx z r) hb fun c μ1 c' F1 H1 q1 f1 s1 x1 => ?_
    subst x1
    cases c' with
    | true =>
      refine ⟨fun σ'' H'' => ∃ F'' ρ'' μ'', Same F F'' ∧ Hs X.K CA F'' R μ'' H'' ∧ Rp X.K CA F'' ρ'' σ'' ∧ whW f m ρ'' μ'', fun σ'' H'' q => ⟨m, Nat.lt_succ_self m, q⟩, ?_⟩
      have kc3 := kc2.go f1
      have up : Same F F1 := gg.trans f1
      exact ⟨F1, R, ρ', μ1, _, s1.hs, s1.rp, q1, fun ρ3 μ3 σ3 F3 H3 q f z r => ⟨F3, ρ3, μ3, up.trans f, z, r, q⟩, kc3.rt, kc3.nx, fun ρ3 μ3 σ3 F3 H3 q f z r => ⟨F3, ρ3, μ3, up.trans f, z, r, q⟩, kc3.xx⟩
    | false => exact kc2.nx _ _ _ _ _ q1 f1 s1.hs s1.rp
theorem GdS.tr {X : Cx} {k : Nat} {W W' : WX} (g : GdS X k W CA CN nC) (pn : List (Addr × Obj)) (xe : Value → Shared → Prop) (tk : Takes (X.tr pn xe) W') (ps : PassesOwn (model X.prog X.w) X.A X.env xe) : GdS (X.tr pn xe) k W' CA CN nC where
  calm := g.calm
  nd := g.nd
  room := g.room
  grd := g.grd
  tk := tk
  pass := ps
  wd := ⟨g.wd.blt, g.wd.cls, g.wd.inj⟩
  dbg := g.dbg
  seer := ⟨g.seer.ns, g.seer.tree, g.seer.top, g.seer.dep⟩
  fn := g.fn
  stk := g.stk
  frm := g.frm
  ex := g.ex
  kind := g.kind
theorem rp_kept {K : PySem.W.Frag} {F : Hp} {ρ : Rho} {σ : L2.St} {v : V} {d : D} {i j : Nat} (h : i ≠ j) (r : Rp K CA F ρ σ) (x : Dx K CA F v d) : Rp K CA F (rs (rs ρ j (some d)) i none) (((σ.set i (some v)).set j (some v)).set i none) := by
  have r3 := ((r.set i x).set j x).unset i
  refine ⟨by rw [← r3.len]; simp [rs_length], fun t e q => r3.at_ t e ?_⟩
  by_cases ti : t = i
  · subst ti
    obtain ⟨h1, _⟩ := rg_rs_same q
    cases h1
  · rw [rg_rs_ne ti] at q ⊢
    by_cases tj : t = j
    · subst tj
      obtain ⟨h1, h2⟩ := rg_rs_same q
      cases h1
      have len : t < (rs ρ i (some d)).length := by rw [rs_length]; exact h2
      clear q r r3
      have key : ∀ (ρ : Rho) (t : Nat), t < ρ.length → rg (rs ρ t (some d)) t = some d := by
        intro ρ
        induction ρ with
        | nil => intro t h; simp at h
        | cons o ρ ih =>
          intro t h
          cases t with
          | zero => rfl
          | succ t => exact ih t (by simpa using h)
      exact key _ _ len
    · rw [rg_rs_ne tj] at q ⊢
      rw [rg_rs_ne ti]
      exact q
theorem ss_try1 {c : Nat} {b : MB} {i j : Nat} (ib : SB CA CN nC b) : SS CA CN nC (.try1 c b i j) := by
  intro X k W e g h ok
  simp only [matS] at h
  split at h
  · rename_i body x n y z hp
    obtain ⟨p1, p2, p3, p4, p5, p6, rfl⟩ := tryOf_ok hp
    simp only [Bool.and_eq_true, decide_eq_true_eq] at h
    obtain ⟨⟨⟨⟨⟨⟨⟨⟨⟨⟨h1, h2⟩, h3⟩, h4⟩, h5⟩, h6⟩, h7⟩, h8⟩, h9⟩, h10⟩, h11⟩ := h
    subst h1 h9
    have n19 : nC = NC.n := ok.1
    have kc := g.wd.cls c (by omega)
    have nm : Names X (CN c) (.ref (CA c)) := ⟨glB_ok h2, dbg_ok h3, .inl kc.g⟩
    refine ps_imp (ps_try_kept (tb := fun W' => tS X.K CA W' (wpB b)) g.stk g.frm g.ex g.nd h5 (lclB_ok h6) h7 (locB_ok h8) (.inl (g.fn y)) (g.dbg _ (List.mem_of_getElem? h5)) nm g.tk
      (fun W' pn xe tk ps => ib (g.tr pn xe tk ps) h11 ok.2)) fun E σ H q => ?_
    obtain ⟨F, R, ρ, μ, N, hs, rp, w, kn⟩ := q
    refine ⟨F, R, ρ, μ, _, hs, rp, w, kn.nx, kn.rt, kn.bk, kn.ct, fun c' ρ' μ' σ' F' H' q f z r => ?_⟩
    obtain ⟨c19, q⟩ := q
    have kc' := g.wd.cls c' (by omega)
    refine ⟨subC c' c, CA c', rfl, rfl, kc'.exm kc (g.wd.inj _ _ (by omega) (by omega)) (g.wd.inj _ _ (by omega) (by omega)), fun hb a ha => ?_, fun hb => ?_⟩
    · rw [if_pos hb] at q
      have sn := same_new (o := ExI (CA c') a) (z.ff ha)
      exact kn.nx _ _ _ _ _ q (f.trans sn) (z.new ha) (rp_kept h10 (r.mono sn) (.exc upd_same))
    · rw [if_neg (by rw [hb]; exact Bool.false_ne_true)] at q
      exact kn.xx _ _ _ _ _ _ q f z r
  · cases h
mutual
theorem sS (CA : Nat → Addr) (CN : Nat → Str) (nC : Nat) : ∀ m : MS, SS CA CN nC m
  | .pas => ss_pas
  | .asg t e => ss_asg
  | .asgr is e => ss_asgr
  | .par i j a b => ss_par
  | .par3 i j l a b c => ss_par3
  | .setix o i e => ss_setix
  | .app o e => ss_app
  | .mth f o => ss_mth
  | .expr e => ss_expr
  | .ret e => ss_ret
  | .retN => ss_retN
  | .ite t a b => ss_ite (sB CA CN nC a) (sB CA CN nC b)
  | .loop t it b => ss_loop (sB CA CN nC b)
  | .loopr t a b => ss_loopr (sB CA CN nC b)
  | .whl t b => ss_whl (sB CA CN nC b)
  | .brk => ss_brk
  | .cnt => ss_cnt
  | .rais c => ss_rais
  | .try1 c b i j => ss_try1 (sB CA CN nC b)
theorem sB (CA : Nat → Addr) (CN : Nat → Str) (nC : Nat) : ∀ m : MB, SB CA CN nC m
  | .nil => sb_nil
  | .cons s b => sb_cons (sS CA CN nC s) (sB CA CN nC b)
end
end
end Dl

/-! The data layer, part Ja: the head over FnG. -/
namespace Dl
open PySem L2 PyProof.Rows PySem.Spec
section
variable {P : Program} {w : World} {K : PySem.W.Frag} {mg mb : Str → Option Value} {CX : CXT} {k : Nat} {fa a : Addr} {fd : FuncData} {x : Str} {sp : Sp} {s₁ : Shared} {vs : List Value} {ns : List Int} {H : Hp}
/-- what stays of the heap while the script is tracked -/
theorem kept_at (one : ∀ b, H b ≠ none → b = a) {b : Addr} {o : Obj} (e : s₁.heap.get? b = some o) (n : b ≠ a) : (hidT s₁.heap H).get? b = some o :=
  hidT_get e (Classical.byContradiction fun z => n (one b z))
theorem kept_ns (one : ∀ b, H b ≠ none → b = a) (ha : s₁.heap.get? a = some { cls := .type "list", data := .seq vs.toArray }) {b : Addr} {m : Str → Option Value} (n : s₁.heap.Ns b m) : (hidT s₁.heap H).Ns b m := by
  obtain ⟨o, es, ep, e, d, r⟩ := n
  refine ⟨o, es, ep, kept_at one e (fun z => ?_), d, r⟩
  subst z
  have := Option.some.inj (ha.symm.trans e)
  subst this
  cases d
theorem head_at (KX : K.In s₁.heap) (hns : s₁.heap.Ns mainGlobals mg) (hb : s₁.heap.Ns builtinsNs mb) (hbb : ∀ x : Str, x ≠ "__name__" → mb x = bootBuiltins x) (hlim : s₁.heap.NoLimit) (hsee : s₁.heap.NoSeer) (hg : s₁.gens = #[])
    (ha : s₁.heap.get? a = some { cls := .type "list", data := .seq vs.toArray }) (hr : Room k callerA) (F : ∀ base : Heap, K.In base → base.Ns mainGlobals mg → base.NoSeer → FnG P w K mg base CX k fa fd [x] sp)
    (bi : ∀ (s : Shared) (u : Value), BindsTo s fd ⟨[u], []⟩ [(x, u)]) (one : ∀ b, H b ≠ none → b = a) (off : H a ≠ none → K.lookup a = none) (hok : HOk P w H s₁.heap) (hO : Only H)
    (h : sp [.ref a] H (fun v _ => v = .bl true) fun _ _ _ => False) (no : ∀ e s', CX [] H s₁ (fun _ _ _ => False) e s' → False) :
    codeAny (model P w) callerA (.call (.ref fa) ⟨[.ref a], []⟩) (fun r s' => r = .ok (.ret (.bool true)) ∧ OldK s₁.heap s'.heap ∧ s'.os = s₁.os ∧ AllBare s'.gens) s₁ := by
  have kin : K.In (hidT s₁.heap H) := by
    intro b o e
    by_cases z : H b = none
    · exact hidT_get (KX b o e) z
    · have eb := one b z
      subst eb
      rw [off z] at e
      cases e
  have nm := kept_ns one ha hns
  have md : Mod K mg (hidT s₁.heap H) := by
    obtain ⟨mc, c1, c2⟩ := hlim
    exact ⟨kin, nm, ⟨mb, kept_ns one ha hb, hbb⟩, ⟨mc, kept_ns one ha c1, c2⟩⟩
  have e0 : Env0 P w K mg (hidT s₁.heap H) callerA [] s₁ H :=
    { frames := rfl, mod := md, bs := fun _ _ e => of_hidT e, bsz := Nat.le_of_eq (hidT_size _ _), funs := trivial, frf := fun b z => (List.not_mem_nil (show b ∈ ([] : List Addr) from z)).elim, hok := hok, bare := .of_eq hg }
  have see : (hidT s₁.heap H).NoSeer := by
    obtain ⟨⟨m1, a1, b1⟩, ⟨m2, a2, b2⟩, ⟨m3, a3, b3⟩, ⟨m4, bm, ob, a4, b4, c4, d4, e4⟩⟩ := hsee
    refine ⟨⟨m1, kept_ns one ha a1, b1⟩, ⟨m2, kept_ns one ha a2, b2⟩, ⟨m3, kept_ns one ha a3, b3⟩, ⟨m4, bm, ob, kept_ns one ha a4, b4, kept_at one c4 fun z => ?_, d4, e4⟩⟩
    subst z
    have := Option.some.inj (ha.symm.trans c4)
    subst this
    have d5 : (Value.type "list") = .type "module" := d4
    injection d5 with d5
    exact absurd d5 (by decide)
  refine codeAny_mono ((F _ kin nm see).goes rfl hr e0 (us := [.ref a]) (vs := [.ref a]) (bi s₁ (.ref a)) (.cons rfl .nil) h) ?_
  rintro (er | fl) s' z
  · exact (no er s' z).elim
  · cases fl <;> first | exact False.elim z | skip
    obtain ⟨v, H', os, bare, un, hok', rv, q⟩ := z
    have q : v = .bl true := q
    subst q
    cases (show _ = Value.bool true from rv)
    refine ⟨rfl, OldK.of_keep ?_, os, bare⟩
    intro b o e
    by_cases z : H b = none
    · exact un.keep b o e z (fun y => (List.not_mem_nil (show b ∈ ([] : List Addr) from y)).elim) (by simp)
    · obtain ⟨ob, xs, y⟩ := (hO b).resolve_left z
      have y1 := (hok b _ y).1
      have y2 := (hok' b _ (un.frzs b ob _ y)).1
      rw [← e, y1] at *
      exact y2
theorem law_g (KX : K.In s₁.heap) (hns : s₁.heap.Ns mainGlobals mg) (hb : s₁.heap.Ns builtinsNs mb) (hbb : ∀ x : Str, x ≠ "__name__" → mb x = bootBuiltins x) (hlim : s₁.heap.NoLimit) (hsee : s₁.heap.NoSeer) (hg : s₁.gens = #[])
    (ha : s₁.heap.get? a = some { cls := .type "list", data := .seq vs.toArray }) (hi : IntsAre vs ns) (hl : ns.length ≤ sizeLine) (hr : Room k callerA) (F : ∀ base : Heap, K.In base → base.Ns mainGlobals mg → base.NoSeer → FnG P w K mg base CX k fa fd [x] sp)
    (bi : ∀ (s : Shared) (u : Value), BindsTo s fd ⟨[u], []⟩ [(x, u)]) (h : ∀ H : Hp, Only H → SqL K H a (ns.map V.int) → sp [.ref a] H (fun v _ => v = .bl true) fun _ _ _ => False)
    (no : ∀ H e s', CX [] H s₁ (fun _ _ _ => False) e s' → False) :
    codeAny (model P w) callerA (.call (.ref fa) ⟨[.ref a], []⟩) (fun r s' => r = .ok (.ret (.bool true)) ∧ OldK s₁.heap s'.heap ∧ s'.os = s₁.os ∧ AllBare s'.gens) s₁ := by
  have lv := hi.length
  by_cases hk : K.lookup a = none
  · have at_a : ∀ b u, (if b = a then some (HO.frz { cls := .type "list", data := .seq vs.toArray } (.lst (ns.map V.int))) else none) = some u → b = a ∧ u = HO.frz { cls := .type "list", data := .seq vs.toArray } (.lst (ns.map V.int)) := by
      intro b u e
      by_cases z : b = a
      · rw [if_pos z] at e; exact ⟨z, (Option.some.inj e).symm⟩
      · rw [if_neg z] at e; cases e
    refine head_at (H := fun b => if b = a then some (.frz { cls := .type "list", data := .seq vs.toArray } (.lst (ns.map V.int))) else none) KX hns hb hbb hlim hsee hg ha hr F bi ?_ (fun _ => hk) ?_ ?_ (h _ ?_ (.inl (.inr ⟨_, if_pos rfl⟩))) (no _)
    · intro b z
      exact Classical.byContradiction fun n => z (if_neg n)
    · intro b u e
      obtain ⟨rfl, rfl⟩ := at_a b u e
      exact ⟨ha, by rw [List.length_map]; exact hl, vs, _, vals_ints hi, ha⟩
    all_goals
      intro b
      by_cases z : b = a
      · exact .inr ⟨_, _, if_pos z⟩
      · exact .inl (if_neg z)
  · obtain ⟨o, ho⟩ := Option.ne_none_iff_exists'.mp hk
    have eo := Option.some.inj (ha.symm.trans (KX a o ho))
    subst eo
    have on : Only (fun _ => none) := fun _ => .inl rfl
    exact head_at (H := fun _ => none) KX hns hb hbb hlim hsee hg ha hr F bi (fun b z => absurd rfl z) (fun z => absurd rfl z) (fun b u e => nomatch (show (none : Option HO) = some u from e)) on
      (h _ on (.inr ⟨_, vs.toArray, _, ho, rfl, rfl, rfl, by rw [List.size_toArray, lv]; exact hl, by simpa using vals_ints hi⟩)) (no _)
end
/-- the row's walk over FnG -/
theorem walk_g {l : PySem.W.OpenLaw} {n k : Nat} {q : Program} {loose : List Str} {XP : (Str → Option Value) → Heap → Prop} {YP : World → Heap → Prop} {d : DefRec} {K : Params → PySem.W.Frag} {CX : World → CXT} {sp : World → Sp} {x : Str}
    (hi : importsNone q = true) (hn : l.most = some n) (hz : n ≤ sizeLine) (nd : d.params.defaults = []) (hr : Room k callerA) (hY : ∀ (w : World) (h : Heap), YP w h → (K w.params).In h)
    (F : ∀ (w : World) (mg : Str → Option Value) (fa : Addr) (h : Heap), (K w.params).In h → h.Ns mainGlobals mg → mg d.name = some (.ref fa) →
      ∃ fd : FuncData, (∀ (s : Shared) (u : Value), BindsTo s fd ⟨[u], []⟩ [(x, u)]) ∧ ∀ base : Heap, (K w.params).In base → base.Ns mainGlobals mg → base.NoSeer → FnG l.prog w (K w.params) mg base (CX w) k fa fd [x] (sp w))
    (hs : ∀ (w : World) (H : Hp) (a : Addr) (ns : List Int), ns.length ≤ n → (∀ z ∈ ns, Builtin.Int.intBits z ≤ 1048576) → Only H → SqL (K w.params) H a (ns.map V.int) → sp w [.ref a] H (fun v _ => v = .bl true) fun _ _ _ => False)
    (no : ∀ (w : World) (H : Hp) (s : Shared) (e : Value) (s' : Shared), CX w [] H s (fun _ _ _ => False) e s' → False) : PySem.W.WalkO q loose XP YP l.row.toRowW d [] (fun f vs => PySem.call f vs) := by
  refine Att.attach_callB hn nd ?_
  intro w s₀ s₁ mg mb fa o pm cd doc a vs ns G Y ho hd hcd hmg hobj hints hlen hbits hg
  obtain ⟨fd, bi, hF⟩ := F w mg fa _ (hY w _ Y) G.T.g hmg
  exact law_g (hY w _ Y) G.T.g G.T.b G.T.builtins G.T.nolimit (G.T.seer hi) hg hobj hints (Nat.le_trans hlen hz) hr hF bi (fun H hO hS => hs w H a ns hlen hbits hO hS) fun H e s' => no w H s₁ e s'
end Dl

/-! The data layer, part J: defs, the end. -/
namespace Dl
open PySem L2 PyProof.Rows
variable [NC]

def startD (n : Nat) (ds : List D) : Rho := ds.map some ++ List.replicate (n - ds.length) none
theorem rg_get : ∀ (ρ : Rho) (i : Nat) (d : D), rg ρ i = some d → ρ[i]? = some (some d)
  | [], _, _, h => by simp [rg] at h
  | o :: _, 0, d, h => by simp only [rg] at h; simp [h]
  | _ :: r, i + 1, d, h => by simpa using rg_get r i d h
section
variable {CA : Nat → Addr} {CN : Nat → Str} {nC : Nat} {K : PySem.W.Frag} {F : Hp}
theorem rp_start {N : List Str} {vs : List V} {ds : List D} (x : DxA K CA F vs ds) (h : ds.length ≤ N.length) : Rp K CA F (startD N.length ds) (L2.start N vs) := by
  have hl := x.length
  refine ⟨?_, fun i d e => ?_⟩
  · unfold startD L2.start
    simp [hl]
  · have e := rg_get _ i d e
    unfold startD at e
    by_cases hi : i < ds.length
    · rw [List.getElem?_append_left (by simpa using hi), List.getElem?_map] at e
      cases e1 : ds[i]? with
      | none => rw [e1] at e; cases e
      | some d' =>
        rw [e1] at e
        have e2 : d' = d := Option.some.inj (Option.some.inj e)
        subst e2
        obtain ⟨v, h1, h2⟩ := x.get e1
        refine ⟨v, ?_, h2⟩
        unfold L2.start
        rw [List.getElem?_append_left (by simp; omega), List.getElem?_map, h1]
        rfl
    · rw [List.getElem?_append_right (by simpa using hi), List.getElem?_replicate] at e
      split at e
      · cases e
      · cases e
/-- what a def's body is to reach -/
def enD (Q : Pst) (X : Xst) : En := { nx := fun _ μ => Q .non μ, rt := Q, bk := fun _ _ => False, ct := fun _ _ => False, xx := fun c _ μ => X c μ }
def dbgs (N : List Str) : Bool := N.all fun x => !(x == ("__debug__" : Str)) && !(x == ("__classdict__" : Str))
/-- a def of the text keeps its promise over data -/
theorem fn_ok {P : Program} {w : World} {mg : Str → Option Value} {base : Heap} {k : Nat} {x qual : Str} {st : Stmt} {f : Addr} {fd : FuncData} {N ps : List Str} {S : DSp} {m : MB} (Fn : Fun K x qual st f fd) (sc : FnScope N ps (defScope st)) (hd : dbgs N = true) (hN : base.NoSeer) (ht : P.given.tree = none) (hk : 32 ≤ k) (wd : WdS K mg CA CN nC)
    (hm : matB CN N (defScope st) m (defBody st) = true) (ok : okB nC (FnS CA P w K mg base k) (GlS CA K mg) m) (hS : ∀ ds μ Q X, S ds μ Q X → ds.length = ps.length ∧ wpB m (startD N.length ds) μ (enD Q X)) :
    FnG P w K mg base (L2.CX P w) (k + 1) f fd ps (spOf K CA S) := by
  have hpl : ps.length ≤ N.length := by have := congrArg List.length sc.pre; rw [List.length_take] at this; omega
  refine def_g Fn sc (fun vs H Q E h => ?_) (fun cdv A outer s H vs Q E gu hr h => ?_)
  · obtain ⟨F, R, μ, ds, X, Qd, hs, x, h, _⟩ := h
    rw [x.length]; exact (hS _ _ _ _ h).1
  · obtain ⟨F, R, μ, ds, Y, Qd, hs, x, h, kq, kx⟩ := h
    obtain ⟨hl, hw⟩ := hS _ _ _ _ h
    have g : GdS (cxOf (L2.CX P w) P w K mg base N qual (defScope st) f cdv A outer s H E) k (fun cls d _ H' => E cls d H') CA CN nC :=
      { calm := rfl, nd := sc.nd, room := hr, grd := gu, tk := takes_of rfl rfl rfl rfl, pass := passes_of rfl, wd := wd, fn := fun _ => rfl, stk := rfl, frm := rfl, ex := rfl, kind := sc.kind,
        dbg := fun y hy => by
          have := List.all_eq_true.mp hd y hy
          simp only [Bool.and_eq_true, Bool.not_eq_true'] at this
          exact this
        seer := ⟨hN, ht, ⟨_, _, rfl, sc.gen, sc.co, rfl, rfl⟩, by have := hr.dp; show (A.deeper (envOfC qual (defScope st) s.heap.objs.size f cdv)).depth + 100 < recursionLimit; omega⟩ }
    refine ⟨_, sB CA CN nC m g hm ok, F, R, startD N.length ds, μ, enD Qd Y, hs, rp_start x (by omega), hw, ⟨fun ρ' μ' σ' F' H' q f z _ => kq _ _ _ _ _ q f z .non, kq, fun _ _ _ _ _ q => q.elim, fun _ _ _ _ _ q => q.elim, fun c ρ' μ' σ' F' H' q f z _ => kx _ _ _ _ q f z⟩⟩
theorem FnS.mono {P : Program} {w : World} {mg : Str → Option Value} {base : Heap} {j k : Nat} {x : Str} {S : DSp} (h : FnS CA P w K mg base j x S) (l : j ≤ k) : FnS CA P w K mg base k x S := by
  obtain ⟨f, fd, ps, a, b⟩ := h
  exact ⟨f, fd, ps, a.mono l, b⟩
end
/-! ### promises by the number of their arguments -/
def sp1 (f : D → Mu → Pst → Xst → Prop) : DSp
  | [a], μ, Q, X => f a μ Q X
  | _, _, _, _ => False
def sp2 (f : D → D → Mu → Pst → Xst → Prop) : DSp
  | [a, b], μ, Q, X => f a b μ Q X
  | _, _, _, _ => False
def sp3 (f : D → D → D → Mu → Pst → Xst → Prop) : DSp
  | [a, b, c], μ, Q, X => f a b c μ Q X
  | _, _, _, _ => False
def sp4 (f : D → D → D → D → Mu → Pst → Xst → Prop) : DSp
  | [a, b, c, d], μ, Q, X => f a b c d μ Q X
  | _, _, _, _ => False
theorem sp1_of {f : D → Mu → Pst → Xst → Prop} {n : Nat} {m : MB} (h : ∀ a μ Q X, f a μ Q X → wpB m (startD n [a]) μ (enD Q X)) : ∀ ds μ Q X, sp1 f ds μ Q X → ds.length = 1 ∧ wpB m (startD n ds) μ (enD Q X)
  | [a], μ, Q, X, q => ⟨rfl, h a μ Q X q⟩
  | [], _, _, _, q => q.elim
  | _ :: _ :: _, _, _, _, q => q.elim
theorem sp2_of {f : D → D → Mu → Pst → Xst → Prop} {n : Nat} {m : MB} (h : ∀ a b μ Q X, f a b μ Q X → wpB m (startD n [a, b]) μ (enD Q X)) : ∀ ds μ Q X, sp2 f ds μ Q X → ds.length = 2 ∧ wpB m (startD n ds) μ (enD Q X)
  | [a, b], μ, Q, X, q => ⟨rfl, h a b μ Q X q⟩
  | [], _, _, _, q => q.elim
  | [_], _, _, _, q => q.elim
  | _ :: _ :: _ :: _, _, _, _, q => q.elim
theorem sp3_of {f : D → D → D → Mu → Pst → Xst → Prop} {n : Nat} {m : MB} (h : ∀ a b c μ Q X, f a b c μ Q X → wpB m (startD n [a, b, c]) μ (enD Q X)) : ∀ ds μ Q X, sp3 f ds μ Q X → ds.length = 3 ∧ wpB m (startD n ds) μ (enD Q X)
  | [a, b, c], μ, Q, X, q => ⟨rfl, h a b c μ Q X q⟩
  | [], _, _, _, q => q.elim
  | [_], _, _, _, q => q.elim
  | [_, _], _, _, _, q => q.elim
  | _ :: _ :: _ :: _ :: _, _, _, _, q => q.elim
theorem sp4_of {f : D → D → D → D → Mu → Pst → Xst → Prop} {n : Nat} {m : MB} (h : ∀ a b c d μ Q X, f a b c d μ Q X → wpB m (startD n [a, b, c, d]) μ (enD Q X)) : ∀ ds μ Q X, sp4 f ds μ Q X → ds.length = 4 ∧ wpB m (startD n ds) μ (enD Q X)
  | [a, b, c, d], μ, Q, X, q => ⟨rfl, h a b c d μ Q X q⟩
  | [], _, _, _, q => q.elim
  | [_], _, _, _, q => q.elim
  | [_, _], _, _, _, q => q.elim
  | [_, _, _], _, _, _, q => q.elim
  | _ :: _ :: _ :: _ :: _ :: _, _, _, _, q => q.elim
/-! ### the end -/
/-- the law's own promise -/
def spLaw (ok : List Int → Prop) : DSp
  | [.lst ds], μ, Q, _ => ∃ ns : List Int, ds = ns.map D.int ∧ ok ns ∧ μ = (fun _ => none) ∧ ∀ μ', Q (.bl true) μ'
  | _, _, _, _ => False
def small (ns : List Int) : Prop := ns.length ≤ 63 ∧ ∀ z ∈ ns, Builtin.Int.intBits z ≤ 1048576
theorem law_sp {K : PySem.W.Frag} {CA : Nat → Addr} {H : Hp} {a : Addr} {ns : List Int} (h1 : ns.length ≤ 63) (h2 : ∀ z ∈ ns, Builtin.Int.intBits z ≤ 1048576) (hS : SqL K H a (ns.map V.int)) :
    spOf K CA (spLaw small) [.ref a] H (fun v _ => v = .bl true) fun _ _ _ => False := by
  refine ⟨H, fun _ => none, fun _ => none, [.lst (ns.map D.int)], fun _ _ => False, fun d _ => d = .bl true, ⟨Same.refl H, fun _ _ e => (nomatch e), fun _ _ _ => rfl, fun _ _ e => (nomatch e)⟩, .cons (.lst hS (DxA.of_ints ns)) .nil, ⟨ns, rfl, ⟨h1, h2⟩, rfl, fun _ => rfl⟩, fun d μ' v F' H' q _ _ x => ?_, fun _ _ _ _ q => q.elim⟩
  subst q
  cases x
  rfl
theorem cx_none {P : Program} {w : World} (H : Hp) (s : Shared) (e : Value) (s' : Shared) (h : L2.CX P w [] H s (fun _ _ _ => False) e s') : False := by
  obtain ⟨_, _, _, _, _, _, _, _, _, _, _, _, z⟩ := h
  exact z
end Dl

/-! The data layer, part K: rules for reckoning with it. -/
namespace Dl
open PySem L2 PyProof.Rows

theorem q_ifD (d : D) (p : D → Prop) : ifD (some d) p = p d := rfl
theorem q_ifB (d : Bool) (p : Bool → Prop) : ifB (some d) p = p d := rfl
theorem q_ifL (d : List D) (p : List D → Prop) : ifL (some d) p = p d := rfl
theorem q_ifR (d : Rho) (p : Rho → Prop) : ifR (some d) p = p d := rfl
theorem q_ifIs (d : List Int) (p : List Int → Prop) : ifIs (some d) p = p d := rfl
theorem q_ifBs (d : List Bool) (p : List Bool → Prop) : ifBs (some d) p = p d := rfl
theorem q_asI (i : Int) (p : Int → Prop) : asI (.int i) p = p i := rfl
theorem q_rg0 (o : Option D) (r : Rho) : rg (o :: r) 0 = o := rfl
theorem q_rgs (o : Option D) (r : Rho) (n : Nat) : rg (o :: r) (n + 1) = rg r n := rfl
theorem q_rs0 (o v : Option D) (r : Rho) : rs (o :: r) 0 v = v :: r := rfl
theorem q_rss (o v : Option D) (r : Rho) (n : Nat) : rs (o :: r) (n + 1) v = o :: rs r n v := rfl
theorem q_add (i j : Int) (μ : Mu) (Q : Pst) : opD .add (.int i) (.int j) μ Q = Q (.int (i + j)) μ := rfl
theorem q_adds (i j : Str) (μ : Mu) (Q : Pst) : opD .add (.str i) (.str j) μ Q = (i.length + j.length ≤ 100000 ∧ Q (.str (i ++ j)) μ) := rfl
theorem q_addl (i j : List D) (μ : Mu) (Q : Pst) : opD .add (.lst i) (.lst j) μ Q = (i.length + j.length ≤ 100000 ∧ Q (.lst (i ++ j)) μ) := rfl
theorem q_addt (i j : List D) (μ : Mu) (Q : Pst) : opD .add (.tup i) (.tup j) μ Q = (i.length + j.length ≤ 100000 ∧ Q (.tup (i ++ j)) μ) := rfl
theorem q_sub (i j : Int) (μ : Mu) (Q : Pst) : opD .sub (.int i) (.int j) μ Q = Q (.int (i - j)) μ := rfl
theorem q_mul (i j : Int) (μ : Mu) (Q : Pst) : opD .mul (.int i) (.int j) μ Q = (mulOk i j ∧ Q (.int (i * j)) μ) := rfl
theorem q_fdiv (i j : Int) (μ : Mu) (Q : Pst) : opD .fdiv (.int i) (.int j) μ Q = (divOk j ∧ Q (.int (i.fdiv j)) μ) := rfl
theorem q_mod (i j : Int) (μ : Mu) (Q : Pst) : opD .mod (.int i) (.int j) μ Q = (j ≠ 0 ∧ Q (.int (i.fmod j)) μ) := rfl
theorem q_pow (i j : Int) (μ : Mu) (Q : Pst) : opD .pow (.int i) (.int j) μ Q = (powOk i j ∧ Q (.int (i ^ j.toNat)) μ) := rfl
theorem q_shl (i j : Int) (μ : Mu) (Q : Pst) : opD .shl (.int i) (.int j) μ Q = (powOk i j ∧ Q (.int (i * 2 ^ j.toNat)) μ) := rfl
theorem q_trub (b : Bool) (μ : Mu) : truD (.bl b) μ = some b := rfl
theorem q_trui (i : Int) (μ : Mu) : truD (.int i) μ = some (i != 0) := rfl
theorem q_trun (μ : Mu) : truD .non μ = some false := rfl
theorem q_trul (i : List D) (μ : Mu) : truD (.lst i) μ = some (!i.isEmpty) := rfl
theorem q_eq (a b : D) (μ : Mu) (Q : Pst) : cmpD .eq a b μ Q = (fit 60 a = true ∧ fit 60 b = true ∧ Q (.bl (deq a b)) μ) := rfl
theorem q_ne (a b : D) (μ : Mu) (Q : Pst) : cmpD .ne a b μ Q = (fit 60 a = true ∧ fit 60 b = true ∧ Q (.bl (!deq a b)) μ) := rfl
theorem q_lt (i j : Int) (μ : Mu) (Q : Pst) : cmpD .lt (.int i) (.int j) μ Q = Q (.bl (decide (i < j))) μ := rfl
theorem q_le (i j : Int) (μ : Mu) (Q : Pst) : cmpD .le (.int i) (.int j) μ Q = Q (.bl (decide (i ≤ j))) μ := rfl
theorem q_gt (i j : Int) (μ : Mu) (Q : Pst) : cmpD .gt (.int i) (.int j) μ Q = Q (.bl (decide (j < i))) μ := rfl
theorem q_ge (i j : Int) (μ : Mu) (Q : Pst) : cmpD .ge (.int i) (.int j) μ Q = Q (.bl (decide (j ≤ i))) μ := rfl
theorem q_in (a : D) (ds : List D) (μ : Mu) (Q : Pst) : cmpD .in_ a (.lst ds) μ Q = (fit 60 a = true ∧ fit 60 (.lst ds) = true ∧ Q (.bl (ds.any fun z => deq z a)) μ) := rfl
theorem q_nin (a : D) (ds : List D) (μ : Mu) (Q : Pst) : cmpD .notin a (.lst ds) μ Q = (fit 60 a = true ∧ fit 60 (.lst ds) = true ∧ Q (.bl (!ds.any fun z => deq z a)) μ) := rfl
theorem q_cis (a b : Bool) (μ : Mu) (Q : Pst) : cmpD .is_ (.bl a) (.bl b) μ Q = Q (.bl (decide (a = b))) μ := rfl
theorem q_cisnt (a b : Bool) (μ : Mu) (Q : Pst) : cmpD .isnt (.bl a) (.bl b) μ Q = Q (.bl (!decide (a = b))) μ := rfl
theorem q_joinl (s : Str) (ds : List D) (μ : Mu) (Q : Pst) : joinD s (.lst ds) μ Q = ifSs (strsD ds) fun ys => (ys.map (·.length)).sum + ys.length * s.length ≤ 100000 ∧ Q (.str (Txt.join s ys)) μ := rfl
theorem q_joint (s : Str) (ds : List D) (μ : Mu) (Q : Pst) : joinD s (.tup ds) μ Q = ifSs (strsD ds) fun ys => (ys.map (·.length)).sum + ys.length * s.length ≤ 100000 ∧ Q (.str (Txt.join s ys)) μ := rfl
theorem q_split (s z : Str) (μ : Mu) (Q : Pst) : splitD s (.str z) μ Q = ((s.length == 0) = false ∧ z.length + 2 ≤ 100000 ∧ Q (.lst ((Txt.split z s).map .str)) μ) := rfl
theorem q_catll (mu : Bool) (xs ys : List D) (μ : Mu) (Q : Pst) : catD mu (.lst xs) (.lst ys) μ Q = (xs.length + ys.length ≤ 100000 ∧ lcEnd mu Q (xs ++ ys) μ) := rfl
theorem q_catrl (mu : Bool) (p : Addr) (ys : List D) (μ : Mu) (Q : Pst) : catD mu (.ref p) (.lst ys) μ Q = ifL (μ p) fun xs => xs.length + ys.length ≤ 100000 ∧ lcEnd mu Q (xs ++ ys) μ := rfl
theorem q_catrr (mu : Bool) (p r : Addr) (μ : Mu) (Q : Pst) : catD mu (.ref p) (.ref r) μ Q = ifL (μ p) fun xs => ifL (μ r) fun ys => xs.length + ys.length ≤ 100000 ∧ lcEnd mu Q (xs ++ ys) μ := rfl
theorem q_catlr (mu : Bool) (xs : List D) (r : Addr) (μ : Mu) (Q : Pst) : catD mu (.lst xs) (.ref r) μ Q = ifL (μ r) fun ys => xs.length + ys.length ≤ 100000 ∧ lcEnd mu Q (xs ++ ys) μ := rfl
theorem q_setl (ds : List D) (μ : Mu) (Q : Pst) : setlD (.lst ds) μ Q = ∃ L, rowsD ds = some L ∧ ds.length < 64 ∧ Q (.int L.eraseDups.length) μ := rfl
theorem q_strs0 : strsD [] = some [] := rfl
theorem q_strsc (x : Str) (r : List D) : strsD (.str x :: r) = (strsD r).map (x :: ·) := rfl
theorem q_ifSs (ys : List Str) (p : List Str → Prop) : ifSs (some ys) p = p ys := rfl
theorem q_clear (ds : List D) : mthL .clear ds = [] := rfl
theorem q_reverse (ds : List D) : mthL .reverse ds = ds.reverse := rfl
theorem q_revl (ds : List D) (μ : Mu) (Q : Pst) : revD (.lst ds) μ Q = Q (.lst ds.reverse) μ := rfl
theorem q_revt (ds : List D) (μ : Mu) (Q : Pst) : revD (.tup ds) μ Q = Q (.tup ds.reverse) μ := rfl
theorem q_revr (p : Addr) (μ : Mu) (Q : Pst) : revD (.ref p) μ Q = ifL (μ p) fun ds => Q (.lst ds.reverse) μ := rfl
theorem q_eqm (p : Addr) (b : D) (μ : Mu) (Q : Pst) : cmpD .eqm (.ref p) b μ Q = ifL (μ p) fun ds => fit 60 (.lst ds) = true ∧ fit 60 b = true ∧ Q (.bl (deq (.lst ds) b)) μ := rfl
theorem q_nem (p : Addr) (b : D) (μ : Mu) (Q : Pst) : cmpD .nem (.ref p) b μ Q = ifL (μ p) fun ds => fit 60 (.lst ds) = true ∧ fit 60 b = true ∧ Q (.bl (!deq (.lst ds) b)) μ := rfl
theorem q_tupr (p : Addr) (μ : Mu) (Q : Pst) : b1D .tuple (.ref p) μ Q = ifL (μ p) fun ds => Q (.tup ds) μ := rfl
theorem q_listr (p : Addr) (μ : Mu) (Q : Pst) : b1D .list (.ref p) μ Q = ifL (μ p) fun ds => Q (.lst ds) μ := rfl
theorem q_lenr (p : Addr) (μ : Mu) (Q : Pst) : b1D .len (.ref p) μ Q = ifL (μ p) fun ds => Q (.int ds.length) μ := rfl
theorem q_lcf (Q : Pst) (acc : List D) (μ : Mu) : lcEnd false Q acc μ = Q (.lst acc) μ := rfl
theorem q_lct (Q : Pst) (acc : List D) (μ : Mu) : lcEnd true Q acc μ = ∀ p, μ p = none → Q (.ref p) (mset μ p acc) := rfl
theorem q_abs (i : Int) (μ : Mu) (Q : Pst) : b1D .abs (.int i) μ Q = Q (.int (i.natAbs : Nat)) μ := rfl
theorem q_lent (ds : List D) (μ : Mu) (Q : Pst) : b1D .len (.tup ds) μ Q = Q (.int ds.length) μ := rfl
theorem q_lenl (ds : List D) (μ : Mu) (Q : Pst) : b1D .len (.lst ds) μ Q = Q (.int ds.length) μ := rfl
theorem q_lens (z : Str) (μ : Mu) (Q : Pst) : b1D .len (.str z) μ Q = (z.length ≤ 100000 ∧ Q (.int z.length) μ) := rfl
theorem q_sum (ds : List D) (μ : Mu) (Q : Pst) : b1D .sum (.lst ds) μ Q = ifIs (intsD ds) fun ns => Q (.int ns.sum) μ := rfl
theorem q_all (ds : List D) (μ : Mu) (Q : Pst) : b1D .all (.lst ds) μ Q = ifBs (blsD ds) fun ns => Q (.bl (ns.all id)) μ := rfl
theorem q_any (ds : List D) (μ : Mu) (Q : Pst) : b1D .any (.lst ds) μ Q = ifBs (blsD ds) fun ns => Q (.bl (ns.any id)) μ := rfl
theorem q_tupl (ds : List D) (μ : Mu) (Q : Pst) : b1D .tuple (.lst ds) μ Q = Q (.tup ds) μ := rfl
theorem q_tupt (ds : List D) (μ : Mu) (Q : Pst) : b1D .tuple (.tup ds) μ Q = Q (.tup ds) μ := rfl
theorem q_listl (ds : List D) (μ : Mu) (Q : Pst) : b1D .list (.lst ds) μ Q = Q (.lst ds) μ := rfl
theorem q_listt (ds : List D) (μ : Mu) (Q : Pst) : b1D .list (.tup ds) μ Q = Q (.lst ds) μ := rfl
theorem q_listMl (ds : List D) (μ : Mu) (Q : Pst) : b1D .listM (.lst ds) μ Q = ∀ p, μ p = none → Q (.ref p) (mset μ p ds) := rfl
theorem q_listMt (ds : List D) (μ : Mu) (Q : Pst) : b1D .listM (.tup ds) μ Q = ∀ p, μ p = none → Q (.ref p) (mset μ p ds) := rfl
theorem q_inti (i : Int) (μ : Mu) (Q : Pst) : b1D .int (.int i) μ Q = Q (.int i) μ := rfl
theorem q_intb (b : Bool) (μ : Mu) (Q : Pst) : b1D .int (.bl b) μ Q = Q (.int (if b then 1 else 0)) μ := rfl
theorem q_stri (i : Int) (μ : Mu) (Q : Pst) : b1D .str (.int i) μ Q = (i.natAbs.log2 < 1920 ∧ Q (.str (toString i)) μ) := rfl
theorem q_strs (x : Str) (μ : Mu) (Q : Pst) : b1D .str (.str x) μ Q = Q (.str x) μ := rfl
theorem q_strn (μ : Mu) (Q : Pst) : b1D .str .non μ Q = (fit 60 .non = true ∧ D.non.py.showable = true ∧ D.non.py.shown.length ≤ 100000 ∧ Q (.str D.non.py.shown) μ) := rfl
theorem q_strb (b : Bool) (μ : Mu) (Q : Pst) : b1D .str (.bl b) μ Q = (fit 60 (.bl b) = true ∧ (D.bl b).py.showable = true ∧ (D.bl b).py.shown.length ≤ 100000 ∧ Q (.str (D.bl b).py.shown) μ) := rfl
theorem q_strt (ds : List D) (μ : Mu) (Q : Pst) : b1D .str (.tup ds) μ Q = (fit 60 (.tup ds) = true ∧ (D.tup ds).py.showable = true ∧ (D.tup ds).py.shown.length ≤ 100000 ∧ Q (.str (D.tup ds).py.shown) μ) := rfl
theorem q_strl (ds : List D) (μ : Mu) (Q : Pst) : b1D .str (.lst ds) μ Q = (fit 60 (.lst ds) = true ∧ (D.lst ds).py.showable = true ∧ (D.lst ds).py.shown.length ≤ 100000 ∧ Q (.str (D.lst ds).py.shown) μ) := rfl
theorem q_max (i j : Int) (μ : Mu) (Q : Pst) : b2D .max (.int i) (.int j) μ Q = Q (.int (if j > i then j else i)) μ := rfl
theorem q_min (i j : Int) (μ : Mu) (Q : Pst) : b2D .min (.int i) (.int j) μ Q = Q (.int (if j < i then j else i)) μ := rfl
theorem q_selt (ds : List D) (μ : Mu) (n : Nat) : selN (.tup ds) μ n = ds[n]? := rfl
theorem q_sell (ds : List D) (μ : Mu) (n : Nat) : selN (.lst ds) μ n = ds[n]? := rfl
theorem q_selr (p : Addr) (μ : Mu) (n : Nat) : selN (.ref p) μ n = (μ p).bind fun ds => ds[n]? := rfl
theorem q_seIt (ds : List D) (μ : Mu) (n : Int) : selI (.tup ds) μ n = L2.atI ds n := rfl
theorem q_seIl (ds : List D) (μ : Mu) (n : Int) : selI (.lst ds) μ n = L2.atI ds n := rfl
theorem q_seIr (p : Addr) (μ : Mu) (n : Int) : selI (.ref p) μ n = (μ p).bind fun ds => L2.atI ds n := rfl
theorem q_itt (ds : List D) : itemsF (.tup ds) = some ds := rfl
theorem q_itl (ds : List D) : itemsF (.lst ds) = some ds := rfl
theorem q_bn (i : Nat) (d : D) (ρ : Rho) (k : Rho → Prop) : bindT (.name i) d ρ k = k (rs ρ i (some d)) := rfl
theorem q_bt (is : List Nat) (ds : List D) (ρ : Rho) (k : Rho → Prop) : bindT (.tup is) (.tup ds) ρ k = ifR (bindAll is ds ρ) k := rfl
theorem q_btl (is : List Nat) (ds : List D) (ρ : Rho) (k : Rho → Prop) : bindT (.tup is) (.lst ds) ρ k = ifR (bindAll is ds ρ) k := rfl
theorem q_ba0 (ρ : Rho) : bindAll [] [] ρ = some ρ := rfl
theorem q_bas (i : Nat) (is : List Nat) (d : D) (ds : List D) (ρ : Rho) : bindAll (i :: is) (d :: ds) ρ = bindAll is ds (rs ρ i (some d)) := rfl
theorem q_inT (a : D) (ds : List D) (μ : Mu) (Q : Pst) : cmpD .inT a (.tup ds) μ Q = (flatD a = true ∧ ds.all flatD = true ∧ Q (.bl (ds.any fun z => deq z a)) μ) := by cases a <;> rfl
theorem q_ninT (a : D) (ds : List D) (μ : Mu) (Q : Pst) : cmpD .notinT a (.tup ds) μ Q = (flatD a = true ∧ ds.all flatD = true ∧ Q (.bl (!ds.any fun z => deq z a)) μ) := by cases a <;> rfl
theorem q_frzr (p : Addr) (μ : Mu) (Q : Pst) : frzD (.ref p) μ Q = ifL (μ p) fun ds => Q (.lst ds) (mdel μ p) := rfl
theorem q_frzl (ds : List D) (μ : Mu) (Q : Pst) : frzD (.lst ds) μ Q = Q (.lst ds) μ := rfl
theorem q_slct (ds : List D) (lo hi : Option Int) (μ : Mu) (Q : Pst) : slcD (.tup ds) lo hi μ Q = Q (.tup (cutD ds lo hi)) μ := rfl
theorem q_slcl (ds : List D) (lo hi : Option Int) (μ : Mu) (Q : Pst) : slcD (.lst ds) lo hi μ Q = Q (.lst (cutD ds lo hi)) μ := rfl
theorem q_slcr (p : Addr) (lo hi : Option Int) (μ : Mu) (Q : Pst) : slcD (.ref p) lo hi μ Q = ifL (μ p) fun ds => Q (.lst (cutD ds lo hi)) μ := rfl
theorem q_slcs (z : Str) (lo hi : Option Int) (μ : Mu) (Q : Pst) : slcD (.str z) lo hi μ Q = (z.length ≤ 100000 ∧ Q (.str (L2.cutS z lo hi)) μ) := rfl
theorem q_trut (i : List D) (μ : Mu) : truD (.tup i) μ = some (!i.isEmpty) := rfl
theorem q_isn (b : Bool) : isNon (.bl b) = false := rfl
theorem q_isni (b : Int) : isNon (.int b) = false := rfl
theorem q_isnn : isNon .non = true := rfl
theorem q_isnt (b : List D) : isNon (.tup b) = false := rfl
theorem q_isnl (b : List D) : isNon (.lst b) = false := rfl
theorem q_isne (b : Nat) : isNon (.exc b) = false := rfl
theorem q_isns (b : Str) : isNon (.str b) = false := rfl
theorem deq_int (i j : Int) : deq (.int i) (.int j) = (i == j) := rfl
theorem deq_bl (i j : Bool) : deq (.bl i) (.bl j) = (i == j) := rfl
theorem deq_str (i j : Str) : deq (.str i) (.str j) = (i == j) := rfl
theorem deq_non : deq .non .non = true := rfl
theorem deq_tup (xs ys : List D) : deq (.tup xs) (.tup ys) = PyData.eqvAll (pys xs) (pys ys) := rfl
theorem deq_lst (xs ys : List D) : deq (.lst xs) (.lst ys) = PyData.eqvAll (pys xs) (pys ys) := rfl
theorem ea_nil : PyData.eqvAll (pys []) (pys []) = true := by simp [pys, PyData.eqvAll]
theorem ea_cons (x y : D) (xs ys : List D) : PyData.eqvAll (pys (x :: xs)) (pys (y :: ys)) = (deq x y && PyData.eqvAll (pys xs) (pys ys)) := by simp [pys, PyData.eqvAll, deq]
theorem ea_nc (y : D) (ys : List D) : PyData.eqvAll (pys []) (pys (y :: ys)) = false := by simp [pys, PyData.eqvAll]
theorem ea_cn (y : D) (ys : List D) : PyData.eqvAll (pys (y :: ys)) (pys []) = false := by simp [pys, PyData.eqvAll]
theorem fit_int (n : Nat) (i : Int) : fit n (.int i) = true := by cases n <;> rfl
theorem fit_bl (n : Nat) (i : Bool) : fit n (.bl i) = true := by cases n <;> rfl
theorem fit_non (n : Nat) : fit n .non = true := by cases n <;> rfl
theorem fit_tup (n : Nat) (xs : List D) : fit (n + 1) (.tup xs) = xs.all (fit n) := rfl
theorem fit_lst (n : Nat) (xs : List D) : fit (n + 1) (.lst xs) = xs.all (fit n) := rfl
theorem fit_str (n : Nat) (x : Str) : fit n (.str x) = PyData.strOk x := by cases n <;> rfl
mutual
theorem eqv_refl : ∀ d : PyData, PyData.canLay0 d = true → PyData.eqv d d = true
  | .none, _ => by simp [PyData.eqv]
  | .bool b, _ => by simp [PyData.eqv]
  | .int b, _ => by simp [PyData.eqv]
  | .str b, _ => by simp [PyData.eqv]
  | .list xs, h => by simp only [PyData.eqv]; exact eqvA_refl xs (by simpa [PyData.canLay0] using h)
  | .tuple xs, h => by simp only [PyData.eqv]; exact eqvA_refl xs (by simpa [PyData.canLay0] using h)
  | .dict xs, h => by simp [PyData.canLay0] at h
theorem eqvA_refl : ∀ d : List PyData, PyData.canLayAll0 d = true → PyData.eqvAll d d = true
  | [], _ => by simp [PyData.eqvAll]
  | x :: xs, h => by
    have h' : x.canLay0 = true ∧ PyData.canLayAll0 xs = true := by simpa [PyData.canLayAll0] using h
    simp [PyData.eqvAll, eqv_refl x h'.1, eqvA_refl xs h'.2]
end
theorem deq_refl {d : D} (h : fit 60 d = true) : deq d d = true := eqv_refl _ (fit_lay 60 d h).1

/-! ### loops -/
theorem forW_by {f : D → Rho → Mu → (Rho → Mu → Prop) → Prop} {Q : Rho → Mu → Prop} (Inv : List D → Rho → Mu → Prop) (step : ∀ d ds ρ μ (k : Rho → Mu → Prop), Inv (d :: ds) ρ μ → (∀ ρ' μ', Inv ds ρ' μ' → k ρ' μ') → f d ρ μ k)
    (fin : ∀ ρ μ, Inv [] ρ μ → Q ρ μ) : ∀ (ds : List D) (ρ : Rho) (μ : Mu), Inv ds ρ μ → forW f ds ρ μ Q
  | [], ρ, μ, h => fin ρ μ h
  | d :: ds, ρ, μ, h => step d ds ρ μ _ h fun ρ' μ' h' => forW_by Inv step fin ds ρ' μ' h'
theorem lcW_by {f : D → Mu → (Option D → Mu → Prop) → Prop} {Q : List D → Mu → Prop} (Inv : List D → List D → Mu → Prop) (step : ∀ d ds acc μ (k : Option D → Mu → Prop), Inv (d :: ds) acc μ → (∀ o μ', Inv ds (acc ++ o.toList) μ' → k o μ') → f d μ k)
    (fin : ∀ acc μ, Inv [] acc μ → Q acc μ) : ∀ (ds acc : List D) (μ : Mu), Inv ds acc μ → lcW f ds acc μ Q
  | [], acc, μ, h => fin acc μ h
  | d :: ds, acc, μ, h => step d ds acc μ _ h fun o μ' h' => lcW_by Inv step fin ds (acc ++ o.toList) μ' h'
/-- a comprehension that maps, its store unchanged -/
theorem lcW_map {f : D → Mu → (Option D → Mu → Prop) → Prop} {Q : List D → Mu → Prop} (g : D → D) : ∀ (ds : List D), ∀ (μ : Mu), (∀ d ∈ ds, ∀ k : Option D → Mu → Prop, k (some (g d)) μ → f d μ k) → ∀ acc : List D, Q (acc ++ ds.map g) μ → lcW f ds acc μ Q
  | [], μ, _, acc, q => by simpa [lcW] using q
  | d :: ds, μ, h, acc, q => by
    refine h d List.mem_cons_self _ ?_
    refine lcW_map g ds μ (fun d' hd => h d' (List.mem_cons_of_mem _ hd)) _ ?_
    simpa using q
theorem whW_by {f : Rho → Mu → (Rho → Mu → Prop) → Prop} (Inv : Nat → Rho → Mu → Prop) (step : ∀ m ρ μ (k : Rho → Mu → Prop), Inv m ρ μ → (∀ m' ρ' μ', m' < m → Inv m' ρ' μ' → k ρ' μ') → f ρ μ k) {m : Nat} {ρ : Rho} {μ : Mu} (h : Inv m ρ μ) : ∃ n, whW f n ρ μ := by
  have key : ∀ n m ρ μ, m < n → Inv m ρ μ → whW f n ρ μ := by
    intro n
    induction n with
    | zero => intro m ρ μ h; omega
    | succ n ih =>
      intro m ρ μ h i
      exact step m ρ μ _ i fun m' ρ' μ' l i' => ih m' ρ' μ' (by omega) i'
  exact ⟨m + 1, key (m + 1) m ρ μ (Nat.lt_succ_self m) h⟩

/-! ### sizes -/
theorem mul_ok {i j : Int} (a b : Nat) (ha : i.natAbs < 2 ^ a) (hb : j.natAbs < 2 ^ b) (h : a + b ≤ 120000000) : mulOk i j := by
  have x := PySem.Flt.log2_lt_of (n := i.natAbs) (k := a + 1) (Nat.succ_pos a) (Nat.lt_trans ha (Nat.pow_lt_pow_right (by decide) (Nat.lt_succ_self a)))
  have y := PySem.Flt.log2_lt_of (n := j.natAbs) (k := b + 1) (Nat.succ_pos b) (Nat.lt_trans hb (Nat.pow_lt_pow_right (by decide) (Nat.lt_succ_self b)))
  unfold mulOk
  omega
theorem div_ok {j : Int} (b : Nat) (h : j ≠ 0) (hb : j.natAbs < 2 ^ b) (h9 : b ≤ 100000000) : divOk j := h
end Dl

/-! The data layer, part L: plain facts that the laws share. -/
namespace Dl
open PySem L2 PyProof.Rows
def gcdL (ns : List Int) : Int := ns.foldl (fun g n => ((Int.gcd g n : Nat) : Int)) 0
theorem gcd_step (f r : Nat) (h : r ≠ 0) : Int.gcd ((f : Nat) : Int) ((r : Nat) : Int) = Int.gcd ((r : Nat) : Int) (((f % r : Nat)) : Int) := by
  simp only [Int.gcd, Int.natAbs_natCast]
  rw [Nat.gcd_comm r, ← Nat.gcd_rec, Nat.gcd_comm]
theorem fmod_nat (f r : Nat) : ((f : Nat) : Int).fmod ((r : Nat) : Int) = (((f % r : Nat)) : Int) := by
  rw [Int.fmod_eq_emod_of_nonneg _ (by omega)]; rfl
theorem nab {x : Int} {n : Nat} (h0 : 0 ≤ x) (h1 : x < (n : Int)) : x.natAbs < n := by omega
theorem fmod_pos {x m : Int} (h : 0 < m) : 0 ≤ x.fmod m ∧ x.fmod m < m := ⟨Int.fmod_nonneg_of_pos x h, Int.fmod_lt_of_pos x h⟩
theorem pow10_18 : powOk 10 18 := ⟨by decide, by decide, by decide⟩
theorem at_ints (ns : List Int) (k : Int) (h0 : 0 ≤ k) (h1 : k < ns.length) : ∃ z, L2.atI (ns.map D.int) k = some (.int z) := by
  obtain ⟨n, rfl⟩ := Int.eq_ofNat_of_zero_le h0
  have hn : n < ns.length := by omega
  exact ⟨ns[n], atI_nat (by rw [List.getElem?_map, List.getElem?_eq_getElem hn]; rfl)⟩
theorem fmod_natAbs (x y : Int) (h : y ≠ 0) : (x.fmod y).natAbs < y.natAbs := by
  by_cases hy : 0 < y
  · obtain ⟨a, b⟩ := fmod_pos (x := x) hy
    omega
  · have hy' : 0 < -y := by omega
    have e : x.fmod y = -((-x).fmod (-y)) := by rw [Int.neg_fmod_neg]; omega
    obtain ⟨a, b⟩ := fmod_pos (x := -x) hy'
    rw [e]
    omega
theorem gcd_fmod (x y : Int) : Int.gcd y (x.fmod y) = Int.gcd x y := by
  have e : x.fmod y = x - y * x.fdiv y := by have := Int.mul_fdiv_add_fmod x y; omega
  rw [e, Int.gcd_comm x y]
  rw [show x - y * x.fdiv y = x + y * (-(x.fdiv y)) by rw [Int.mul_neg]; omega]
  exact Int.gcd_add_mul_left_right ..
theorem ifD_of {o : Option D} {d : D} {P : D → Prop} (h : o = some d) (k : P d) : ifD o P := by rw [h]; exact k
theorem ite_t {c : Prop} {_ : Decidable c} {a b : Prop} (h : c) (k : a) : if c then a else b := by rw [if_pos h]; exact k
theorem ite_f {c : Prop} {_ : Decidable c} {a b : Prop} (h : ¬ c) (k : b) : if c then a else b := by rw [if_neg h]; exact k
theorem isi_cls [NC] {c' c : Nat} (h : c' < NC.n) : isiD (.exc c') (.cls c) = some (subC c' c) := if_pos h
theorem isi_v [NC] {c' : Nat} (h : c' < NC.n) : isiD (.exc c') .vErr = some true := if_pos h
theorem sub0 (c' : Nat) : subC c' 0 = true := rfl
theorem spLaw_of [NC] {ok : List Int → Prop} {n : Nat} {m : MB} (h : ∀ ns μ Q X, ok ns → (∀ μ', Q (.bl true) μ') → wpB m (startD n [.lst (ns.map .int)]) μ (enD Q X)) : ∀ ds μ Q X, spLaw ok ds μ Q X → ds.length = 1 ∧ wpB m (startD n ds) μ (enD Q X) := by
  intro ds μ Q X q
  match ds, q with
  | [.lst ds], ⟨ns, e, o, e2, q⟩ => subst e; exact ⟨rfl, h ns μ Q X o q⟩
theorem rngD_mem {lo : Int} {n : Nat} {d : D} (h : d ∈ rngD lo n) : ∃ j : Int, d = .int j ∧ lo ≤ j ∧ j < lo + (n : Int) := by
  unfold rngD at h
  obtain ⟨k, hk, rfl⟩ := List.mem_map.mp h
  have := List.mem_range.mp hk
  exact ⟨_, rfl, by omega, by omega⟩
theorem nodup_inj {l : List Addr} (h : l.Nodup) {i j : Nat} (hi : i < l.length) (hj : j < l.length) (e : l.getD i 0 = l.getD j 0) : i = j := by
  rw [List.getD_eq_getElem?_getD, List.getD_eq_getElem?_getD, List.getElem?_eq_getElem hi, List.getElem?_eq_getElem hj] at e
  exact (List.getElem_inj h).mp e
/-- the divisor that brings a fraction to its least terms -/
def byI (t b : Int) : Int := if b < 0 then 0 - ((Int.gcd t b : Nat) : Int) else ((Int.gcd t b : Nat) : Int)
def frN (t b : Int) : Int := t.fdiv (byI t b)
def frM (t b : Int) : Int := b.fdiv (byI t b)
def frD (t b : Int) : D := .tup [.int (frN t b), .int (frM t b)]
theorem gcdL_two (t b : Int) : gcdL [t, b] = ((Int.gcd t b : Nat) : Int) := by
  simp [gcdL, Int.gcd]
theorem byI_ne {t b : Int} (h : b ≠ 0) : byI t b ≠ 0 := by
  have : Int.gcd t b ≠ 0 := fun e => h (Int.gcd_eq_zero_iff.mp e).2
  unfold byI; split <;> omega
theorem byI_le {t b : Int} (h : b ≠ 0) : (byI t b).natAbs ≤ b.natAbs := by
  have h1 : Int.gcd t b ≤ b.natAbs := Nat.le_of_dvd (by omega) (by simp only [Int.gcd]; exact Nat.gcd_dvd_right _ _)
  unfold byI; split <;> omega
/-! plain facts of a fraction in its least terms -/
theorem byI_dvd (t b : Int) : byI t b ∣ t ∧ byI t b ∣ b := by
  have h1 : ((Int.gcd t b : Nat) : Int) ∣ t := Int.gcd_dvd_left ..
  have h2 : ((Int.gcd t b : Nat) : Int) ∣ b := Int.gcd_dvd_right ..
  unfold byI
  split
  · rw [Int.zero_sub, Int.neg_dvd, Int.neg_dvd]; exact ⟨h1, h2⟩
  · exact ⟨h1, h2⟩
theorem frN_mul {t b : Int} (h : b ≠ 0) : byI t b * frN t b = t := by
  unfold frN; exact Int.mul_fdiv_cancel_of_dvd (byI_dvd t b).1
theorem frM_mul {t b : Int} (h : b ≠ 0) : byI t b * frM t b = b := by
  unfold frM; exact Int.mul_fdiv_cancel_of_dvd (byI_dvd t b).2
theorem frM_pos {t b : Int} (h : b ≠ 0) : 1 ≤ frM t b := by
  have e := frM_mul (t := t) h
  have hz := byI_ne (t := t) h
  by_cases hb : b < 0
  · have hy : byI t b < 0 := by
      have : Int.gcd t b ≠ 0 := fun e => h (Int.gcd_eq_zero_iff.mp e).2
      unfold byI; rw [if_pos hb]; omega
    rcases Int.lt_or_le 0 (frM t b) with h1 | h1
    · omega
    · have := Int.mul_nonneg_of_nonpos_of_nonpos (Int.le_of_lt hy) h1
      omega
  · have hy : 0 < byI t b := by
      have : Int.gcd t b ≠ 0 := fun e => h (Int.gcd_eq_zero_iff.mp e).2
      unfold byI; rw [if_neg hb]; omega
    rcases Int.lt_or_le 0 (frM t b) with h1 | h1
    · omega
    · have := Int.mul_nonpos_of_nonneg_of_nonpos (Int.le_of_lt hy) h1
      omega
theorem byI_nat (t b : Int) : (byI t b).natAbs = Int.gcd t b := by
  unfold byI; split <;> omega
theorem fr_gcd {t b : Int} (h : b ≠ 0) : Int.gcd (frN t b) (frM t b) = 1 := by
  have h1 : Int.gcd (byI t b * frN t b) (byI t b * frM t b) = (byI t b).natAbs * Int.gcd (frN t b) (frM t b) := Int.gcd_mul_left ..
  rw [frN_mul h, frM_mul h, byI_nat] at h1
  have h2 : Int.gcd t b ≠ 0 := fun e => h (Int.gcd_eq_zero_iff.mp e).2
  exact (Nat.eq_of_mul_eq_mul_left (Nat.pos_of_ne_zero h2) (by rw [Nat.mul_one]; exact h1)).symm
theorem fr_cross {t b : Int} (h : b ≠ 0) : frN t b * b = t * frM t b := by
  have e1 := frN_mul (t := t) h
  have e2 := frM_mul (t := t) h
  generalize frN t b = p at *
  generalize frM t b = q at *
  generalize byI t b = g at *
  subst e1
  rw [← e2]
  grind
theorem fr_self {t b : Int} (h : 0 < b) (hg : Int.gcd t b = 1) : frN t b = t ∧ frM t b = b := by
  have e : byI t b = 1 := by unfold byI; rw [if_neg (by omega), hg]; rfl
  unfold frN frM; rw [e]; simp
theorem natAbs_le_of_mul {g p t : Int} (h : g ≠ 0) (e : g * p = t) : p.natAbs ≤ t.natAbs := by
  rw [← e, Int.natAbs_mul]
  exact Nat.le_mul_of_pos_left _ (by omega)
theorem frN_le {t b : Int} (h : b ≠ 0) : (frN t b).natAbs ≤ t.natAbs := natAbs_le_of_mul (byI_ne h) (frN_mul h)
theorem frM_le {t b : Int} (h : b ≠ 0) : (frM t b).natAbs ≤ b.natAbs := natAbs_le_of_mul (byI_ne h) (frM_mul h)
theorem p200 {n : Nat} (h : n < 2 ^ 200) : n < 2 ^ 8000 := Nat.lt_of_lt_of_le h (Nat.pow_le_pow_right (by decide) (by decide))
theorem blsD_true : ∀ L : List D, blsD (L.map fun _ => .bl true) = some (L.map fun _ => true)
  | [] => rfl
  | _ :: L => by simp [blsD, blsD_true L]
/-! pairs, sizes, roots -/
abbrev pD (n m : Int) : D := .tup [.int n, .int m]
/-- a number of a size that the reckoning bears -/
def sz (x : Int) : Prop := x.natAbs < 2 ^ 3900
theorem sz.mul {a b : Int} (ha : sz a) (hb : sz b) : mulOk a b := mul_ok 3900 3900 ha hb (by decide)
theorem nat_mul_lt {x y a b c : Nat} (ha : x < 2 ^ a) (hb : y < 2 ^ b) (h : a + b ≤ c) : x * y < 2 ^ c :=
  Nat.lt_of_lt_of_le (Nat.mul_lt_mul'' ha hb) (by rw [← Nat.pow_add]; exact Nat.pow_le_pow_right (by decide) h)
theorem abs_mul_lt {x y : Int} {a b c : Nat} (ha : x.natAbs < 2 ^ a) (hb : y.natAbs < 2 ^ b) (h : a + b ≤ c) : (x * y).natAbs < 2 ^ c := by
  rw [Int.natAbs_mul]; exact nat_mul_lt ha hb h
theorem abs_up {x : Int} {a c : Nat} (ha : x.natAbs < 2 ^ a) (h : a ≤ c) : x.natAbs < 2 ^ c := Nat.lt_of_lt_of_le ha (Nat.pow_le_pow_right (by decide) h)
theorem sz.mul8 {a b : Int} (ha : sz a) (hb : sz b) : (a * b).natAbs < 2 ^ 8000 := abs_mul_lt ha hb (by decide)
theorem sz.p8 {a : Int} (ha : sz a) : a.natAbs < 2 ^ 8000 := abs_up ha (by decide)
theorem sz_of {x : Int} {a : Nat} (ha : x.natAbs < 2 ^ a) (h : a ≤ 3900) : sz x := abs_up ha h
theorem mul_ne0 {a b : Int} (ha : a ≠ 0) (hb : b ≠ 0) : a * b ≠ 0 := Int.mul_ne_zero ha hb
/-- r is the whole root of n -/
def isR (n r : Int) : Prop := 0 ≤ r ∧ r * r ≤ n ∧ n < (r + 1) * (r + 1)
theorem isR_eq {n r s : Int} (h : isR n r) (k : isR n s) : r = s := by
  obtain ⟨a, b, c⟩ := h
  obtain ⟨d, e, f⟩ := k
  rcases Int.lt_trichotomy r s with z | z | z
  · have : (r + 1) * (r + 1) ≤ s * s := Int.mul_le_mul (by omega) (by omega) (by omega) (by omega)
    omega
  · exact z
  · have : (s + 1) * (s + 1) ≤ r * r := Int.mul_le_mul (by omega) (by omega) (by omega) (by omega)
    omega
theorem isR_le {n r : Int} (h : isR n r) : r ≤ n := by
  obtain ⟨a, b, c⟩ := h
  rcases Int.lt_or_le 0 r with z | z
  · have : 1 * r ≤ r * r := Int.mul_le_mul_of_nonneg_right (by omega) (by omega)
    omega
  · have : r = 0 := by omega
    subst this; omega
theorem isR.sz {n r : Int} (h : isR n r) (k : sz n) : sz r := by
  have := isR_le h
  have := h.1
  unfold Dl.sz at *
  omega
theorem bits_facts {n : Int} (h0 : 0 ≤ n) (h1 : n.natAbs < 2 ^ 8000) : n < ((2 ^ Builtin.Int.intBits n : Nat) : Int) ∧ Builtin.Int.intBits n ≤ 8000 := by
  have a := (PySem.intBits_le_iff (m := Builtin.Int.intBits n) (x := n)).mp (Nat.le_refl _)
  have b := (PySem.intBits_le_iff (m := 8000) (x := n)).mpr h1
  exact ⟨by omega, b⟩
theorem sqr_nonneg (x : Int) : 0 ≤ x * x := by
  rcases Int.le_total 0 x with h | h
  · exact Int.mul_nonneg h h
  · exact Int.mul_nonneg_of_nonpos_of_nonpos h h
/-- a step of the root's search -/
theorem newton {n f : Int} (h0 : 0 ≤ n) (hf : 0 < f) (ht : n < f * f) : ∃ g : Nat, (f + n.fdiv f).fdiv 2 = (g : Int) ∧ (g : Int) < f ∧ n < ((g : Nat) + 1 : Int) * ((g : Nat) + 1 : Int) := by
  have e1 : n.fdiv f = n / f := Int.fdiv_eq_ediv_of_nonneg _ (Int.le_of_lt hf)
  rw [e1, Int.fdiv_eq_ediv_of_nonneg _ (by decide)]
  have q0 : 0 ≤ n / f := Int.ediv_nonneg h0 (Int.le_of_lt hf)
  have q1 : f * (n / f) ≤ n := Int.mul_ediv_self_le (by omega)
  have q2 : n < f * (n / f + 1) := by
    have a := Int.lt_mul_ediv_self_add (x := n) hf
    rw [Int.mul_add, Int.mul_one]; exact a
  generalize n / f = q at *
  have q3 : q < f := by
    rcases Int.lt_or_le q f with z | z
    · exact z
    · have : f * f ≤ f * q := Int.mul_le_mul_of_nonneg_left z (by omega)
      omega
  refine ⟨((f + q) / 2).toNat, by omega, by omega, ?_⟩
  have hg : (((f + q) / 2).toNat : Int) = (f + q) / 2 := by omega
  rw [hg]
  have hs : f + q + 1 ≤ 2 * ((f + q) / 2 + 1) := by omega
  have hg0 : 0 ≤ (f + q) / 2 := by omega
  generalize (f + q) / 2 = g at *
  have h1 : (f + q + 1) * (f + q + 1) = (f - (q + 1)) * (f - (q + 1)) + 4 * (f * (q + 1)) := by grind
  have h2 := sqr_nonneg (f - (q + 1))
  have h3 : (f + q + 1) * (f + q + 1) ≤ (2 * (g + 1)) * (2 * (g + 1)) := Int.mul_le_mul hs hs (by omega) (by omega)
  have h4 : (2 * (g + 1)) * (2 * (g + 1)) = 4 * ((g + 1) * (g + 1)) := by grind
  omega
def CAof (cs : List Addr) : Nat → Addr := fun c => cs.getD c 0
structure ClsF (K : PySem.W.Frag) (x : Str) (c0 c : Addr) (b : Bool) (cd : ClassData) : Prop where
  g : PySem.W.nsIn K mainGlobals x = some (some (.ref c))
  q : PySem.W.clsIn K c = some cd
  h : cd.hasDict = true
  m : cd.mro = .ref c :: ((if b then [] else [.ref c0]) ++ veT)
  ty : PySem.W.typeIn K (.ref c) = some (.type "type")
  ex : PySem.W.excIn K c veT "ValueError.__new__" = true
  kp : PySem.W.keepIn K (.ref c) = true
  ga : PySem.W.findIn K (.ref c) "__getattribute__" = some (some (.builtin "BaseException.__getattribute__"))
  gg : PySem.W.findIn K (.ref c) "__getattr__" = some none
  cl : PySem.W.findIn K (.ref c) "__class__" = some (some (.builtin "object.__class__"))
theorem clsF_ok [NC] {K : PySem.W.Frag} {mg : Str → Option Value} {h : Heap} (X : K.In h) (G : h.Ns mainGlobals mg) {CA : Nat → Addr} {CN : Nat → Str} {c : Nat} {b : Bool} {cd : ClassData} (F : ClsF K (CN c) (CA 0) (CA c) b cd) (hb : b = decide (c = 0)) (hn : PySem.W.specialIn K (.builtin "object.__class__") "__get__" = some (some (.builtin "getset_descriptor.__get__"))) (ht : PySem.W.takesIn K (.builtin "object.__class__") = some true) : ClsOk K mg CA CN c :=
  { g := PySem.W.mg_of X G F.g, mro := ⟨cd, F.q, F.h, by rw [F.m, hb]; simp only [decide_eq_true_eq]⟩, ty := F.ty, ex := F.ex, kp := F.kp, ga := F.ga, gg := F.gg, cl := F.cl, hn := hn, ht := ht }
end Dl

/-! The data layer, part M: plain fractions. -/
namespace Dl
open PySem L2 PyProof.Rows
abbrev F2 := Int × Int
/-- a fraction as data -/
abbrev fD (p : F2) : D := .tup [.int p.1, .int p.2]
/-- in its least terms -/
def fit2 (p : F2) : Prop := 0 < p.2 ∧ Int.gcd p.1 p.2 = 1
def frP (t b : Int) : F2 := (frN t b, frM t b)
theorem frD_eq (t b : Int) : frD t b = fD (frP t b) := rfl
theorem frP_fit {t b : Int} (h : b ≠ 0) : fit2 (frP t b) := ⟨by have := frM_pos (t := t) h; show 0 < frM t b; omega, fr_gcd h⟩
theorem frP_cross {t b : Int} (h : b ≠ 0) : (frP t b).1 * b = t * (frP t b).2 := fr_cross h
theorem mul_cancel {a b c : Int} (h : c ≠ 0) (e : a * c = b * c) : a = b := Int.eq_of_mul_eq_mul_right h e
theorem fit2_inj {p q : F2} (hp : fit2 p) (hq : fit2 q) (e : p.1 * q.2 = q.1 * p.2) : p = q := by
  obtain ⟨a, b⟩ := p
  obtain ⟨c, d⟩ := q
  obtain ⟨b0, g1⟩ := hp
  obtain ⟨d0, g2⟩ := hq
  simp only at *
  have n1 : b.natAbs ∣ d.natAbs := by
    have : b.natAbs ∣ a.natAbs * d.natAbs := by
      rw [← Int.natAbs_mul, e, Int.natAbs_mul]; exact Nat.dvd_mul_left ..
    exact Nat.Coprime.dvd_of_dvd_mul_left (by rw [Nat.coprime_comm]; exact g1) this
  have n2 : d.natAbs ∣ b.natAbs := by
    have : d.natAbs ∣ c.natAbs * b.natAbs := by
      rw [← Int.natAbs_mul, ← e, Int.natAbs_mul]; exact Nat.dvd_mul_left ..
    exact Nat.Coprime.dvd_of_dvd_mul_left (by rw [Nat.coprime_comm]; exact g2) this
  have hbd : b = d := by have := Nat.dvd_antisymm n1 n2; omega
  subst hbd
  have := mul_cancel (by omega) e
  rw [this]
theorem sign_same {x y z w : Int} (hz : 0 < z) (hy : 0 < y) (e : x * z = w * y) : (0 < x ↔ 0 < w) ∧ (x < 0 ↔ w < 0) := by
  rcases Int.lt_trichotomy w 0 with h | h | h
  · have h1 : w * y < 0 := Int.mul_neg_of_neg_of_pos h hy
    have : x < 0 := by
      rcases Int.lt_or_le x 0 with h | h
      · exact h
      · have := Int.mul_nonneg h (Int.le_of_lt hz)
        omega
    omega
  · subst h
    have : x = 0 := by
      have e1 : x * z = 0 := by rw [e]; omega
      rcases Int.mul_eq_zero.mp e1 with h | h
      · exact h
      · omega
    omega
  · have h1 : 0 < w * y := Int.mul_pos h hy
    have : 0 < x := by
      rcases Int.lt_or_le 0 x with h | h
      · exact h
      · have := Int.mul_nonpos_of_nonpos_of_nonneg h (Int.le_of_lt hz)
        omega
    omega
theorem frP_eq {t b c d : Int} (hb : b ≠ 0) (hd : d ≠ 0) (e : t * d = c * b) : frP t b = frP c d := by
  refine fit2_inj (frP_fit hb) (frP_fit hd) ?_
  have e1 := frP_cross (t := t) hb
  have e2 := frP_cross (t := c) hd
  generalize (frP t b).1 = x at *
  generalize (frP t b).2 = y at *
  generalize (frP c d).1 = u at *
  generalize (frP c d).2 = v at *
  refine mul_cancel (mul_ne0 hb hd) ?_
  have : x * v * (b * d) = (x * b) * v * d := by grind
  rw [this, e1]
  have : u * y * (b * d) = (u * d) * y * b := by grind
  rw [this, e2]
  grind
theorem frP_self {p : F2} (h : fit2 p) : frP p.1 p.2 = p := by
  obtain ⟨a, b⟩ := fr_self h.1 h.2
  show (frN p.1 p.2, frM p.1 p.2) = p
  rw [a, b]
theorem frP_is {t b : Int} {p : F2} (hb : b ≠ 0) (h : fit2 p) (e : t * p.2 = p.1 * b) : frP t b = p := by
  have := frP_eq (c := p.1) (d := p.2) hb (by have := h.1; omega) e
  rw [this, frP_self h]
theorem fit2.ne {p : F2} (h : fit2 p) : p.2 ≠ 0 := by have := h.1; omega
def sumF (p q : F2) : F2 := frP (p.1 * q.2 + q.1 * p.2) (p.2 * q.2)
def lessF (p q : F2) : F2 := frP (p.1 * q.2 - q.1 * p.2) (p.2 * q.2)
def timesF (p q : F2) : F2 := frP (p.1 * q.1) (p.2 * q.2)
def byF (p q : F2) : F2 := frP (p.1 * q.2) (p.2 * q.1)
theorem sumF_fit {p q : F2} (hp : fit2 p) (hq : fit2 q) : fit2 (sumF p q) := frP_fit (mul_ne0 hp.ne hq.ne)
theorem lessF_fit {p q : F2} (hp : fit2 p) (hq : fit2 q) : fit2 (lessF p q) := frP_fit (mul_ne0 hp.ne hq.ne)
theorem timesF_fit {p q : F2} (hp : fit2 p) (hq : fit2 q) : fit2 (timesF p q) := frP_fit (mul_ne0 hp.ne hq.ne)
theorem byF_fit {p q : F2} (hp : fit2 p) (hq : q.1 ≠ 0) : fit2 (byF p q) := frP_fit (mul_ne0 hp.ne hq)
theorem sumF_x {p q : F2} (hp : fit2 p) (hq : fit2 q) : (sumF p q).1 * (p.2 * q.2) = (p.1 * q.2 + q.1 * p.2) * (sumF p q).2 := frP_cross (mul_ne0 hp.ne hq.ne)
theorem lessF_x {p q : F2} (hp : fit2 p) (hq : fit2 q) : (lessF p q).1 * (p.2 * q.2) = (p.1 * q.2 - q.1 * p.2) * (lessF p q).2 := frP_cross (mul_ne0 hp.ne hq.ne)
theorem timesF_x {p q : F2} (hp : fit2 p) (hq : fit2 q) : (timesF p q).1 * (p.2 * q.2) = (p.1 * q.1) * (timesF p q).2 := frP_cross (mul_ne0 hp.ne hq.ne)
theorem byF_x {p q : F2} (hp : fit2 p) (hq : q.1 ≠ 0) : (byF p q).1 * (p.2 * q.1) = (p.1 * q.2) * (byF p q).2 := frP_cross (mul_ne0 hp.ne hq)
theorem sumF_comm (p q : F2) : sumF p q = sumF q p := by
  unfold sumF; rw [Int.add_comm, Int.mul_comm p.2]
theorem timesF_comm (p q : F2) : timesF p q = timesF q p := by
  unfold timesF; rw [Int.mul_comm p.1, Int.mul_comm p.2]
theorem sumF_assoc {p q r : F2} (hp : fit2 p) (hq : fit2 q) (hr : fit2 r) : sumF (sumF p q) r = sumF p (sumF q r) := by
  have hs := sumF_fit hp hq
  have ht := sumF_fit hq hr
  have e1 := sumF_x hp hq
  have e2 := sumF_x hq hr
  refine frP_eq (mul_ne0 hs.ne hr.ne) (mul_ne0 hp.ne ht.ne) (mul_cancel hq.ne ?_)
  generalize sumF p q = s at *
  generalize sumF q r = t at *
  grind
theorem timesF_assoc {p q r : F2} (hp : fit2 p) (hq : fit2 q) (hr : fit2 r) : timesF (timesF p q) r = timesF p (timesF q r) := by
  have hs := timesF_fit hp hq
  have ht := timesF_fit hq hr
  have e1 := timesF_x hp hq
  have e2 := timesF_x hq hr
  refine frP_eq (mul_ne0 hs.ne hr.ne) (mul_ne0 hp.ne ht.ne) (mul_cancel hq.ne ?_)
  generalize timesF p q = s at *
  generalize timesF q r = t at *
  grind
theorem timesF_sum {p q r : F2} (hp : fit2 p) (hq : fit2 q) (hr : fit2 r) : timesF (sumF p q) r = sumF (timesF p r) (timesF q r) := by
  have hs := sumF_fit hp hq
  have ht := timesF_fit hp hr
  have hu := timesF_fit hq hr
  have e1 := sumF_x hp hq
  have e2 := timesF_x hp hr
  have e3 := timesF_x hq hr
  refine frP_eq (mul_ne0 hs.ne hr.ne) (mul_ne0 ht.ne hu.ne) (mul_cancel (mul_ne0 hp.ne (mul_ne0 hq.ne hr.ne)) ?_)
  generalize sumF p q = s at *
  generalize timesF p r = t at *
  generalize timesF q r = u at *
  grind
theorem less_sum {p q : F2} (hp : fit2 p) (hq : fit2 q) : lessF (sumF p q) q = p := by
  have hs := sumF_fit hp hq
  have e1 := sumF_x hp hq
  refine frP_is (mul_ne0 hs.ne hq.ne) hp ?_
  generalize sumF p q = s at *
  grind
theorem sum_less {p q : F2} (hp : fit2 p) (hq : fit2 q) : sumF (lessF p q) q = p := by
  have hs := lessF_fit hp hq
  have e1 := lessF_x hp hq
  refine frP_is (mul_ne0 hs.ne hq.ne) hp ?_
  generalize lessF p q = s at *
  grind
theorem by_times {p q : F2} (hp : fit2 p) (hq : fit2 q) (h : q.1 ≠ 0) : byF (timesF p q) q = p := by
  have hs := timesF_fit hp hq
  have e1 := timesF_x hp hq
  refine frP_is (mul_ne0 hs.ne h) hp ?_
  generalize timesF p q = s at *
  grind
theorem times_by {p q : F2} (hp : fit2 p) (hq : fit2 q) (h : q.1 ≠ 0) : timesF (byF p q) q = p := by
  have hs := byF_fit (p := p) hp h
  have e1 := byF_x (p := p) hp h
  refine frP_is (mul_ne0 hs.ne hq.ne) hp ?_
  generalize byF p q = s at *
  grind
theorem gcd_sq {a b : Int} (h : Int.gcd a b = 1) : Int.gcd (a * a) (b * b) = 1 := by
  have h1 : Nat.Coprime a.natAbs b.natAbs := h
  show Nat.gcd (a * a).natAbs (b * b).natAbs = 1
  rw [Int.natAbs_mul, Int.natAbs_mul]
  exact Nat.Coprime.mul_left (Nat.Coprime.mul_right h1 h1) (Nat.Coprime.mul_right h1 h1)
theorem timesF_sq {p : F2} (hp : fit2 p) : timesF p p = (p.1 * p.1, p.2 * p.2) :=
  frP_is (mul_ne0 hp.ne hp.ne) ⟨Int.mul_pos hp.1 hp.1, gcd_sq hp.2⟩ rfl
/-- sizes -/
def szF (n : Nat) (p : F2) : Prop := p.1.natAbs < 2 ^ n ∧ p.2.natAbs < 2 ^ n
theorem frP_sz {t b : Int} {n : Nat} (h : b ≠ 0) (h1 : t.natAbs < 2 ^ n) (h2 : b.natAbs < 2 ^ n) : szF n (frP t b) :=
  ⟨Nat.lt_of_le_of_lt (frN_le h) h1, Nat.lt_of_le_of_lt (frM_le h) h2⟩
theorem pow_two_add {a n : Nat} (h : a < 2 ^ n) (k : a < 2 ^ n) : a + a < 2 ^ (n + 1) := by rw [Nat.pow_succ]; omega
theorem abs_add_lt {x y : Int} {n : Nat} (hx : x.natAbs < 2 ^ n) (hy : y.natAbs < 2 ^ n) : (x + y).natAbs < 2 ^ (n + 1) := by rw [Nat.pow_succ]; omega
theorem abs_sub_lt {x y : Int} {n : Nat} (hx : x.natAbs < 2 ^ n) (hy : y.natAbs < 2 ^ n) : (x - y).natAbs < 2 ^ (n + 1) := by rw [Nat.pow_succ]; omega
section
variable {p q : F2} {a b : Nat}
theorem sumF_sz (hp : fit2 p) (hq : fit2 q) (h1 : szF a p) (h2 : szF b q) : szF (a + b + 1) (sumF p q) :=
  frP_sz (mul_ne0 hp.ne hq.ne) (abs_add_lt (abs_mul_lt h1.1 h2.2 (Nat.le_refl _)) (abs_mul_lt h2.1 h1.2 (by omega))) (abs_mul_lt h1.2 h2.2 (by omega))
theorem lessF_sz (hp : fit2 p) (hq : fit2 q) (h1 : szF a p) (h2 : szF b q) : szF (a + b + 1) (lessF p q) :=
  frP_sz (mul_ne0 hp.ne hq.ne) (abs_sub_lt (abs_mul_lt h1.1 h2.2 (Nat.le_refl _)) (abs_mul_lt h2.1 h1.2 (by omega))) (abs_mul_lt h1.2 h2.2 (by omega))
theorem timesF_sz (hp : fit2 p) (hq : fit2 q) (h1 : szF a p) (h2 : szF b q) : szF (a + b + 1) (timesF p q) :=
  frP_sz (mul_ne0 hp.ne hq.ne) (abs_mul_lt h1.1 h2.1 (by omega)) (abs_mul_lt h1.2 h2.2 (by omega))
theorem byF_sz (hp : fit2 p) (hq : q.1 ≠ 0) (h1 : szF a p) (h2 : szF b q) : szF (a + b + 1) (byF p q) :=
  frP_sz (mul_ne0 hp.ne hq) (abs_mul_lt h1.1 h2.2 (by omega)) (abs_mul_lt h1.2 h2.1 (by omega))
theorem szF.s1 (h : szF a p) (k : a ≤ 3900) : sz p.1 := sz_of h.1 k
theorem szF.s2 (h : szF a p) (k : a ≤ 3900) : sz p.2 := sz_of h.2 k
theorem szF.up (h : szF a p) (k : a ≤ b) : szF b p := ⟨abs_up h.1 k, abs_up h.2 k⟩
end
/-- no square is the double of one -/
theorem no_double : ∀ (n a b : Nat), b < n → a * a = 2 * (b * b) → b = 0
  | 0, _, _, h, _ => by omega
  | n + 1, a, b, h, e => by
    rcases Nat.eq_zero_or_pos b with z | z
    · exact z
    exfalso
    have ha : a % 2 = 0 := by
      rcases Nat.mod_two_eq_zero_or_one a with h | h
      · exact h
      · have : a * a % 2 = 1 := by rw [Nat.mul_mod, h]
        omega
    obtain ⟨c, rfl⟩ : ∃ c, a = 2 * c := ⟨a / 2, by omega⟩
    have e2 : b * b = 2 * (c * c) := by
      have : 2 * c * (2 * c) = 4 * (c * c) := by grind
      omega
    have hc : c < b := by
      rcases Nat.lt_or_ge c b with y | y
      · exact y
      · have : b * b ≤ c * c := Nat.mul_le_mul y y
        have : 0 < b * b := Nat.mul_pos z z
        omega
    have := no_double n b c (by omega) e2
    subst this
    have : 0 < b * b := Nat.mul_pos z z
    omega
/-- twice a square is no square, among fractions -/
theorem no_root2 {p : F2} (hp : fit2 p) (h : p.1 ≠ 0) {r s : Int} (h1 : r * r = (timesF (timesF p p) (2, 1)).1) (h2 : s * s = (timesF (timesF p p) (2, 1)).2) : False := by
  have f2 : fit2 (2, 1) := ⟨by decide, by decide⟩
  have fs := timesF_fit hp hp
  have ft := timesF_fit fs f2
  have e := timesF_x fs f2
  have e2 := timesF_sq hp
  rw [← h1, ← h2] at e
  rw [e2] at e
  have hs : s ≠ 0 := by
    rintro rfl
    have := ft.1
    omega
  simp only at e
  have k : (r * p.2).natAbs * (r * p.2).natAbs = 2 * ((p.1 * s).natAbs * (p.1 * s).natAbs) := by
    rw [← Int.natAbs_mul, ← Int.natAbs_mul]
    have : r * p.2 * (r * p.2) = 2 * (p.1 * s * (p.1 * s)) := by grind
    rw [this, Int.natAbs_mul]
    rfl
  have := no_double _ _ _ (Nat.lt_succ_self _) k
  have := mul_ne0 h hs
  omega
end Dl

/-! The data layer, part N: rows of whole numbers kept (without a common divisor, the first that isn't 0 above 0). -/
namespace Dl
open PySem L2 PyProof.Rows
abbrev scl (s : Int) (ns : List Int) : List Int := ns.map (s * ·)
def allZ (ns : List Int) : Prop := ∀ n ∈ ns, n = 0
theorem gcd_fold (ns : List Int) : ∀ g : Nat, ∃ k : Nat, ns.foldl (fun g n => ((Int.gcd g n : Nat) : Int)) (g : Int) = (k : Int) ∧ (k : Int) ∣ (g : Int) ∧ (∀ n ∈ ns, (k : Int) ∣ n) ∧ ∀ d : Int, d ∣ (g : Int) → (∀ n ∈ ns, d ∣ n) → d ∣ (k : Int) := by
  induction ns with
  | nil => intro g; exact ⟨g, rfl, Int.dvd_refl _, fun _ h => (List.not_mem_nil h).elim, fun d h _ => h⟩
  | cons n ns ih =>
    intro g
    obtain ⟨k, e, d1, d2, d3⟩ := ih (Int.gcd g n)
    refine ⟨k, e, Int.dvd_trans d1 (Int.gcd_dvd_left ..), fun m hm => ?_, fun d h1 h2 => d3 d (Int.dvd_coe_gcd h1 (h2 n List.mem_cons_self)) fun m hm => h2 m (List.mem_cons_of_mem _ hm)⟩
    rcases List.mem_cons.mp hm with rfl | hm
    · exact Int.dvd_trans d1 (Int.gcd_dvd_right ..)
    · exact d2 m hm
theorem gcdL_nat (ns : List Int) : ∃ k : Nat, gcdL ns = (k : Int) := by
  obtain ⟨k, e, _⟩ := gcd_fold ns 0
  exact ⟨k, e⟩
theorem gcdL_nonneg (ns : List Int) : 0 ≤ gcdL ns := by obtain ⟨k, e⟩ := gcdL_nat ns; omega
theorem gcdL_dvd {ns : List Int} {n : Int} (h : n ∈ ns) : gcdL ns ∣ n := by
  obtain ⟨k, e, _, d2, _⟩ := gcd_fold ns 0
  rw [show gcdL ns = (k : Int) from e]; exact d2 n h
theorem dvd_gcdL {ns : List Int} {d : Int} (h : ∀ n ∈ ns, d ∣ n) : d ∣ gcdL ns := by
  obtain ⟨k, e, _, _, d3⟩ := gcd_fold ns 0
  rw [show gcdL ns = (k : Int) from e]; exact d3 d (Int.dvd_zero d) h
theorem gcdL_ne {ns : List Int} (h : ¬ allZ ns) : gcdL ns ≠ 0 := fun e => h fun n hn => by
  have := gcdL_dvd hn
  rw [e] at this
  exact Int.zero_dvd.mp this
theorem gcdL_scl (s : Int) (ns : List Int) : gcdL (scl s ns) = (s.natAbs : Nat) * gcdL ns := by
  have h1 : ((s.natAbs : Nat) : Int) * gcdL ns ∣ gcdL (scl s ns) := by
    refine dvd_gcdL fun n hn => ?_
    obtain ⟨m, hm, rfl⟩ := List.mem_map.mp hn
    exact Int.mul_dvd_mul (by rw [Int.natAbs_dvd]; exact Int.dvd_refl _) (gcdL_dvd hm)
  have h2 : gcdL (scl s ns) ∣ ((s.natAbs : Nat) : Int) * gcdL ns := by
    by_cases hs : s = 0
    · subst hs; simp
    · obtain ⟨t, ht⟩ : ((s.natAbs : Nat) : Int) ∣ gcdL (scl s ns) := dvd_gcdL fun n hn => by
        obtain ⟨m, hm, rfl⟩ := List.mem_map.mp hn
        rw [Int.natAbs_dvd]; exact Int.dvd_mul_right ..
      rw [ht]
      refine Int.mul_dvd_mul (Int.dvd_refl _) (dvd_gcdL fun n hn => ?_)
      have : gcdL (scl s ns) ∣ s * n := gcdL_dvd (List.mem_map.mpr ⟨n, hn, rfl⟩)
      rw [ht] at this
      have h3 : s * t ∣ s * n := by
        refine Int.dvd_trans (Int.mul_dvd_mul ?_ (Int.dvd_refl t)) this
        rw [Int.dvd_natAbs]; exact Int.dvd_refl _
      exact Int.dvd_of_mul_dvd_mul_left hs h3
  exact Int.dvd_antisymm (gcdL_nonneg _) (Int.mul_nonneg (by omega) (gcdL_nonneg _)) h2 h1
/-- the first number that isn't 0 -/
def fst0 : List Int → Int
  | [] => 0
  | n :: r => if n = 0 then fst0 r else n
def turnT : List Int → List Int → List Int
  | [], w => w
  | n :: r, w => if 0 < n then w else if n < 0 then w.map (0 - ·) else turnT r w
theorem turnT_eq (w : List Int) : ∀ ns : List Int, turnT ns w = if fst0 ns < 0 then scl (-1) w else w
  | [] => by simp [turnT, fst0]
  | n :: r => by
    have e : w.map (0 - ·) = scl (-1) w := by
      refine List.map_congr_left fun x _ => ?_
      omega
    unfold turnT fst0
    by_cases h0 : n = 0
    · subst h0; simp [turnT_eq w r]
    · by_cases h1 : 0 < n
      · have : ¬ n < 0 := by omega
        simp [h0, h1, this]
      · have : n < 0 := by omega
        simp only [h0, h1, this, if_true, if_false, e]
theorem fst0_scl {s : Int} (hs : s ≠ 0) : ∀ ns : List Int, fst0 (scl s ns) = s * fst0 ns
  | [] => by simp [fst0]
  | n :: r => by
    by_cases h : n = 0
    · subst h; simp [fst0, fst0_scl hs r]
    · have : s * n ≠ 0 := mul_ne0 hs h
      simp [fst0, h, this]
theorem fst0_ne {ns : List Int} (h : ¬ allZ ns) : fst0 ns ≠ 0 := by
  induction ns with
  | nil => exact absurd (fun _ z => by cases z) h
  | cons n r ih =>
    unfold fst0
    split
    · rename_i h0
      subst h0
      refine ih fun z => h fun m hm => ?_
      rcases List.mem_cons.mp hm with rfl | hm
      · rfl
      · exact z m hm
    · assumption
def keptL (ns : List Int) : List Int := turnT (ns.map (·.fdiv (gcdL ns))) (ns.map (·.fdiv (gcdL ns)))
/-- kept: without a common divisor, the first that isn't 0 above 0 -/
def nrm (ms : List Int) : Prop := gcdL ms = 1 ∧ 0 < fst0 ms
theorem scl_scl (a b : Int) (ns : List Int) : scl a (scl b ns) = scl (a * b) ns := by
  simp [scl, Int.mul_assoc]
theorem scl_one (ns : List Int) : scl 1 ns = ns := by simp [scl]
theorem fdiv_scl {ns : List Int} (h : gcdL ns ≠ 0) : scl (gcdL ns) (ns.map (·.fdiv (gcdL ns))) = ns := by
  unfold scl
  rw [List.map_map]
  conv => rhs; rw [← List.map_id ns]
  refine List.map_congr_left fun n hn => ?_
  exact Int.mul_fdiv_cancel_of_dvd (gcdL_dvd hn)
theorem scl_inj {s : Int} (hs : s ≠ 0) {a b : List Int} (e : scl s a = scl s b) : a = b := by
  induction a generalizing b with
  | nil => cases b with
    | nil => rfl
    | cons _ _ => simp [scl] at e
  | cons x a ih => cases b with
    | nil => simp [scl] at e
    | cons y b =>
      simp only [scl, List.map_cons, List.cons.injEq] at e
      rw [Int.eq_of_mul_eq_mul_left hs e.1, ih e.2]
/-- what keeping does -/
theorem keptL_is {ns : List Int} (h : ¬ allZ ns) : ∃ g : Int, g ≠ 0 ∧ ns = scl g (keptL ns) ∧ nrm (keptL ns) := by
  have hg := gcdL_ne h
  have hg0 := gcdL_nonneg ns
  have e := fdiv_scl hg
  unfold keptL
  generalize ns.map (·.fdiv (gcdL ns)) = ms at *
  have g1 : gcdL ms = 1 := by
    have := gcdL_scl (gcdL ns) ms
    rw [e] at this
    have e2 : ((gcdL ns).natAbs : Int) = gcdL ns := by omega
    rw [e2] at this
    have : gcdL ns * 1 = gcdL ns * gcdL ms := by omega
    exact (Int.eq_of_mul_eq_mul_left hg this).symm
  have hz : ¬ allZ ms := fun z => h (by
    rw [← e]
    intro n hn
    obtain ⟨m, hm, rfl⟩ := List.mem_map.mp hn
    rw [z m hm]; omega)
  have f0 := fst0_ne hz
  rw [turnT_eq]
  by_cases hn : fst0 ms < 0
  · rw [if_pos hn]
    refine ⟨-gcdL ns, by omega, ?_, ?_, ?_⟩
    · rw [scl_scl]; rw [show -gcdL ns * -1 = gcdL ns by omega]; exact e.symm
    · rw [gcdL_scl, g1]; rfl
    · rw [fst0_scl (by decide)]; omega
  · rw [if_neg hn]
    exact ⟨gcdL ns, hg, e.symm, g1, by omega⟩
theorem nrm_ne {ms : List Int} (h : nrm ms) : ¬ allZ ms := fun z => by
  have h1 : ∀ ms : List Int, allZ ms → fst0 ms = 0 := by
    intro ms
    induction ms with
    | nil => intro _; rfl
    | cons n r ih =>
      intro z
      unfold fst0
      rw [if_pos (z n List.mem_cons_self)]
      exact ih fun m hm => z m (List.mem_cons_of_mem _ hm)
  have := h1 ms z
  have := h.2
  omega
/-- two kept rows of which one is so many times the other are the same -/
theorem nrm_inj {a b : List Int} {p q : Int} (ha : nrm a) (hb : nrm b) (hp : p ≠ 0) (hq : q ≠ 0) (e : scl p a = scl q b) : a = b := by
  have h1 : p.natAbs = q.natAbs := by
    have := congrArg gcdL e
    rw [gcdL_scl, gcdL_scl, ha.1, hb.1] at this
    omega
  rcases Int.natAbs_eq_natAbs_iff.mp h1 with h | h
  · subst h; exact scl_inj hp e
  · subst h
    have h2 := congrArg fst0 e
    rw [fst0_scl hp, fst0_scl hq] at h2
    have h3 := ha.2
    have h4 := hb.2
    exfalso
    generalize fst0 a = x at *
    generalize fst0 b = y at *
    have : q * (x + y) = 0 := by rw [Int.mul_add]; have : -q * x = -(q * x) := Int.neg_mul ..; omega
    rcases Int.mul_eq_zero.mp this with z | z <;> omega
theorem keptL_scl {s : Int} {v : List Int} (hs : s ≠ 0) (h : ¬ allZ v) : keptL (scl s v) = keptL v := by
  obtain ⟨g, g0, e, n⟩ := keptL_is h
  have h2 : ¬ allZ (scl s v) := fun z => h fun m hm => by
    have := z (s * m) (List.mem_map.mpr ⟨m, hm, rfl⟩)
    rcases Int.mul_eq_zero.mp this with y | y
    · exact absurd y hs
    · exact y
  obtain ⟨g', g0', e', n'⟩ := keptL_is h2
  refine nrm_inj n' n g0' (mul_ne0 hs g0) ?_
  rw [← e', ← scl_scl, ← e]
theorem keptL_nrm {v : List Int} (h : nrm v) : keptL v = v := by
  obtain ⟨g, g0, e, n⟩ := keptL_is (nrm_ne h)
  exact nrm_inj n h g0 (show (1 : Int) ≠ 0 by decide) (by rw [← e, scl_one])
/-- of two rows with a common multiple the kept ones are the same -/
theorem keptL_eq {v w : List Int} {p q : Int} (hv : ¬ allZ v) (hw : ¬ allZ w) (hp : p ≠ 0) (hq : q ≠ 0) (e : scl p v = scl q w) : keptL v = keptL w := by
  rw [← keptL_scl hp hv, ← keptL_scl hq hw, e]
theorem keptL_len (ns : List Int) : (keptL ns).length = ns.length := by
  unfold keptL
  rw [turnT_eq]
  split <;> simp [scl]
/-- a tuple of whole numbers -/
abbrev tN (ns : List Int) : D := .tup (ns.map .int)
def isNum : D → Bool
  | .int _ => true
  | _ => false
theorem fit_up : ∀ (n m : Nat) (d : D), n ≤ m → fit n d = true → fit m d = true
  | n, m, .non, _, _ => fit_non m
  | n, m, .bl b, _, _ => fit_bl m b
  | n, m, .int i, _, _ => fit_int m i
  | n, m, .str x, _, h => by rw [fit_str] at h ⊢; exact h
  | n + 1, m + 1, .tup xs, l, h => by
    rw [fit_tup] at h ⊢
    exact List.all_eq_true.mpr fun x hx => fit_up n m x (by omega) (List.all_eq_true.mp h x hx)
  | n + 1, m + 1, .lst xs, l, h => by
    rw [fit_lst] at h ⊢
    exact List.all_eq_true.mpr fun x hx => fit_up n m x (by omega) (List.all_eq_true.mp h x hx)
  | 0, m, .tup xs, l, h => by simp [fit] at h
  | 0, m, .lst xs, l, h => by simp [fit] at h
  | n + 1, 0, .tup xs, l, h => by omega
  | n + 1, 0, .lst xs, l, h => by omega
  | n, m, .exc c, _, h => by cases n <;> simp [fit] at h
  | n, m, .ref c, _, h => by cases n <;> simp [fit] at h
theorem fit_tN (n : Nat) (ns : List Int) : fit (n + 1) (tN ns) = true := by
  rw [fit_tup]
  exact List.all_eq_true.mpr fun x hx => by obtain ⟨i, _, rfl⟩ := List.mem_map.mp hx; exact fit_int n i
theorem deq_tN : ∀ a b : List Int, deq (tN a) (tN b) = (a == b)
  | [], [] => by rw [deq_tup]; simp [ea_nil]
  | [], _ :: _ => by rw [deq_tup]; simp [ea_nc]
  | _ :: _, [] => by rw [deq_tup]; simp [ea_cn]
  | x :: a, y :: b => by
    have h := deq_tN a b
    rw [deq_tup] at h ⊢
    rw [List.map_cons, List.map_cons, ea_cons, h, deq_int]
    rfl
theorem intsD_map : ∀ ns : List Int, intsD (ns.map .int) = some ns
  | [] => rfl
  | n :: ns => by simp [intsD, intsD_map ns]
theorem intsD_of : ∀ (ds : List D) (ns : List Int), intsD ds = some ns → ds = ns.map .int
  | [], ns, h => by simp [intsD] at h; subst h; rfl
  | .int i :: ds, ns, h => by
    simp only [intsD, Option.map_eq_some_iff] at h
    obtain ⟨ms, h1, rfl⟩ := h
    rw [intsD_of ds ms h1]; rfl
  | .non :: _, _, h => by simp [intsD] at h
  | .bl _ :: _, _, h => by simp [intsD] at h
  | .str _ :: _, _, h => by simp [intsD] at h
  | .tup _ :: _, _, h => by simp [intsD] at h
  | .lst _ :: _, _, h => by simp [intsD] at h
  | .exc _ :: _, _, h => by simp [intsD] at h
  | .ref _ :: _, _, h => by simp [intsD] at h
theorem intsD_all : ∀ ds : List D, ds.all isNum = (intsD ds).isSome
  | [] => rfl
  | .int i :: ds => by simp [intsD, isNum, intsD_all ds]
  | .non :: _ => by simp [intsD, isNum]
  | .bl _ :: _ => by simp [intsD, isNum]
  | .str _ :: _ => by simp [intsD, isNum]
  | .tup _ :: _ => by simp [intsD, isNum]
  | .lst _ :: _ => by simp [intsD, isNum]
  | .exc _ :: _ => by simp [intsD, isNum]
  | .ref _ :: _ => by simp [intsD, isNum]
theorem blsD_map (g : D → Bool) : ∀ L : List D, blsD (L.map fun d => .bl (g d)) = some (L.map g)
  | [] => rfl
  | _ :: L => by simp [blsD, blsD_map g L]
/-- a tuple of n whole numbers -/
def rowOf (n : Nat) : D → Option (List Int)
  | .tup ds => (intsD ds).bind fun ns => if ns.length = n then some ns else none
  | _ => none
theorem rowOf_tN (ns : List Int) : rowOf ns.length (tN ns) = some ns := by simp [rowOf, intsD_map]
theorem rowOf_is {n : Nat} {d : D} {ns : List Int} (h : rowOf n d = some ns) : d = tN ns ∧ ns.length = n := by
  cases d <;> first | (simp [rowOf] at h; done) | skip
  rename_i ds
  simp only [rowOf, Option.bind_eq_some_iff] at h
  obtain ⟨ms, h1, h2⟩ := h
  split at h2
  · cases h2
    rename_i hl
    rw [intsD_of ds ns h1]
    exact ⟨rfl, hl⟩
  · cases h2
def zer (n : Nat) : List Int := List.replicate n 0
theorem zer_iff {n : Nat} {ns : List Int} (h : ns.length = n) : ns = zer n ↔ allZ ns := by
  subst h
  constructor
  · intro e x hx
    rw [e] at hx
    exact (List.mem_replicate.mp hx).2
  · intro z
    exact List.eq_replicate_iff.mpr ⟨rfl, z⟩
def areRow (n : Nat) (d : D) : Bool := match rowOf n d with
  | some ns => !(ns == zer n)
  | none => false
def isRow (n : Nat) (d : D) : Bool := match rowOf n d with
  | some ns => !(ns == zer n) && (keptL ns == ns)
  | none => false
theorem areRow_is {n : Nat} {d : D} (h : areRow n d = true) : ∃ ns, d = tN ns ∧ ns.length = n ∧ ¬ allZ ns := by
  unfold areRow at h
  cases e : rowOf n d with
  | none => rw [e] at h; cases h
  | some ns =>
    rw [e] at h
    obtain ⟨a, b⟩ := rowOf_is e
    refine ⟨ns, a, b, fun z => ?_⟩
    rw [(zer_iff b).mpr z] at h
    simp at h
theorem areRow_of {n : Nat} {ns : List Int} (h : ns.length = n) (hz : ¬ allZ ns) : areRow n (tN ns) = true := by
  subst h
  unfold areRow
  rw [rowOf_tN]
  have : ns ≠ zer ns.length := fun e => hz ((zer_iff rfl).mp e)
  simp [this]
theorem isRow_is {n : Nat} {d : D} (h : isRow n d = true) : ∃ ns, d = tN ns ∧ ns.length = n ∧ nrm ns := by
  unfold isRow at h
  cases e : rowOf n d with
  | none => rw [e] at h; cases h
  | some ns =>
    rw [e] at h
    obtain ⟨a, b⟩ := rowOf_is e
    simp only [Bool.and_eq_true, Bool.not_eq_true', beq_eq_false_iff_ne, beq_iff_eq] at h
    have hz : ¬ allZ ns := fun z => h.1 ((zer_iff b).mpr z)
    obtain ⟨g, _, _, k⟩ := keptL_is hz
    rw [h.2] at k
    exact ⟨ns, a, b, k⟩
theorem isRow_of {n : Nat} {ns : List Int} (h : ns.length = n) (k : nrm ns) : isRow n (tN ns) = true := by
  subst h
  unfold isRow
  rw [rowOf_tN]
  have : ns ≠ zer ns.length := fun e => nrm_ne k ((zer_iff rfl).mp e)
  simp [this, keptL_nrm k]
theorem isRow_eq {n : Nat} {ns : List Int} (h : ns.length = n) (hz : ¬ allZ ns) : isRow n (tN ns) = (keptL ns == ns) := by
  subst h
  unfold isRow
  rw [rowOf_tN]
  have : ns ≠ zer ns.length := fun e => hz ((zer_iff rfl).mp e)
  simp [this]
theorem isRow_are {n : Nat} {d : D} (h : areRow n d = false) : isRow n d = false := by
  unfold areRow at h
  unfold isRow
  cases e : rowOf n d with
  | none => rfl
  | some ns => rw [e] at h; simp only at h ⊢; rw [h]; rfl
/-- sizes of a row -/
def szL (b : Nat) (ns : List Int) : Prop := ∀ n ∈ ns, n.natAbs < 2 ^ b
theorem szL_gcd {b : Nat} {ns : List Int} (h : szL b ns) (hz : ¬ allZ ns) : (gcdL ns).natAbs < 2 ^ b := by
  have : ∃ n ∈ ns, n ≠ 0 := Classical.byContradiction fun z => hz fun n hn => Classical.byContradiction fun y => z ⟨n, hn, y⟩
  obtain ⟨n, hn, n0⟩ := this
  have h1 := Int.natAbs_dvd_natAbs.mpr (gcdL_dvd hn)
  exact Nat.lt_of_le_of_lt (Nat.le_of_dvd (by omega) h1) (h n hn)
theorem szL_up {a b : Nat} {ns : List Int} (h : szL a ns) (l : a ≤ b) : szL b ns := fun n hn => abs_up (h n hn) l
theorem szL_kept {b : Nat} {ns : List Int} (h : szL b ns) (hz : ¬ allZ ns) : szL b (keptL ns) := by
  obtain ⟨g, g0, e, _⟩ := keptL_is hz
  intro n hn
  have : g * n ∈ ns := by rw [e]; exact List.mem_map.mpr ⟨n, hn, rfl⟩
  exact Nat.lt_of_le_of_lt (natAbs_le_of_mul g0 rfl) (h _ this)
/-! ### triples -/
/-- the row of the three crosswise differences -/
def crs : List Int → List Int → List Int
  | [a, b, c], [x, y, z] => [b * z - c * y, c * x - a * z, a * y - b * x]
  | _, _ => []
def dot : List Int → List Int → Int
  | a :: r, b :: s => a * b + dot r s
  | _, _ => 0
theorem len3 {ns : List Int} (h : ns.length = 3) : ∃ a b c, ns = [a, b, c] := by
  match ns, h with
  | [a, b, c], _ => exact ⟨a, b, c, rfl⟩
theorem crs_len {u v : List Int} (hu : u.length = 3) (hv : v.length = 3) : (crs u v).length = 3 := by
  obtain ⟨a, b, c, rfl⟩ := len3 hu
  obtain ⟨x, y, z, rfl⟩ := len3 hv
  rfl
theorem allZ3 {a b c : Int} : allZ [a, b, c] ↔ a = 0 ∧ b = 0 ∧ c = 0 := by
  unfold allZ; simp
/-- two kept triples whose crosswise differences are all 0 are the same -/
theorem crs_zero {u v : List Int} (hu : u.length = 3) (hv : v.length = 3) (nu : nrm u) (nv : nrm v) (h : allZ (crs u v)) : u = v := by
  obtain ⟨a, b, c, rfl⟩ := len3 hu
  obtain ⟨x, y, z, rfl⟩ := len3 hv
  obtain ⟨h1, h2, h3⟩ := allZ3.mp h
  have nz := nrm_ne nu
  have mz := nrm_ne nv
  rw [allZ3] at nz mz
  have key : ∀ p q : Int, p ≠ 0 → x * p = a * q → y * p = b * q → z * p = c * q → [a, b, c] = [x, y, z] := by
    intro p q hp e1 e2 e3
    have hq : q ≠ 0 := by
      rintro rfl
      apply mz
      refine ⟨?_, ?_, ?_⟩
      · exact (Int.mul_eq_zero.mp (by omega : x * p = 0)).resolve_right hp
      · exact (Int.mul_eq_zero.mp (by omega : y * p = 0)).resolve_right hp
      · exact (Int.mul_eq_zero.mp (by omega : z * p = 0)).resolve_right hp
    refine nrm_inj nu nv hq hp ?_
    simp only [scl, List.map_cons, List.map_nil]
    rw [Int.mul_comm q a, Int.mul_comm q b, Int.mul_comm q c, Int.mul_comm p x, Int.mul_comm p y, Int.mul_comm p z, e1, e2, e3]
  by_cases ha : a = 0
  · by_cases hb : b = 0
    · have hc : c ≠ 0 := fun hc => nz ⟨ha, hb, hc⟩
      refine key c z hc (by grind) (by grind) (by grind)
    · refine key b y hb (by grind) (by grind) (by grind)
  · refine key a x ha (by grind) (by grind) (by grind)
theorem szL3 {n : Nat} {a b c : Int} : szL n [a, b, c] ↔ a.natAbs < 2 ^ n ∧ b.natAbs < 2 ^ n ∧ c.natAbs < 2 ^ n := by
  unfold szL; simp
theorem crs_sz {m n : Nat} {u v : List Int} (hu : u.length = 3) (hv : v.length = 3) (su : szL m u) (sv : szL n v) : szL (m + n + 1) (crs u v) := by
  obtain ⟨a, b, c, rfl⟩ := len3 hu
  obtain ⟨x, y, z, rfl⟩ := len3 hv
  obtain ⟨a1, a2, a3⟩ := szL3.mp su
  obtain ⟨b1, b2, b3⟩ := szL3.mp sv
  refine szL3.mpr ⟨abs_sub_lt ?_ ?_, abs_sub_lt ?_ ?_, abs_sub_lt ?_ ?_⟩ <;> exact abs_mul_lt (by assumption) (by assumption) (Nat.le_refl _)
theorem dot_crs {u v : List Int} (hu : u.length = 3) (hv : v.length = 3) : dot u (crs u v) = 0 ∧ dot v (crs u v) = 0 := by
  obtain ⟨a, b, c, rfl⟩ := len3 hu
  obtain ⟨x, y, z, rfl⟩ := len3 hv
  simp only [dot, crs]
  constructor <;> grind
theorem dot_scl (s : Int) : ∀ u v : List Int, dot u (scl s v) = s * dot u v
  | [], _ => by simp [dot]
  | _ :: _, [] => by simp [dot]
  | a :: u, b :: v => by
    have h := dot_scl s u v
    simp only [scl, List.map_cons, dot] at h ⊢
    rw [h]; grind
theorem dot_comm : ∀ u v : List Int, dot u v = dot v u
  | [], [] => rfl
  | [], _ :: _ => by simp [dot]
  | _ :: _, [] => by simp [dot]
  | a :: u, b :: v => by simp only [dot]; rw [dot_comm u v, Int.mul_comm]
theorem dot_kept {u v : List Int} (hz : ¬ allZ v) : dot u (keptL v) = 0 ↔ dot u v = 0 := by
  obtain ⟨g, g0, e, _⟩ := keptL_is hz
  constructor
  · intro h; rw [e, dot_scl, h]; omega
  · intro h
    rw [e, dot_scl] at h
    exact (Int.mul_eq_zero.mp h).resolve_left g0
end Dl

/-! The data layer, part O: points and lines, plain. -/
namespace Dl
open PySem L2 PyProof.Rows
/-- the kept row of the crosswise differences -/
def jn (u v : List Int) : List Int := keptL (crs u v)
def lin (h t : Int) (u v : List Int) : List Int := List.zipWith (fun a x => h * a + t * x) u v
theorem lin_len {h t : Int} {u v : List Int} (hu : u.length = 3) (hv : v.length = 3) : (lin h t u v).length = 3 := by
  simp [lin, hu, hv]
theorem scl_len (s : Int) (u : List Int) : (scl s u).length = u.length := by simp [scl]
theorem allZ_scl {s : Int} {u : List Int} (hs : s ≠ 0) : allZ (scl s u) ↔ allZ u := by
  constructor
  · intro z m hm
    have := z (s * m) (List.mem_map.mpr ⟨m, hm, rfl⟩)
    exact (Int.mul_eq_zero.mp this).resolve_left hs
  · intro z m hm
    obtain ⟨x, hx, rfl⟩ := List.mem_map.mp hm
    rw [z x hx]; omega
theorem allZ_scl0 {s : Int} {u : List Int} (h : ¬ allZ (scl s u)) : s ≠ 0 := fun e => h fun m hm => by
  obtain ⟨x, hx, rfl⟩ := List.mem_map.mp hm
  rw [e]; omega
section
variable {u v w : List Int} (hu : u.length = 3) (hv : v.length = 3) (hw : w.length = 3)
include hu hv in
theorem crs_comm : crs v u = scl (-1) (crs u v) := by
  obtain ⟨a, b, c, rfl⟩ := len3 hu
  obtain ⟨x, y, z, rfl⟩ := len3 hv
  simp only [crs, scl, List.map_cons, List.map_nil, List.cons.injEq, and_true]
  refine ⟨?_, ?_, ?_⟩ <;> grind
include hu hv in
theorem crs_sclr (s : Int) : crs u (scl s v) = scl s (crs u v) := by
  obtain ⟨a, b, c, rfl⟩ := len3 hu
  obtain ⟨x, y, z, rfl⟩ := len3 hv
  simp only [crs, scl, List.map_cons, List.map_nil, List.cons.injEq, and_true]
  refine ⟨?_, ?_, ?_⟩ <;> grind
include hu hv in
theorem crs_scll (s : Int) : crs (scl s u) v = scl s (crs u v) := by
  obtain ⟨a, b, c, rfl⟩ := len3 hu
  obtain ⟨x, y, z, rfl⟩ := len3 hv
  simp only [crs, scl, List.map_cons, List.map_nil, List.cons.injEq, and_true]
  refine ⟨?_, ?_, ?_⟩ <;> grind
include hu hv in
theorem crs_linr (h t : Int) : crs u (lin h t u v) = scl t (crs u v) := by
  obtain ⟨a, b, c, rfl⟩ := len3 hu
  obtain ⟨x, y, z, rfl⟩ := len3 hv
  simp only [lin, List.zipWith, crs, scl, List.map_cons, List.map_nil, List.cons.injEq, and_true]
  refine ⟨?_, ?_, ?_⟩ <;> grind
include hu hv in
theorem crs_linl (h t : Int) : crs (lin h t u v) v = scl h (crs u v) := by
  obtain ⟨a, b, c, rfl⟩ := len3 hu
  obtain ⟨x, y, z, rfl⟩ := len3 hv
  simp only [lin, List.zipWith, crs, scl, List.map_cons, List.map_nil, List.cons.injEq, and_true]
  refine ⟨?_, ?_, ?_⟩ <;> grind
include hu hv hw in
theorem dot_lin (h t : Int) : dot (lin h t u v) w = h * dot u w + t * dot v w := by
  obtain ⟨a, b, c, rfl⟩ := len3 hu
  obtain ⟨x, y, z, rfl⟩ := len3 hv
  obtain ⟨p, q, r, rfl⟩ := len3 hw
  simp only [lin, List.zipWith, dot]
  grind
include hu hv hw in
theorem crs_crs1 : crs (crs u v) (crs u w) = scl (dot w (crs u v)) u := by
  obtain ⟨a, b, c, rfl⟩ := len3 hu
  obtain ⟨x, y, z, rfl⟩ := len3 hv
  obtain ⟨p, q, r, rfl⟩ := len3 hw
  simp only [crs, dot, scl, List.map_cons, List.map_nil, List.cons.injEq, and_true]
  refine ⟨?_, ?_, ?_⟩ <;> grind
include hu hv hw in
theorem crs_crs2 : crs (crs v w) (crs u v) = scl (-dot w (crs u v)) v := by
  obtain ⟨a, b, c, rfl⟩ := len3 hu
  obtain ⟨x, y, z, rfl⟩ := len3 hv
  obtain ⟨p, q, r, rfl⟩ := len3 hw
  simp only [crs, dot, scl, List.map_cons, List.map_nil, List.cons.injEq, and_true]
  refine ⟨?_, ?_, ?_⟩ <;> grind
include hu hv hw in
theorem crs_crs3 : crs (crs u w) (crs v w) = scl (dot w (crs u v)) w := by
  obtain ⟨a, b, c, rfl⟩ := len3 hu
  obtain ⟨x, y, z, rfl⟩ := len3 hv
  obtain ⟨p, q, r, rfl⟩ := len3 hw
  simp only [crs, dot, scl, List.map_cons, List.map_nil, List.cons.injEq, and_true]
  refine ⟨?_, ?_, ?_⟩ <;> grind
end
/-- crosswise differences of kept rows, from those of the rows -/
theorem crs_kept {a b : List Int} (ha : a.length = 3) (hb : b.length = 3) (za : ¬ allZ a) (zb : ¬ allZ b) : ∃ g : Int, g ≠ 0 ∧ crs a b = scl g (crs (keptL a) (keptL b)) := by
  obtain ⟨g, g0, e, _⟩ := keptL_is za
  obtain ⟨k, k0, e', _⟩ := keptL_is zb
  have la : (keptL a).length = 3 := by rw [keptL_len]; exact ha
  have lb : (keptL b).length = 3 := by rw [keptL_len]; exact hb
  refine ⟨g * k, mul_ne0 g0 k0, ?_⟩
  conv => lhs; rw [e, e']
  rw [crs_scll la (by rw [scl_len]; exact lb), crs_sclr la lb, scl_scl]
theorem jn_of {a b e : List Int} {d : Int} (ha : a.length = 3) (hb : b.length = 3) (za : ¬ allZ a) (zb : ¬ allZ b) (d0 : d ≠ 0) (ne : nrm e) (h : crs a b = scl d e) : keptL a ≠ keptL b ∧ jn (keptL a) (keptL b) = e := by
  obtain ⟨g, g0, k⟩ := crs_kept ha hb za zb
  have la : (keptL a).length = 3 := by rw [keptL_len]; exact ha
  have z : ¬ allZ (crs (keptL a) (keptL b)) := fun z => by
    have := (allZ_scl g0).mpr z
    rw [← k, h, allZ_scl d0] at this
    exact nrm_ne ne this
  constructor
  · intro e2
    apply z
    rw [e2]
    obtain ⟨x, y, w, e3⟩ := len3 (by rw [keptL_len]; exact hb : (keptL b).length = 3)
    rw [e3]
    refine allZ3.mpr ⟨?_, ?_, ?_⟩ <;> grind
  · unfold jn
    have := keptL_eq z (nrm_ne ne) g0 d0 (by rw [← k, h])
    rw [this, keptL_nrm ne]
theorem jn_same {a b : List Int} (ha : a.length = 3) (hb : b.length = 3) (za : ¬ allZ a) (zb : ¬ allZ b) (h : allZ (crs a b)) : keptL a = keptL b := by
  obtain ⟨g, g0, k⟩ := crs_kept ha hb za zb
  rw [k, allZ_scl g0] at h
  obtain ⟨_, _, _, n1⟩ := keptL_is za
  obtain ⟨_, _, _, n2⟩ := keptL_is zb
  exact crs_zero (by rw [keptL_len]; exact ha) (by rw [keptL_len]; exact hb) n1 n2 h
/-- a kept triple of a size -/
def tri (b : Nat) (u : List Int) : Prop := u.length = 3 ∧ nrm u ∧ szL b u
theorem tri.up {a b : Nat} {u : List Int} (h : tri a u) (l : a ≤ b) : tri b u := ⟨h.1, h.2.1, szL_up h.2.2 l⟩
theorem tri_kept {b : Nat} {u : List Int} (hl : u.length = 3) (hz : ¬ allZ u) (hs : szL b u) : tri b (keptL u) := by
  obtain ⟨g, _, _, k⟩ := keptL_is hz
  exact ⟨by rw [keptL_len]; exact hl, k, szL_kept hs hz⟩
section
variable {m n k : Nat} {u v w : List Int} (tu : tri m u) (tv : tri n v) (ne : u ≠ v)
include tu tv ne in
theorem tri.crs0 : ¬ allZ (crs u v) := fun z => ne (crs_zero tu.1 tv.1 tu.2.1 tv.2.1 z)
include tu tv ne in
theorem tri.jn : tri (m + n + 1) (jn u v) := tri_kept (crs_len tu.1 tv.1) (tri.crs0 tu tv ne) (crs_sz tu.1 tv.1 tu.2.2 tv.2.2)
include tu tv ne in
theorem jn_comm : Dl.jn v u = Dl.jn u v := by
  unfold Dl.jn
  rw [crs_comm tu.1 tv.1, keptL_scl (by decide) (tri.crs0 tu tv ne)]
include tu tv ne in
theorem on_jn : dot u (Dl.jn u v) = 0 ∧ dot v (Dl.jn u v) = 0 := by
  obtain ⟨a, b⟩ := dot_crs tu.1 tv.1
  exact ⟨(dot_kept (tri.crs0 tu tv ne)).mpr a, (dot_kept (tri.crs0 tu tv ne)).mpr b⟩
include tu tv ne in
theorem on_lin {h t : Int} (hz : ¬ allZ (lin h t u v)) : dot (keptL (lin h t u v)) (Dl.jn u v) = 0 := by
  obtain ⟨a, b⟩ := on_jn tu tv ne
  rw [dot_comm, dot_kept hz, dot_comm, dot_lin tu.1 tv.1 (tri.jn tu tv ne).1, a, b]
  omega
include tu tv ne in
theorem jn_lin1 {h t : Int} (ht : t ≠ 0) (hz : ¬ allZ (lin h t u v)) (hm : keptL (lin h t u v) ≠ u) : Dl.jn u (keptL (lin h t u v)) = Dl.jn u v := by
  have ll := lin_len (h := h) (t := t) tu.1 tv.1
  obtain ⟨g, g0, e, nn⟩ := keptL_is hz
  have lk : (keptL (lin h t u v)).length = 3 := by rw [keptL_len]; exact ll
  have e2 := crs_linr tu.1 tv.1 h t
  rw [e, crs_sclr tu.1 lk] at e2
  exact keptL_eq (fun z => hm (crs_zero tu.1 lk tu.2.1 nn z).symm) (tri.crs0 tu tv ne) g0 ht e2
include tu tv ne in
theorem jn_lin2 {h t : Int} (hz : ¬ allZ (lin h t u v)) (hm : keptL (lin h t u v) ≠ v) : Dl.jn (keptL (lin h t u v)) v = Dl.jn u v := by
  have ll := lin_len (h := h) (t := t) tu.1 tv.1
  obtain ⟨g, g0, e, nn⟩ := keptL_is hz
  have lk : (keptL (lin h t u v)).length = 3 := by rw [keptL_len]; exact ll
  have e2 := crs_linl tu.1 tv.1 h t
  rw [e, crs_scll lk tv.1] at e2
  have z1 : ¬ allZ (crs (keptL (lin h t u v)) v) := fun z => hm (crs_zero lk tv.1 nn tv.2.1 z)
  have h0 : h ≠ 0 := allZ_scl0 (u := crs u v) (by rw [← e2, allZ_scl g0]; exact z1)
  exact keptL_eq z1 (tri.crs0 tu tv ne) g0 h0 e2
variable (tw : tri k w) (nu : w ≠ u) (nv : w ≠ v)
include tu tv ne tw nu nv
/-- a third on the line -/
theorem third_on (h : dot w (Dl.jn u v) = 0) : Dl.jn u w = Dl.jn u v ∧ Dl.jn v w = Dl.jn u v := by
  have c1 := tri.crs0 tu tv ne
  have c2 := tri.crs0 tu tw (Ne.symm nu)
  have c3 := tri.crs0 tv tw (Ne.symm nv)
  have d := (dot_kept c1).mp h
  refine ⟨jn_same (crs_len tu.1 tw.1) (crs_len tu.1 tv.1) c2 c1 ?_, jn_same (crs_len tv.1 tw.1) (crs_len tu.1 tv.1) c3 c1 ?_⟩
  · rw [crs_comm (crs_len tu.1 tv.1) (crs_len tu.1 tw.1), crs_crs1 tu.1 tv.1 tw.1, d, scl_scl]
    intro m hm
    obtain ⟨x, _, rfl⟩ := List.mem_map.mp hm
    omega
  · rw [crs_crs2 tu.1 tv.1 tw.1, d]
    intro m hm
    obtain ⟨x, _, rfl⟩ := List.mem_map.mp hm
    omega
/-- a third beside the line -/
theorem third_off (h : dot w (Dl.jn u v) ≠ 0) : (Dl.jn u v ≠ Dl.jn u w ∧ Dl.jn (Dl.jn u v) (Dl.jn u w) = u) ∧ (Dl.jn v w ≠ Dl.jn u v ∧ Dl.jn (Dl.jn v w) (Dl.jn u v) = v) ∧ (Dl.jn u w ≠ Dl.jn v w ∧ Dl.jn (Dl.jn u w) (Dl.jn v w) = w) := by
  have c1 := tri.crs0 tu tv ne
  have c2 := tri.crs0 tu tw (Ne.symm nu)
  have c3 := tri.crs0 tv tw (Ne.symm nv)
  have d : dot w (crs u v) ≠ 0 := fun e => h ((dot_kept c1).mpr e)
  have l1 := crs_len tu.1 tv.1
  have l2 := crs_len tu.1 tw.1
  have l3 := crs_len tv.1 tw.1
  exact ⟨jn_of l1 l2 c1 c2 d tu.2.1 (crs_crs1 tu.1 tv.1 tw.1), jn_of l3 l1 c3 c1 (by omega) tv.2.1 (crs_crs2 tu.1 tv.1 tw.1), jn_of l2 l3 c2 c3 d tw.2.1 (crs_crs3 tu.1 tv.1 tw.1)⟩
end
/-- the store is kept but for the pile -/
def kpP (p : Addr) (μ μ' : Mu) : Prop := (∃ n', μ' p = some [.int n']) ∧ ∀ b, μ b ≠ none → b ≠ p → μ' b = μ b
theorem kpP.trans {p : Addr} {μ μ1 μ2 : Mu} (h : kpP p μ μ1) (k : kpP p μ1 μ2) : kpP p μ μ2 :=
  ⟨k.1, fun b hb hp => by rw [k.2 b (by rw [h.2 b hb hp]; exact hb) hp, h.2 b hb hp]⟩
theorem kpP_take {p : Addr} {μ μ1 : Mu} {n : Int} (h : kpP p μ μ1) : kpP p μ (mset μ1 p [.int n]) :=
  ⟨⟨n, mset_same ..⟩, fun b hb hp => by rw [mset_ne _ _ hp, h.2 b hb hp]⟩
theorem kpP_refl {p : Addr} {μ : Mu} {n : Int} (h : μ p = some [.int n]) : kpP p μ μ := ⟨⟨n, h⟩, fun _ _ _ => rfl⟩
theorem kpP_self {p : Addr} {μ μ1 : Mu} (h : kpP p μ μ1) : kpP p μ1 μ1 := ⟨h.1, fun _ _ _ => rfl⟩
theorem tN_inj {a b : List Int} (e : tN a = tN b) : a = b := by
  have h3 : (a.map D.int) = b.map D.int := by injection e
  have h4 := congrArg intsD h3
  rw [intsD_map, intsD_map] at h4
  exact Option.some.inj h4
theorem lin_sz {h t : Int} {u v : List Int} {k m : Nat} (hu : u.length = 3) (hv : v.length = 3) (sh : h.natAbs < 2 ^ k) (st : t.natAbs < 2 ^ k) (su : szL m u) (sv : szL m v) : szL (k + m + 1) (lin h t u v) := by
  obtain ⟨a, b, c, rfl⟩ := len3 hu
  obtain ⟨x, y, z, rfl⟩ := len3 hv
  obtain ⟨a1, a2, a3⟩ := szL3.mp su
  obtain ⟨b1, b2, b3⟩ := szL3.mp sv
  refine szL3.mpr ⟨abs_add_lt ?_ ?_, abs_add_lt ?_ ?_, abs_add_lt ?_ ?_⟩ <;> exact abs_mul_lt (by assumption) (by assumption) (Nat.le_refl _)
theorem deq_zer {u : List Int} (h : u.length = 3) : deq (tN u) (.tup [.int 0, .int 0, .int 0]) = true ↔ allZ u := by
  rw [show D.tup [.int 0, .int 0, .int 0] = tN (zer 3) from rfl, deq_tN, beq_iff_eq]
  exact zer_iff h
theorem deq_zer_f {u : List Int} (h : u.length = 3) (hz : ¬ allZ u) : deq (tN u) (.tup [.int 0, .int 0, .int 0]) = false := by
  cases e : deq (tN u) (.tup [.int 0, .int 0, .int 0]) with
  | false => rfl
  | true => exact absurd ((deq_zer h).mp e) hz
end Dl

/-! The data layer, part P: data that can be shown as text. -/
namespace Dl
open PySem L2 PyProof.Rows
/-- signs below 0x110000 -/
def sgn (x : Str) : Prop := ∀ c ∈ x.cps.toList, c < 0x110000
theorem sgn_iff (x : Str) : PyData.strOk x = true ↔ sgn x := by
  unfold PyData.strOk sgn
  rw [Array.all_eq_true']
  constructor
  · intro h c hc
    have := h c (by simpa using hc)
    simpa using this
  · intro h c hc
    have := h c (by simpa using hc)
    simpa using this
theorem sgn_of (s : String) : sgn (Str.ofString s) := by
  intro c hc
  rw [Str.ofString_eq_toList] at hc
  simp only [List.mem_map] at hc
  obtain ⟨k, _, rfl⟩ := hc
  have := k.valid
  rcases this with h | h
  · have : k.toNat < 0xd800 := h
    omega
  · exact h.2
theorem sgn_app {x y : Str} (hx : sgn x) (hy : sgn y) : sgn (x ++ y) := by
  intro c hc
  have : c ∈ x.cps.toList ++ y.cps.toList := by
    have e : (x ++ y).cps = x.cps ++ y.cps := rfl
    rw [e] at hc
    simpa using hc
  rcases List.mem_append.mp this with h | h
  · exact hx c h
  · exact hy c h
theorem dig_lt (n : Nat) : (Nat.digitChar n).toNat < 0x110000 := by
  have := (Nat.digitChar n).valid
  rcases this with h | h
  · have : (Nat.digitChar n).toNat < 0xd800 := h
    omega
  · exact h.2
theorem char_lt (k : Char) : k.toNat < 0x110000 := by
  have := k.valid
  rcases this with h | h
  · have : k.toNat < 0xd800 := h
    omega
  · exact h.2
theorem rchar_sgn {q c : Nat} (hq : q < 0x110000) (hc : c < 0x110000) : ∀ d ∈ Builtin.Str.reprChar q c, d < 0x110000 := by
  have hx : ∀ (w : Nat) d, d ∈ (List.replicate (w - ((Nat.toDigits 16 c).map Char.toNat).length) 48 ++ (Nat.toDigits 16 c).map Char.toNat) → d < 0x110000 := by
    intro w d hd
    rcases List.mem_append.mp hd with h | h
    · have := (List.mem_replicate.mp h).2
      omega
    · obtain ⟨k, _, rfl⟩ := List.mem_map.mp h
      exact char_lt k
  unfold Builtin.Str.reprChar
  dsimp only
  repeat' split
  all_goals intro d hd
  all_goals simp only [List.mem_append, List.mem_cons, List.not_mem_nil, or_false] at hd
  all_goals first
    | (rcases hd with rfl | rfl <;> first | omega | decide)
    | (subst hd; first | omega | decide)
    | (rcases hd with h | h
       · omega
       · exact hx _ _ (by simpa only [List.mem_append] using h))
    | (rcases hd with (h | h) | h
       · omega
       · omega
       · exact hx _ _ (by simpa only [List.mem_append] using h))
    | omega
theorem rtext_sgn {x : Str} (h : sgn x) : sgn (reprText x) := by
  have hq : reprQuote x < 0x110000 := by unfold reprQuote; split <;> decide
  have key : ∀ (l : List Nat) (acc : Array Nat), (∀ c ∈ l, c < 0x110000) → (∀ c ∈ acc.toList, c < 0x110000) → ∀ c ∈ (l.foldl (fun out c => out ++ (Builtin.Str.reprChar (reprQuote x) c).toArray) acc).toList, c < 0x110000 := by
    intro l
    induction l with
    | nil => intro acc _ h; exact h
    | cons c r ih =>
      intro acc h1 h2
      simp only [List.foldl_cons]
      refine ih _ (fun d hd => h1 d (List.mem_cons_of_mem _ hd)) fun d hd => ?_
      rw [Array.toList_append] at hd
      rcases List.mem_append.mp hd with h | h
      · exact h2 d h
      · exact rchar_sgn hq (h1 c List.mem_cons_self) d h
  unfold reprText
  intro c hc
  rw [← Array.foldl_toList] at hc
  simp only [Array.toList_push, List.mem_append, List.mem_cons, List.not_mem_nil, or_false] at hc
  rcases hc with h' | h'
  · exact key _ _ h (by simpa using hq) c h'
  · omega
theorem join_sgn {s : Str} (hs : sgn s) : ∀ {ts : List Str}, (∀ t ∈ ts, sgn t) → sgn (Str.join s ts)
  | [], _ => by intro c hc; exact absurd (show c ∈ ([] : List Nat) from hc) (by simp)
  | [x], h => h x List.mem_cons_self
  | x :: y :: r, h => by
    have e : Str.join s (x :: y :: r) = x ++ s ++ Str.join s (y :: r) := rfl
    rw [e]
    exact sgn_app (sgn_app (h x List.mem_cons_self) hs) (join_sgn hs fun t ht => h t (List.mem_cons_of_mem _ ht))
theorem from_sgn : ∀ {ts : List Str} (k : Nat) {acc : Str}, sgn acc → (∀ t ∈ ts, sgn t) → sgn (textFrom k acc ts)
  | [], _, _, h, _ => h
  | t :: r, k, acc, h, ht => by
    show sgn (textFrom (k + 1) (acc ++ (if k > 0 then ", " else "" : String) ++ t) r)
    refine from_sgn _ (sgn_app (sgn_app h (sgn_of _)) (ht t List.mem_cons_self)) fun t h => ht t (List.mem_cons_of_mem _ h)
mutual
theorem shown_sgn : ∀ (n : Nat) (d : D), fit n d = true → sgn d.py.shown
  | _, .non, _ => by simp only [D.py, PyData.shown]; exact sgn_of _
  | _, .bl b, _ => by simp only [D.py, PyData.shown]; split <;> exact sgn_of _
  | _, .int i, _ => by simp only [D.py, PyData.shown]; exact sgn_of _
  | _, .str x, h => by
    rw [fit_str] at h
    simp only [D.py, PyData.shown]
    exact rtext_sgn ((sgn_iff x).mp h)
  | n + 1, .tup xs, h => by
    rw [fit_tup] at h
    simp only [D.py, PyData.shown]
    unfold tupleText
    exact sgn_app (sgn_app (sgn_of _) (join_sgn (sgn_of _) (shownA_sgn n xs h))) (sgn_of _)
  | n + 1, .lst xs, h => by
    rw [fit_lst] at h
    simp only [D.py, PyData.shown]
    unfold listText
    exact sgn_app (from_sgn _ (sgn_of _) (shownA_sgn n xs h)) (sgn_of _)
  | 0, .tup xs, h => by simp [fit] at h
  | 0, .lst xs, h => by simp [fit] at h
  | n, .exc c, h => by cases n <;> simp [fit] at h
  | n, .ref c, h => by cases n <;> simp [fit] at h
theorem shownA_sgn : ∀ (n : Nat) (xs : List D), xs.all (fit n) = true → ∀ t ∈ PyData.shownAll (pys xs), sgn t
  | _, [], _ => by simp [pys, PyData.shownAll]
  | n, x :: xs, h => by
    simp only [List.all_cons, Bool.and_eq_true] at h
    simp only [pys, PyData.shownAll, List.mem_cons]
    rintro t (rfl | ht)
    · exact shown_sgn n x h.1
    · exact shownA_sgn n xs h.2 t ht
end
theorem fit_shown {n m : Nat} {d : D} (h : fit n d = true) : fit m (.str d.py.shown) = true := by
  rw [fit_str]; exact (sgn_iff _).mpr (shown_sgn n d h)
theorem fit_of (m : Nat) (s : String) : fit m (.str (Str.ofString s)) = true := by
  rw [fit_str]; exact (sgn_iff _).mpr (sgn_of s)

/-- whole numbers below 2 ^ b, at most n deep -/
def shb (b : Nat) : Nat → D → Prop
  | _, .non => True
  | _, .bl _ => True
  | _, .int i => i.natAbs < 2 ^ b
  | _, .str x => PyData.strOk x = true
  | n + 1, .tup xs => ∀ x ∈ xs, shb b n x
  | n + 1, .lst xs => ∀ x ∈ xs, shb b n x
  | _, _ => False
mutual
/-- how long its text is at most -/
def wt (b : Nat) : D → Nat
  | .int _ => b + 2
  | .str x => 10 * x.length + 2
  | .tup xs => wts b xs + 3
  | .lst xs => wts b xs + 3
  | _ => 5
def wts (b : Nat) : List D → Nat
  | [] => 0
  | x :: xs => wt b x + 2 + wts b xs
end
theorem shb_fit {b : Nat} : ∀ (n : Nat) (d : D), shb b n d → fit n d = true := by
  intro n
  induction n with
  | zero => intro d h; cases d <;> simp_all [shb, fit]
  | succ n ih =>
    intro d h
    cases d with
    | tup xs => rw [fit_tup, List.all_eq_true]; exact fun x hx => ih x (h x hx)
    | lst xs => rw [fit_lst, List.all_eq_true]; exact fun x hx => ih x (h x hx)
    | _ => simp_all [shb, fit]
theorem log_lt {i : Int} {b : Nat} (h : i.natAbs < 2 ^ b) (hb : 0 < b) : i.natAbs.log2 < b := PySem.Flt.log2_lt_of hb h
theorem show_all {xs : List D} (h : ∀ x ∈ xs, x.py.showable = true) : PyData.showableAll (pys xs) = true := by
  induction xs with
  | nil => simp [pys, PyData.showableAll]
  | cons x r ih => simp [pys, PyData.showableAll, h x List.mem_cons_self, ih fun y hy => h y (List.mem_cons_of_mem _ hy)]
theorem shb_show {b : Nat} (h0 : 0 < b) (h1 : b ≤ 1920) : ∀ (n : Nat) (d : D), shb b n d → d.py.showable = true := by
  intro n
  induction n with
  | zero =>
    intro d h
    cases d <;> simp_all [shb, D.py, PyData.showable]
    have := log_lt h h0
    omega
  | succ n ih =>
    intro d h
    cases d with
    | tup xs => simp only [D.py, PyData.showable]; exact show_all fun x hx => ih x (h x hx)
    | lst xs => simp only [D.py, PyData.showable]; exact show_all fun x hx => ih x (h x hx)
    | int i =>
      simp only [D.py, PyData.showable]
      have := log_lt h h0
      exact decide_eq_true (by omega)
    | _ => simp_all [shb, D.py, PyData.showable]
mutual
theorem shb_wt {b : Nat} (h0 : 0 < b) : ∀ (n : Nat) (d : D), shb b n d → d.py.shown.length ≤ wt b d
  | _, .non, _ => by show (4 : Nat) ≤ _; simp [wt]
  | _, .bl c, _ => by
    have e : (PyData.shown (.bool c)).length ≤ 5 := by cases c <;> decide
    simpa [wt, D.py] using e
  | _, .int i, h => by
    have h : i.natAbs < 2 ^ b := by simpa only [shb] using h
    have := int_text_length_le (a := i) h0 (log_lt h h0)
    simp only [D.py, PyData.shown, wt]
    have e : (Str.ofString (toString i)).length = (toString i).length := by
      rw [Str.ofString_eq_toList]; simp [Str.length, String.length]
    rw [e]; omega
  | _, .str x, h => by
    have h : sgn x := (sgn_iff x).mp (by simpa only [shb] using h)
    have e := StrLaws.reprText_len x (fun c hc => Nat.lt_trans (h c hc) (by decide))
    simpa only [D.py, PyData.shown, wt] using e
  | n + 1, .tup xs, h => by
    have h1 := shbA_wt h0 n xs h
    have h2 := tupleText_len_le (PyData.shownAll (pys xs))
    simp only [D.py, PyData.shown, wt]
    have h3 : (PyData.shownAll (pys xs)).length = xs.length := shA_len xs
    omega
  | n + 1, .lst xs, h => by
    have h1 := shbA_wt h0 n xs h
    have h2 := listText_len_le (PyData.shownAll (pys xs))
    simp only [D.py, PyData.shown, wt]
    have h3 : (PyData.shownAll (pys xs)).length = xs.length := shA_len xs
    omega
  | 0, .tup xs, h => h.elim
  | 0, .lst xs, h => h.elim
  | n, .exc c, h => by cases n <;> exact h.elim
  | n, .ref c, h => by cases n <;> exact h.elim
theorem shbA_wt {b : Nat} (h0 : 0 < b) : ∀ (n : Nat) (xs : List D), (∀ x ∈ xs, shb b n x) → ((PyData.shownAll (pys xs)).map (·.length)).sum + 2 * xs.length ≤ wts b xs
  | _, [], _ => by simp [pys, PyData.shownAll, wts]
  | n, x :: xs, h => by
    have h1 := shb_wt h0 n x (h x List.mem_cons_self)
    have h2 := shbA_wt h0 n xs fun y hy => h y (List.mem_cons_of_mem _ hy)
    simp only [pys, PyData.shownAll, List.map_cons, List.sum_cons, List.length_cons, wts]
    omega
theorem shA_len : ∀ xs : List D, (PyData.shownAll (pys xs)).length = xs.length
  | [] => by simp [pys, PyData.shownAll]
  | x :: xs => by simp [pys, PyData.shownAll, shA_len xs]
end
theorem shb_up {b b' : Nat} (hb : b ≤ b') : ∀ (n m : Nat) (d : D), n ≤ m → shb b n d → shb b' m d := by
  intro n
  induction n with
  | zero =>
    intro m d hm h
    cases d <;> cases m <;> first | exact h | exact h.elim | exact abs_up h hb
  | succ n ih =>
    intro m d hm h
    cases m with
    | zero => omega
    | succ m =>
      cases d with
      | tup xs => exact fun x hx => ih m x (by omega) (h x hx)
      | lst xs => exact fun x hx => ih m x (by omega) (h x hx)
      | int i => exact abs_up h hb
      | _ => exact h
/-- data of a text of at most w signs, whole numbers below 2 ^ b -/
def shw (b n w : Nat) (d : D) : Prop := shb b n d ∧ wt b d ≤ w
section
variable {b n w : Nat} {d : D}
theorem shw.up {m v : Nat} (h : shw b n w d) (hm : n ≤ m) (hv : w ≤ v) : shw b m v d := ⟨shb_up (Nat.le_refl _) n m d hm h.1, Nat.le_trans h.2 hv⟩
theorem shw.fit {m : Nat} (h : shw b n w d) (hm : n ≤ m) : fit m d = true := fit_up n m d hm (shb_fit n d h.1)
theorem shw_int {i : Int} (h : i.natAbs < 2 ^ b) (hw : b + 2 ≤ w) : shw b n w (.int i) := ⟨by cases n <;> exact h, by simpa only [wt] using hw⟩
theorem shw_non (hw : 5 ≤ w) : shw b n w .non := ⟨by cases n <;> exact trivial, by simpa only [wt] using hw⟩
theorem shw_bl {c : Bool} (hw : 5 ≤ w) : shw b n w (.bl c) := ⟨by cases n <;> exact trivial, by simpa only [wt] using hw⟩
theorem shw_str {x : Str} (h : PyData.strOk x = true) (hw : 10 * x.length + 2 ≤ w) : shw b n w (.str x) := ⟨by cases n <;> exact h, by simpa only [wt] using hw⟩
theorem shw_lit {s : String} {k : Nat} (h : (Str.ofString s).length ≤ k) (hw : 10 * k + 2 ≤ w) : shw b n w (.str (Str.ofString s)) := shw_str ((sgn_iff _).mpr (sgn_of s)) (by omega)
theorem wts_le : ∀ {xs : List D}, (∀ x ∈ xs, wt b x ≤ w) → wts b xs ≤ xs.length * (w + 2)
  | [], _ => by simp [wts]
  | x :: xs, h => by
    have h1 := h x List.mem_cons_self
    have h2 := wts_le (xs := xs) fun y hy => h y (List.mem_cons_of_mem _ hy)
    simp only [wts, List.length_cons, Nat.add_mul]
    omega
theorem shw_tup {xs : List D} {k v : Nat} (h : ∀ x ∈ xs, shw b n w x) (hk : xs.length ≤ k) (hv : k * (w + 2) + 3 ≤ v) : shw b (n + 1) v (.tup xs) := by
  refine ⟨fun x hx => (h x hx).1, ?_⟩
  have h1 := wts_le fun x hx => (h x hx).2
  have h2 := Nat.mul_le_mul_right (w + 2) hk
  simp only [wt]
  omega
theorem shw_lst {xs : List D} {k v : Nat} (h : ∀ x ∈ xs, shw b n w x) (hk : xs.length ≤ k) (hv : k * (w + 2) + 3 ≤ v) : shw b (n + 1) v (.lst xs) := by
  refine ⟨fun x hx => (h x hx).1, ?_⟩
  have h1 := wts_le fun x hx => (h x hx).2
  have h2 := Nat.mul_le_mul_right (w + 2) hk
  simp only [wt]
  omega
theorem shw_tN {ns : List Int} {k v : Nat} (h : szL b ns) (hk : ns.length ≤ k) (hv : k * (b + 4) + 3 ≤ v) : shw b (n + 1) v (tN ns) :=
  shw_tup (w := b + 2) (fun x hx => by obtain ⟨i, hi, rfl⟩ := List.mem_map.mp hx; exact shw_int (h i hi) (Nat.le_refl _)) (by rw [List.length_map]; exact hk) (by rw [show b + 2 + 2 = b + 4 from rfl]; exact hv)
theorem shw.ints {ns : List Int} (h : shw b n w (tN ns)) : szL b ns := by
  intro i hi
  cases n with
  | zero => exact h.1.elim
  | succ n =>
    have := h.1 (.int i) (List.mem_map.mpr ⟨i, hi, rfl⟩)
    cases n <;> exact this
theorem shw.mem_t {xs : List D} {x : D} (h : shw b (n + 1) w (.tup xs)) (hx : x ∈ xs) : shb b n x := h.1 x hx
/-- str of data -/
def strD : D → Str
  | .int i => toString i
  | .str x => x
  | d => d.py.shown
theorem fit_strD {m : Nat} (h : fit n d = true) : fit m (.str (strD d)) = true := by
  cases d with
  | int i => exact fit_of m _
  | str x => rw [fit_str] at h; rw [fit_str]; exact h
  | _ => exact fit_shown h
theorem str_of {μ : Mu} {Q : Pst} (h : shw b n w d) (hb : 0 < b) (hb1 : b ≤ 1920) (hn : n ≤ 60) (hw : w ≤ 100000) (q : Q (.str (strD d)) μ) : b1D .str d μ Q := by
  have hs := shb_show hb hb1 n d h.1
  have hl := Nat.le_trans (shb_wt hb n d h.1) (Nat.le_trans h.2 hw)
  have hf := h.fit hn
  cases d with
  | int i =>
    have h1 : shb b n (.int i) := h.1
    have : i.natAbs < 2 ^ b := by cases n <;> exact h1
    exact ⟨by have := log_lt this hb; omega, q⟩
  | str x => exact q
  | exc c => have h1 := h.1; cases n <;> exact h1.elim
  | ref c => have h1 := h.1; cases n <;> exact h1.elim
  | _ => exact ⟨hf, hs, hl, q⟩
end
theorem deq_str_refl (x : Str) : deq (.str x) (.str x) = true := by rw [deq_str]; exact beq_self_eq_true x
/-! ### lists of one's own beside the pile -/
theorem kpP.loc {p d : Addr} {μ μ' : Mu} (h : kpP p μ μ') (hd : μ' d = none) : μ d = none ∧ d ≠ p := by
  have hp : d ≠ p := fun e => by obtain ⟨n, hn⟩ := h.1; rw [e, hn] at hd; cases hd
  refine ⟨?_, hp⟩
  cases e : μ d with
  | none => rfl
  | some x => rw [h.2 d (by rw [e]; exact fun h => nomatch h) hp, e] at hd; cases hd
theorem kpP.put {p d : Addr} {μ μ' : Mu} {xs : List D} (h : kpP p μ μ') (hd : μ d = none) (hp : d ≠ p) : kpP p μ (mset μ' d xs) :=
  ⟨by obtain ⟨n, hn⟩ := h.1; exact ⟨n, by rw [mset_ne _ _ (Ne.symm hp)]; exact hn⟩, fun b hb hbp => by
    have : b ≠ d := fun e => hb (by rw [e]; exact hd)
    rw [mset_ne _ _ this]; exact h.2 b hb hbp⟩
theorem kpP.new {p d : Addr} {μ μ' : Mu} {xs : List D} (h : kpP p μ μ') (hd : μ' d = none) : kpP p μ (mset μ' d xs) := h.put (h.loc hd).1 (h.loc hd).2
theorem kpP.del {p d : Addr} {μ μ' : Mu} (h : kpP p μ μ') (hd : μ d = none) (hp : d ≠ p) : kpP p μ (mdel μ' d) :=
  ⟨by obtain ⟨n, hn⟩ := h.1; exact ⟨n, by rw [mdel_ne _ (Ne.symm hp)]; exact hn⟩, fun b hb hbp => by
    have : b ≠ d := fun e => hb (by rw [e]; exact hd)
    rw [mdel_ne _ this]; exact h.2 b hb hbp⟩
theorem kpP.own {p d : Addr} {μ μ' : Mu} {xs : List D} (h : kpP p μ μ') (hd : μ d = some xs) (hp : d ≠ p) : μ' d = some xs := by
  rw [h.2 d (by rw [hd]; exact fun h => nomatch h) hp]; exact hd
theorem atI_0 {α : Type} (x : α) (xs : List α) : L2.atI (x :: xs) 0 = some x := by
  simp [L2.atI, L2.ixN]
theorem atI_1 {α : Type} (x y : α) (xs : List α) : L2.atI (x :: y :: xs) 1 = some y := by
  have h : (1 : Int) < ((x :: y :: xs).length : Nat) := by simp; omega
  simp only [L2.atI, L2.ixN, if_pos h, show (0 : Int) ≤ 1 by decide, if_true]; rfl
theorem atI_2 {α : Type} (x y z : α) (xs : List α) : L2.atI (x :: y :: z :: xs) 2 = some z := by
  have h : (2 : Int) < ((x :: y :: z :: xs).length : Nat) := by simp; omega
  simp only [L2.atI, L2.ixN, if_pos h, show (0 : Int) ≤ 2 by decide, if_true]; rfl
theorem cutD_mem {xs : List D} {lo hi : Option Int} {x : D} (h : x ∈ cutD xs lo hi) : x ∈ xs := List.mem_of_mem_drop (List.mem_of_mem_take h)
theorem cutD_len (xs : List D) (lo hi : Option Int) : (cutD xs lo hi).length ≤ xs.length := by
  unfold cutD
  simp only [List.length_take, List.length_drop]
  omega
theorem txt_len {i : Int} {b : Nat} (h : i.natAbs < 2 ^ b) (hb : 0 < b) : (Str.ofString (toString i)).length ≤ b + 2 := by
  have := shb_wt hb 0 (.int i) h
  simpa only [D.py, PyData.shown, wt] using this
theorem div2 : divOk 2 := div_ok 2 (by decide) (by decide) (by decide)
theorem keptL_alt {ns : List Int} (h : ¬ allZ ns) : ns.map (·.fdiv (if fst0 ns < 0 then 0 - gcdL ns else gcdL ns)) = keptL ns ∧ (if fst0 ns < 0 then 0 - gcdL ns else gcdL ns) ≠ 0 := by
  obtain ⟨g, g0, e, n1, n2⟩ := keptL_is h
  have hg : gcdL ns = (g.natAbs : Nat) := by conv => lhs; rw [e, gcdL_scl, n1]; 
                                             omega
  have hf : fst0 ns = g * fst0 (keptL ns) := by conv => lhs; rw [e, fst0_scl g0]
  have hb : (if fst0 ns < 0 then 0 - gcdL ns else gcdL ns) = g := by
    rw [hg, hf]
    rcases Int.lt_or_gt_of_ne g0 with k | k
    · rw [if_pos (Int.mul_neg_of_neg_of_pos k n2)]; omega
    · rw [if_neg (by have := Int.mul_pos k n2; omega)]; omega
  rw [hb]
  refine ⟨?_, g0⟩
  conv => lhs; rw [e]
  rw [List.map_map]
  have : ((fun x => x.fdiv g) ∘ fun x => g * x) = fun x : Int => x := by
    funext x
    exact Int.mul_fdiv_cancel_left x g0
  rw [this]
  simp
theorem at_last {α : Type} (M : List α) (b a : α) : L2.atI (M ++ [b, a]) (-1) = some a ∧ L2.atI (M ++ [b, a]) (-2) = some b := by
  unfold L2.atI L2.ixN
  have h1 : ((-1 : Int) + ((M ++ [b, a]).length : Nat)).toNat = M.length + 1 := by simp; omega
  have h2 : ((-2 : Int) + ((M ++ [b, a]).length : Nat)).toNat = M.length := by simp; omega
  constructor
  · rw [if_neg (by decide), if_pos (by simp; omega), h1]
    simp
  · rw [if_neg (by decide), if_pos (by simp; omega), h2]
    simp
theorem at_in {α : Type} {L : List α} {r : Int} (h0 : 0 ≤ r) (h1 : r < (L.length : Int)) : ∃ x ∈ L, L2.atI L r = some x := by
  unfold L2.atI L2.ixN
  rw [if_pos h0, if_pos h1]
  have h : r.toNat < L.length := by omega
  exact ⟨L[r.toNat], List.getElem_mem h, by simp [h]⟩
theorem at_map {α β : Type} (f : α → β) (L : List α) (i : Int) : L2.atI (L.map f) i = (L2.atI L i).map f := by
  unfold L2.atI
  rw [List.length_map]
  cases L2.ixN L.length i <;> simp
/-- the promise a def may use of itself -/
def recS (R : Nat → DSp) : Nat → DSp
  | 0 => fun _ _ _ _ => False
  | n + 1 => R n
/-- a fraction -/
def isFr : D → Bool
  | .tup [.int a, .int b] => decide (1 ≤ b) && (Int.gcd a b == 1)
  | _ => false
theorem isFr_fD {p : F2} (h : fit2 p) : isFr (fD p) = true := by
  have h1 : 1 ≤ p.2 := h.1
  simp [isFr, h1, h.2]
theorem isFr_is {x : D} (h : isFr x = true) : ∃ p, x = fD p ∧ fit2 p := by
  unfold isFr at h
  split at h
  · rename_i a b
    simp only [Bool.and_eq_true, decide_eq_true_eq, beq_iff_eq] at h
    exact ⟨(a, b), rfl, h.1, h.2⟩
  · cases h
theorem isFr_len {ds : List D} (h : ds.length ≠ 2) : isFr (.tup ds) = false := by
  cases e : isFr (.tup ds) with
  | false => rfl
  | true =>
    obtain ⟨p, e, _⟩ := isFr_is e
    cases e
    exact absurd rfl h
theorem isFr_num {x y : D} (h : isNum x = false ∨ isNum y = false) : isFr (.tup [x, y]) = false := by
  cases e : isFr (.tup [x, y]) with
  | false => rfl
  | true =>
    obtain ⟨p, e, _⟩ := isFr_is e
    cases e
    rcases h with h | h <;> cases h
theorem isNum_is {x : D} (h : isNum x = true) : ∃ i, x = .int i := by
  cases x <;> first | exact ⟨_, rfl⟩ | cases h
/-! ### filters -/
theorem lcW_filter {f : D → Mu → (Option D → Mu → Prop) → Prop} {Q : List D → Mu → Prop} (g : D → Bool) : ∀ (ds : List D) (μ : Mu), (∀ d ∈ ds, ∀ k : Option D → Mu → Prop, k (if g d = true then some d else none) μ → f d μ k) → ∀ acc : List D, Q (acc ++ ds.filter g) μ → lcW f ds acc μ Q
  | [], μ, _, acc, q => by simpa [lcW] using q
  | d :: ds, μ, h, acc, q => by
    refine h d List.mem_cons_self _ ?_
    refine lcW_filter g ds μ (fun d' hd => h d' (List.mem_cons_of_mem _ hd)) _ ?_
    cases e : g d with
    | false => simpa [e] using q
    | true => simpa [e] using q
theorem fst_filter {ns : List Int} (h : ¬ allZ ns) : (ns.filter (· != 0))[0]? = some (fst0 ns) := by
  induction ns with
  | nil => exact absurd (fun _ h => nomatch h) h
  | cons n r ih =>
    by_cases h0 : n = 0
    · subst h0
      have : ¬ allZ r := fun z => h fun m hm => by
        rcases List.mem_cons.mp hm with e | e
        · exact e
        · exact z m e
      simpa [fst0] using ih this
    · simp [fst0, h0]
/-! ### six numbers -/
def det6 : List Int → Int
  | [a, b, c, d, e, f] => 4 * a * b * c + d * e * f - a * d * d - b * e * e - c * f * f
  | _ => 0
theorem len6 {ns : List Int} (h : ns.length = 6) : ∃ a b c d e f, ns = [a, b, c, d, e, f] := by
  match ns, h with
  | [a, b, c, d, e, f], _ => exact ⟨a, b, c, d, e, f, rfl⟩
theorem szL6 {n : Nat} {a b c d e f : Int} : szL n [a, b, c, d, e, f] ↔ a.natAbs < 2 ^ n ∧ b.natAbs < 2 ^ n ∧ c.natAbs < 2 ^ n ∧ d.natAbs < 2 ^ n ∧ e.natAbs < 2 ^ n ∧ f.natAbs < 2 ^ n := by
  simp [szL]
theorem det6_ne {ns : List Int} (hl : ns.length = 6) (h : det6 ns ≠ 0) : ¬ allZ ns := fun z => h (by
  obtain ⟨a, b, c, d, e, f, rfl⟩ := len6 hl
  have ha := z a (by simp)
  have hb := z b (by simp)
  have hc := z c (by simp)
  have hd := z d (by simp)
  have he := z e (by simp)
  have hf := z f (by simp)
  subst ha hb hc hd he hf
  rfl)
/-- six whole numbers -/
def isSix (x : D) : Bool := (rowOf 6 x).isSome
/-- a curve -/
def isCv (x : D) : Bool := match rowOf 6 x with
  | some ns => det6 ns != 0 && keptL ns == ns
  | none => false
theorem isSix_is {x : D} (h : isSix x = true) : ∃ ns, x = tN ns ∧ ns.length = 6 := by
  unfold isSix at h
  cases e : rowOf 6 x with
  | none => rw [e] at h; cases h
  | some ns => exact ⟨ns, rowOf_is e⟩
theorem isSix_tN {ns : List Int} (h : ns.length = 6) : isSix (tN ns) = true := by
  unfold isSix
  rw [← h, rowOf_tN]; rfl
theorem isCv_six {x : D} (h : isSix x = false) : isCv x = false := by
  unfold isSix at h
  unfold isCv
  cases e : rowOf 6 x with
  | none => rfl
  | some ns => rw [e] at h; cases h
theorem isCv_tN {ns : List Int} (h : ns.length = 6) : isCv (tN ns) = (det6 ns != 0 && keptL ns == ns) := by
  unfold isCv
  have := rowOf_tN ns
  rw [h] at this
  rw [this]
/-- a kept curve of a size -/
def cur (b : Nat) (u : List Int) : Prop := u.length = 6 ∧ det6 u ≠ 0 ∧ nrm u ∧ szL b u
theorem isCv_is {x : D} (h : isCv x = true) : ∃ ns, x = tN ns ∧ ns.length = 6 ∧ det6 ns ≠ 0 ∧ nrm ns := by
  cases hs : isSix x with
  | false => rw [isCv_six hs] at h; cases h
  | true =>
    obtain ⟨ns, rfl, hl⟩ := isSix_is hs
    rw [isCv_tN hl] at h
    simp only [Bool.and_eq_true, bne_iff_ne, beq_iff_eq] at h
    obtain ⟨g, _, _, k⟩ := keptL_is (det6_ne hl h.1)
    rw [h.2] at k
    exact ⟨ns, rfl, hl, h.1, k⟩
theorem isCv_of {ns : List Int} (h : ns.length = 6) (hd : det6 ns ≠ 0) (hn : nrm ns) : isCv (tN ns) = true := by
  rw [isCv_tN h, keptL_nrm hn]
  simp [hd]
theorem cur.cv {b : Nat} {u : List Int} (h : cur b u) : isCv (tN u) = true := isCv_of h.1 h.2.1 h.2.2.1
theorem cur.up {a b : Nat} {u : List Int} (h : cur a u) (l : a ≤ b) : cur b u := ⟨h.1, h.2.1, h.2.2.1, szL_up h.2.2.2 l⟩
theorem det6_scl {s : Int} {u : List Int} (h : u.length = 6) : det6 (scl s u) = s * s * s * det6 u := by
  obtain ⟨a, b, c, d, e, f, rfl⟩ := len6 h
  simp only [scl, List.map_cons, List.map_nil, det6]
  grind
theorem cur_kept {b : Nat} {u : List Int} (hl : u.length = 6) (hd : det6 u ≠ 0) (hs : szL b u) : cur b (keptL u) := by
  have hz := det6_ne hl hd
  obtain ⟨g, g0, e, k⟩ := keptL_is hz
  have lk : (keptL u).length = 6 := by rw [keptL_len]; exact hl
  refine ⟨lk, fun h => hd ?_, k, szL_kept hs hz⟩
  rw [e, det6_scl lk, h, Int.mul_zero]
theorem lcW_fm {f : D → Mu → (Option D → Mu → Prop) → Prop} {Q : List D → Mu → Prop} (g : D → Option D) : ∀ (ds : List D) (μ : Mu), (∀ d ∈ ds, ∀ k : Option D → Mu → Prop, k (g d) μ → f d μ k) → ∀ acc : List D, Q (acc ++ ds.filterMap g) μ → lcW f ds acc μ Q
  | [], μ, _, acc, q => by simpa [lcW] using q
  | d :: ds, μ, h, acc, q => by
    refine h d List.mem_cons_self _ ?_
    refine lcW_fm g ds μ (fun d' hd => h d' (List.mem_cons_of_mem _ hd)) _ ?_
    cases e : g d with
    | none => simpa [e] using q
    | some x => simpa [e] using q
/-! ### the numbers of two curves -/
def slp6 : List Int → List Int
  | [a, b, c, d, e, f] => [4 * b * c - d * d, 4 * a * c - e * e, 4 * a * b - f * f, e * f - 2 * a * d, d * f - 2 * b * e, d * e - 2 * c * f]
  | _ => []
def dotL (u v : List Int) : Int := (List.zipWith (· * ·) u v).sum
/-- the determinant of t times o and i, from t to the 0 -/
def nums (o i : List Int) : Int × Int × Int × Int := (det6 i, dotL o (slp6 i), dotL i (slp6 o), det6 o)
def dscI (n : Int × Int × Int × Int) : Int := n.2.1 * n.2.1 * n.2.2.1 * n.2.2.1 - 4 * n.1 * n.2.2.1 * n.2.2.1 * n.2.2.1 - 4 * n.2.1 * n.2.1 * n.2.1 * n.2.2.2 - 27 * n.1 * n.1 * n.2.2.2 * n.2.2.2 + 18 * n.1 * n.2.1 * n.2.2.1 * n.2.2.2
theorem det6_mix {o i : List Int} (ho : o.length = 6) (hi : i.length = 6) (t : Int) : det6 (List.zipWith (fun a b => t * a + b) o i) = (nums o i).1 + (nums o i).2.1 * t + (nums o i).2.2.1 * (t * t) + (nums o i).2.2.2 * (t * t * t) := by
  obtain ⟨a, b, c, d, e, f, rfl⟩ := len6 ho
  obtain ⟨x, y, z, u, v, w, rfl⟩ := len6 hi
  simp only [List.zipWith_cons_cons, List.zipWith_nil_left, det6, nums, dotL, slp6, List.sum_cons, List.sum_nil]
  grind
/-- the store has grown at most -/
def exM (μ μ' : Mu) : Prop := ∀ b, μ b ≠ none → μ' b = μ b
theorem exM.refl (μ : Mu) : exM μ μ := fun _ _ => rfl
theorem exM.trans {μ μ1 μ2 : Mu} (h : exM μ μ1) (k : exM μ1 μ2) : exM μ μ2 := fun b hb => by rw [k b (by rw [h b hb]; exact hb), h b hb]
theorem exM.new {μ μ1 : Mu} {d : Addr} {xs : List D} (h : exM μ μ1) (hd : μ1 d = none) : exM μ (mset μ1 d xs) := fun b hb => by
  have : b ≠ d := fun e => by rw [← e, h b hb] at hd; exact hb hd
  rw [mset_ne _ _ this]; exact h b hb
theorem exM.put {μ μ1 : Mu} {d : Addr} {xs : List D} (h : exM μ μ1) (hd : μ d = none) : exM μ (mset μ1 d xs) := fun b hb => by
  have : b ≠ d := fun e => hb (by rw [e]; exact hd)
  rw [mset_ne _ _ this]; exact h b hb
theorem exM.del {μ μ1 : Mu} {d : Addr} (h : exM μ μ1) (hd : μ d = none) : exM μ (mdel μ1 d) := fun b hb => by
  have : b ≠ d := fun e => hb (by rw [e]; exact hd)
  rw [mdel_ne _ this]; exact h b hb
theorem exM.loc {μ μ1 : Mu} {d : Addr} (h : exM μ μ1) (hd : μ1 d = none) : μ d = none := by
  cases e : μ d with
  | none => rfl
  | some x => rw [h d (by rw [e]; exact fun h => nomatch h), e] at hd; cases hd
theorem exM.own {μ μ1 : Mu} {d : Addr} {xs : List D} (h : exM μ μ1) (hd : μ d = some xs) : μ1 d = some xs := by
  rw [h d (by rw [hd]; exact fun h => nomatch h)]; exact hd
theorem kpP.ex {p : Addr} {μ μ1 μ2 : Mu} (h : kpP p μ μ1) (k : exM μ1 μ2) : kpP p μ μ2 :=
  ⟨by obtain ⟨n, hn⟩ := h.1; exact ⟨n, k.own hn⟩, fun b hb hp => by rw [k b (by rw [h.2 b hb hp]; exact hb), h.2 b hb hp]⟩
theorem szL_mix {b : Nat} {t : Int} (ht : t.natAbs < 2) : ∀ {o i : List Int}, szL b o → szL b i → szL (b + 1) (List.zipWith (fun a c => t * a + c) o i)
  | [], _, _, _ => by simp [szL]
  | _ :: _, [], _, _ => by simp [szL]
  | x :: o, y :: i, ho, hi => by
    intro n hn
    simp only [List.zipWith_cons_cons, List.mem_cons] at hn
    rcases hn with rfl | hn
    · have h1 := ho x (by simp)
      have h3 : (t * x).natAbs < 2 ^ b := by
        have : t = 0 ∨ t = 1 ∨ t = -1 := by omega
        rcases this with rfl | rfl | rfl
        · simpa using Nat.two_pow_pos b
        · simpa using h1
        · simpa using h1
      exact abs_add_lt h3 (hi y (by simp))
    · exact szL_mix ht (fun n h => ho n (List.mem_cons_of_mem _ h)) (fun n h => hi n (List.mem_cons_of_mem _ h)) n hn
theorem mul3_sz {x y z : Int} {a : Nat} (hx : x.natAbs < 2 ^ a) (hy : y.natAbs < 2 ^ a) (hz : z.natAbs < 2 ^ a) : (x * y * z).natAbs < 2 ^ (3 * a) :=
  abs_mul_lt (abs_mul_lt hx hy (Nat.le_refl _)) hz (by omega)
theorem det6_sz {b : Nat} {u : List Int} (hl : u.length = 6) (hs : szL b u) : (det6 u).natAbs < 2 ^ (3 * b + 5) := by
  obtain ⟨a, b', c, d, e, f, rfl⟩ := len6 hl
  obtain ⟨s1, s2, s3, s4, s5, s6⟩ := szL6.mp hs
  have h1 := mul3_sz s1 s2 s3
  have h2 := mul3_sz s4 s5 s6
  have h3 := mul3_sz s1 s4 s4
  have h4 := mul3_sz s2 s5 s5
  have h5 := mul3_sz s3 s6 s6
  have e1 : det6 [a, b', c, d, e, f] = 4 * (a * b' * c) + d * e * f - a * d * d - b' * e * e - c * f * f := by simp only [det6]; grind
  rw [e1, Nat.pow_add]
  omega
theorem f4_sz {x y : Int} {n : Nat} (hx : x.natAbs < 2 ^ n) (hy : y.natAbs < 2 ^ n) : (4 * x - y).natAbs < 2 ^ (n + 3) := by rw [Nat.pow_add]; omega
theorem f2_sz {x y : Int} {n : Nat} (hx : x.natAbs < 2 ^ n) (hy : y.natAbs < 2 ^ n) : (x - 2 * y).natAbs < 2 ^ (n + 3) := by rw [Nat.pow_add]; omega
theorem dotS_sz {b : Nat} {u v : List Int} (hu : u.length = 6) (hv : v.length = 6) (su : szL b u) (sv : szL b v) : (dotL u (slp6 v)).natAbs < 2 ^ (3 * b + 8) := by
  obtain ⟨a, b', c, d, e, f, rfl⟩ := len6 hu
  obtain ⟨x, y, z, p, q, r, rfl⟩ := len6 hv
  obtain ⟨s1, s2, s3, s4, s5, s6⟩ := szL6.mp su
  obtain ⟨t1, t2, t3, t4, t5, t6⟩ := szL6.mp sv
  have e1 : dotL [a, b', c, d, e, f] (slp6 [x, y, z, p, q, r]) = (4 * (a * y * z) - a * p * p) + (4 * (b' * x * z) - b' * q * q) + (4 * (c * x * y) - c * r * r) + (d * q * r - 2 * (d * x * p)) + (e * p * r - 2 * (e * y * q)) + (f * p * q - 2 * (f * z * r)) := by
    simp only [dotL, slp6, List.zipWith_cons_cons, List.zipWith_nil_left, List.sum_cons, List.sum_nil]
    grind
  have h1 := f4_sz (mul3_sz s1 t2 t3) (mul3_sz s1 t4 t4)
  have h2 := f4_sz (mul3_sz s2 t1 t3) (mul3_sz s2 t5 t5)
  have h3 := f4_sz (mul3_sz s3 t1 t2) (mul3_sz s3 t6 t6)
  have h4 := f2_sz (mul3_sz s4 t5 t6) (mul3_sz s4 t1 t4)
  have h5 := f2_sz (mul3_sz s5 t4 t6) (mul3_sz s5 t2 t5)
  have h6 := f2_sz (mul3_sz s6 t4 t5) (mul3_sz s6 t3 t6)
  have k1 := abs_add_lt h1 h2
  have k2 := abs_add_lt k1 (abs_up h3 (Nat.le_succ _))
  have k3 := abs_add_lt k2 (abs_up h4 (Nat.le_trans (Nat.le_succ _) (Nat.le_succ _)))
  have k4 := abs_add_lt k3 (abs_up h5 (by omega))
  have k5 := abs_add_lt k4 (abs_up h6 (by omega))
  rw [e1]
  exact abs_up k5 (by omega)
theorem nums_sz {b : Nat} {o i : List Int} (ho : o.length = 6) (hi : i.length = 6) (so : szL b o) (si : szL b i) : (nums o i).1.natAbs < 2 ^ (3 * b + 8) ∧ (nums o i).2.1.natAbs < 2 ^ (3 * b + 8) ∧ (nums o i).2.2.1.natAbs < 2 ^ (3 * b + 8) ∧ (nums o i).2.2.2.natAbs < 2 ^ (3 * b + 8) :=
  ⟨abs_up (det6_sz hi si) (by omega), dotS_sz ho hi so si, dotS_sz hi ho si so, abs_up (det6_sz ho so) (by omega)⟩
end Dl

/-! The data layer, part Q: fractions as the rational numbers of the library. -/
namespace Dl
open PySem L2 PyProof.Rows
abbrev qF (q : Rat) : F2 := (q.num, (q.den : Int))
abbrev qD (q : Rat) : D := fD (qF q)
theorem qF_fit (q : Rat) : fit2 (qF q) := ⟨by have := q.den_nz; show (0 : Int) < (q.den : Int); omega, by
  have := q.reduced
  show Int.gcd q.num (q.den : Int) = 1
  rw [Int.gcd]
  simpa using this⟩
theorem qF_inj {a b : Rat} (e : qF a = qF b) : a = b := by
  have h1 : a.num = b.num := congrArg Prod.fst e
  have h2 : (a.den : Int) = (b.den : Int) := congrArg Prod.snd e
  exact Rat.ext h1 (by omega)
theorem qF_of {p : F2} (h : fit2 p) : ∃ q : Rat, p = qF q := by
  refine ⟨Rat.divInt p.1 p.2, ?_⟩
  have hd : p.2 ≠ 0 := h.ne
  have hq := qF_fit (Rat.divInt p.1 p.2)
  refine fit2_inj h hq ?_
  have e := Rat.num_divInt_den (Rat.divInt p.1 p.2)
  have := (Rat.divInt_eq_divInt_iff hq.ne hd).mp e
  exact this.symm
theorem frP_q {t b : Int} (hb : b ≠ 0) : frP t b = qF (Rat.divInt t b) := by
  have hq := qF_fit (Rat.divInt t b)
  refine frP_is hb hq ?_
  have e := Rat.num_divInt_den (Rat.divInt t b)
  exact ((Rat.divInt_eq_divInt_iff hq.ne hb).mp e).symm
theorem self_q (q : Rat) : q = Rat.divInt q.num (q.den : Int) := (Rat.num_divInt_den q).symm
theorem den_ne (q : Rat) : (q.den : Int) ≠ 0 := (qF_fit q).ne
theorem sumF_q (a b : Rat) : sumF (qF a) (qF b) = qF (a + b) := by
  unfold sumF
  rw [frP_q (mul_ne0 (den_ne a) (den_ne b)), ← Rat.divInt_add_divInt _ _ (den_ne a) (den_ne b), ← self_q, ← self_q]
theorem lessF_q (a b : Rat) : lessF (qF a) (qF b) = qF (a - b) := by
  unfold lessF
  rw [frP_q (mul_ne0 (den_ne a) (den_ne b)), ← Rat.divInt_sub_divInt _ _ (den_ne a) (den_ne b), ← self_q, ← self_q]
theorem timesF_q (a b : Rat) : timesF (qF a) (qF b) = qF (a * b) := by
  unfold timesF
  rw [frP_q (mul_ne0 (den_ne a) (den_ne b)), ← Rat.divInt_mul_divInt, ← self_q, ← self_q]
theorem byF_q (a b : Rat) (h : b ≠ 0) : byF (qF a) (qF b) = qF (a / b) := by
  have hn : b.num ≠ 0 := fun e => h (Rat.num_eq_zero.mp e)
  unfold byF
  rw [frP_q (mul_ne0 (den_ne a) hn), ← Rat.divInt_mul_divInt, ← self_q, ← Rat.inv_divInt, ← self_q, Rat.div_def]
theorem deq_q (a b : Rat) : deq (qD a) (qD b) = decide (a = b) := by
  rw [show qD a = tN [a.num, (a.den : Int)] from rfl, show qD b = tN [b.num, (b.den : Int)] from rfl, deq_tN]
  by_cases h : a = b
  · subst h; simp
  · simp only [h, decide_false]
    cases e : [a.num, (a.den : Int)] == [b.num, (b.den : Int)] with
    | false => rfl
    | true =>
      have := beq_iff_eq.mp e
      simp only [List.cons.injEq, and_true] at this
      exact absurd (Rat.ext this.1 (by omega)) h
theorem fit_q (n : Nat) (a : Rat) : fit (n + 1) (qD a) = true := by simp [fit_tup, fit_int]
theorem isFr_q (a : Rat) : isFr (qD a) = true := isFr_fD (qF_fit a)
theorem isFr_isq {x : D} (h : isFr x = true) : ∃ q : Rat, x = qD q := by
  obtain ⟨p, rfl, hp⟩ := isFr_is h
  obtain ⟨q, rfl⟩ := qF_of hp
  exact ⟨q, rfl⟩
theorem qD_inj {a b : Rat} (e : qD a = qD b) : a = b := by
  injection e with e
  simp only [List.cons.injEq, D.int.injEq, and_true] at e
  exact Rat.ext e.1 (by omega)
theorem q_int (i : Int) : D.tup [.int i, .int 1] = qD (i : Rat) := rfl
theorem q_zero : D.tup [.int 0, .int 1] = qD 0 := rfl
theorem q_one : D.tup [.int 1, .int 1] = qD 1 := rfl
theorem num0 {q : Rat} : q.num = 0 ↔ q = 0 := Rat.num_eq_zero
theorem num0b (q : Rat) : (q.num == 0) = decide (q = 0) := by
  by_cases h : q = 0
  · subst h; rfl
  · have : q.num ≠ 0 := fun e => h (num0.mp e)
    simp [h, this]
/-- sizes -/
def szQ (n : Nat) (q : Rat) : Prop := szF n (qF q)
section
variable {a b : Rat} {m n : Nat}
theorem szQ.up (h : szQ m a) (l : m ≤ n) : szQ n a := szF.up h l
theorem szQ_add (h : szQ m a) (k : szQ n b) : szQ (m + n + 1) (a + b) := by
  have := sumF_sz (qF_fit a) (qF_fit b) h k
  rw [sumF_q] at this; exact this
theorem szQ_sub (h : szQ m a) (k : szQ n b) : szQ (m + n + 1) (a - b) := by
  have := lessF_sz (qF_fit a) (qF_fit b) h k
  rw [lessF_q] at this; exact this
theorem szQ_mul (h : szQ m a) (k : szQ n b) : szQ (m + n) (a * b) := by
  have h1 : (a.num * b.num).natAbs < 2 ^ (m + n) := abs_mul_lt h.1 k.1 (Nat.le_refl _)
  have h2 : ((a.den : Int) * (b.den : Int)).natAbs < 2 ^ (m + n) := abs_mul_lt h.2 k.2 (Nat.le_refl _)
  have := frP_sz (mul_ne0 (den_ne a) (den_ne b)) h1 h2
  have e := timesF_q a b
  unfold timesF at e
  rw [e] at this; exact this
theorem szQ_div (h : szQ m a) (k : szQ n b) (hb : b ≠ 0) : szQ (m + n) (a / b) := by
  have hn : b.num ≠ 0 := fun e => hb (num0.mp e)
  have h1 : (a.num * (b.den : Int)).natAbs < 2 ^ (m + n) := abs_mul_lt h.1 k.2 (Nat.le_refl _)
  have h2 : ((a.den : Int) * b.num).natAbs < 2 ^ (m + n) := abs_mul_lt h.2 k.1 (Nat.le_refl _)
  have := frP_sz (mul_ne0 (den_ne a) hn) h1 h2
  have e := byF_q a b hb
  unfold byF at e
  rw [e] at this; exact this
theorem szQ_int {i : Int} (h : i.natAbs < 2 ^ n) (h1 : 0 < n) : szQ n (i : Rat) := ⟨h, by
  show ((1 : Nat) : Int).natAbs < 2 ^ n
  exact Nat.one_lt_two_pow (by omega)⟩
theorem szQ_mk {t d : Int} (hd : d ≠ 0) (h1 : t.natAbs < 2 ^ n) (h2 : d.natAbs < 2 ^ n) : szQ n (Rat.divInt t d) := by
  have := frP_sz hd h1 h2
  rw [frP_q hd] at this; exact this
end
end Dl

/-! The data layer, part R: constants of the module. -/
namespace Dl
open PySem L2 PyProof.Rows
mutual
inductive KDx (K : PySem.W.Frag) : Value → D → Prop
  | non : KDx K .none .non
  | bl (b : Bool) : KDx K (.bool b) (.bl b)
  | int (i : Int) (t : Tok) : KDx K (.int i t) (.int i)
  | str (x : Str) (t : Tok) : KDx K (.str x t) (.str x)
  | tup {a : Addr} {od : Option Addr} {its : Array Value} {n : Nat} {sl : Array (Option Value)} {ds : List D} : K.lookup a = some ⟨.type "tuple", od, .seq its n, sl⟩ → its.size ≤ sizeLine → KDxA K its.toList ds → KDx K (.ref a) (.tup ds)
  | lst {a : Addr} {its : Array Value} {n : Nat} {sl : Array (Option Value)} {ds : List D} : K.lookup a = some ⟨.type "list", none, .seq its n, sl⟩ → its.size ≤ sizeLine → KDxA K its.toList ds → KDx K (.ref a) (.lst ds)
inductive KDxA (K : PySem.W.Frag) : List Value → List D → Prop
  | nil : KDxA K [] []
  | cons {v : Value} {vs : List Value} {d : D} {ds : List D} : KDx K v d → KDxA K vs ds → KDxA K (v :: vs) (d :: ds)
end
section
variable {K : PySem.W.Frag} {CA : Nat → Addr}
mutual
theorem KDx.dx : ∀ {u : Value} {d : D}, KDx K u d → ∃ v, RelV v u ∧ ∀ F, Dx K CA F v d
  | _, _, .non => ⟨.non, rfl, fun _ => .non⟩
  | _, _, .bl b => ⟨.bl b, rfl, fun _ => .bl b⟩
  | _, _, .int i t => ⟨.int i, ⟨t, rfl⟩, fun _ => .int i⟩
  | _, _, .str x t => ⟨.str x, ⟨t, rfl⟩, fun _ => .str x⟩
  | _, _, .tup (a := a) h s r => by
    obtain ⟨vs, h1, h2⟩ := KDxA.dx r
    exact ⟨.ref a, rfl, fun F => .tup (.inr ⟨_, _, _, h, rfl, rfl, s, h1⟩) (h2 F)⟩
  | _, _, .lst (a := a) h s r => by
    obtain ⟨vs, h1, h2⟩ := KDxA.dx r
    exact ⟨.ref a, rfl, fun F => .lst (.inr ⟨_, _, _, h, rfl, rfl, rfl, s, h1⟩) (h2 F)⟩
theorem KDxA.dx : ∀ {us : List Value} {ds : List D}, KDxA K us ds → ∃ vs, Vals vs us ∧ ∀ F, DxA K CA F vs ds
  | _, _, .nil => ⟨[], .nil, fun _ => .nil⟩
  | _, _, .cons h t => by
    obtain ⟨v, a1, a2⟩ := KDx.dx h
    obtain ⟨vs, b1, b2⟩ := KDxA.dx t
    exact ⟨v :: vs, .cons a1 b1, fun F => .cons (a2 F) (b2 F)⟩
end
end
/-- a constant by the known part of the heap -/
def KG (K : PySem.W.Frag) (x : Str) (d : D) : Prop := ∃ u, PySem.W.nsIn K mainGlobals x = some (some u) ∧ KDx K u d
theorem glS_of {K : PySem.W.Frag} {CA : Nat → Addr} {mg : Str → Option Value} {h : Heap} {x : Str} {d : D} (X : K.In h) (G : h.Ns mainGlobals mg) (g : KG K x d) : GlS CA K mg x d := by
  obtain ⟨u, e, k⟩ := g
  obtain ⟨v, a, b⟩ := KDx.dx (CA := CA) k
  exact ⟨u, v, PySem.W.mg_of X G e, a, b⟩
theorem KG.ofRef {K : PySem.W.Frag} {x : Str} {a : Addr} {d : D} (h : PySem.W.nsIn K mainGlobals x = some (some (.ref a))) (k : KDx K (.ref a) d) : KG K x d := ⟨_, h, k⟩
theorem KG.ofInt {K : PySem.W.Frag} {x : Str} {i : Int} {t : Tok} (h : PySem.W.nsIn K mainGlobals x = some (some (.int i t))) : KG K x (.int i) := ⟨_, h, .int i t⟩
theorem KG.ofStr {K : PySem.W.Frag} {x : Str} {i : Str} {t : Tok} (h : PySem.W.nsIn K mainGlobals x = some (some (.str i t))) : KG K x (.str i) := ⟨_, h, .str i t⟩
end Dl

/-! The data layer, part S: rows of fractions as rows of whole numbers. -/
namespace Dl
open PySem L2 PyProof.Rows
def dpr (vs : List Rat) : Int := vs.foldl (fun s v => s * (v.den : Int)) 1
theorem dpr_snoc (vs : List Rat) (v : Rat) : dpr (vs ++ [v]) = dpr vs * (v.den : Int) := by simp [dpr]
theorem foldl_dvd (d : Int) : ∀ (vs : List Rat) (s : Int), d ∣ s → d ∣ vs.foldl (fun s v => s * (v.den : Int)) s
  | [], _, h => h
  | v :: vs, s, h => foldl_dvd d vs (s * (v.den : Int)) (Int.dvd_trans h (Int.dvd_mul_right ..))
theorem dpr_dvd : ∀ {vs : List Rat} {v : Rat} {s : Int}, v ∈ vs → (v.den : Int) ∣ vs.foldl (fun s v => s * (v.den : Int)) s
  | w :: vs, v, s, h => by
    rcases List.mem_cons.mp h with rfl | h
    · exact foldl_dvd _ vs _ (Int.dvd_mul_left ..)
    · show (v.den : Int) ∣ vs.foldl (fun s v => s * (v.den : Int)) (s * (w.den : Int))
      exact dpr_dvd h
theorem foldl_pos : ∀ (vs : List Rat) (s : Int), 0 < s → 0 < vs.foldl (fun s v => s * (v.den : Int)) s
  | [], _, h => h
  | v :: vs, s, h => foldl_pos vs _ (Int.mul_pos h (qF_fit v).1)
theorem dpr_pos (vs : List Rat) : 0 < dpr vs := foldl_pos vs 1 (by decide)
theorem num_q (v : Rat) : (v.num : Rat) = v * ((v.den : Int) : Rat) := by
  have h := self_q v
  have hd : ((v.den : Int) : Rat) ≠ 0 := fun e => den_ne v (Rat.intCast_inj.mp (by rw [e]; rfl))
  rw [Rat.divInt_eq_div] at h
  grind
def wsx (vs : List Rat) : List Int := vs.map fun v => v.num * (dpr vs).fdiv (v.den : Int)
theorem wsx_q {vs : List Rat} {v : Rat} (h : v ∈ vs) : ((v.num * (dpr vs).fdiv (v.den : Int) : Int) : Rat) = (dpr vs : Rat) * v := by
  obtain ⟨c, hc⟩ : (v.den : Int) ∣ dpr vs := dpr_dvd h
  have hd := den_ne v
  have hd' : ((v.den : Int) : Rat) ≠ 0 := fun e => hd (Rat.intCast_inj.mp (by rw [e]; rfl))
  rw [hc, Int.mul_fdiv_cancel_left c hd, Rat.intCast_mul, Rat.intCast_mul, num_q]
  grind
theorem dpr_sz {b : Nat} : ∀ (vs : List Rat) (s : Int) (a : Nat), s.natAbs < 2 ^ a → (∀ v ∈ vs, szQ b v) → (vs.foldl (fun s v => s * (v.den : Int)) s).natAbs < 2 ^ (a + b * vs.length)
  | [], s, a, h, _ => by simpa using h
  | v :: vs, s, a, h, hv => by
    have h1 : (s * (v.den : Int)).natAbs < 2 ^ (a + b) := abs_mul_lt h (hv v (by simp)).2 (Nat.le_refl _)
    have := dpr_sz vs (s * (v.den : Int)) (a + b) h1 fun w hw => hv w (List.mem_cons_of_mem _ hw)
    rw [List.length_cons, Nat.mul_add, Nat.mul_one, show a + (b * vs.length + b) = a + b + b * vs.length by omega]
    exact this
theorem wsx_sz {b : Nat} {vs : List Rat} (hv : ∀ v ∈ vs, szQ b v) : szL (1 + b * vs.length + b) (wsx vs) := by
  intro n hn
  obtain ⟨v, h, rfl⟩ := List.mem_map.mp hn
  have h1 := dpr_sz vs 1 1 (by decide) hv
  obtain ⟨c, hc⟩ : (v.den : Int) ∣ dpr vs := dpr_dvd h
  have hd := den_ne v
  have h2 : ((dpr vs).fdiv (v.den : Int)).natAbs < 2 ^ (1 + b * vs.length) := by
    rw [hc, Int.mul_fdiv_cancel_left c hd]
    have : dpr vs = (v.den : Int) * c := hc
    refine Nat.lt_of_le_of_lt ?_ h1
    show c.natAbs ≤ (dpr vs).natAbs
    exact natAbs_le_of_mul hd hc.symm
  exact abs_mul_lt (hv v h).1 h2 (by omega)
end Dl

/-! The data layer, part T: a purse of two numbers. -/
namespace Dl
open PySem L2 PyProof.Rows
/-- the store is kept but for the purse -/
def kpU (p : Addr) (μ μ' : Mu) : Prop := (∃ a b : Int, μ' p = some [.int a, .int b]) ∧ ∀ b, μ b ≠ none → b ≠ p → μ' b = μ b
theorem kpU.trans {p : Addr} {μ μ1 μ2 : Mu} (h : kpU p μ μ1) (k : kpU p μ1 μ2) : kpU p μ μ2 :=
  ⟨k.1, fun b hb hp => by rw [k.2 b (by rw [h.2 b hb hp]; exact hb) hp, h.2 b hb hp]⟩
theorem kpU_take {p : Addr} {μ μ1 : Mu} {m n : Int} (h : kpU p μ μ1) : kpU p μ (mset μ1 p [.int m, .int n]) :=
  ⟨⟨m, n, mset_same ..⟩, fun b hb hp => by rw [mset_ne _ _ hp, h.2 b hb hp]⟩
theorem kpU_refl {p : Addr} {μ : Mu} (h : ∃ m n : Int, μ p = some [.int m, .int n]) : kpU p μ μ := ⟨h, fun _ _ _ => rfl⟩
theorem kpU.loc {p d : Addr} {μ μ' : Mu} (h : kpU p μ μ') (hd : μ' d = none) : μ d = none ∧ d ≠ p := by
  have hp : d ≠ p := fun e => by obtain ⟨m, n, hn⟩ := h.1; rw [e, hn] at hd; cases hd
  refine ⟨?_, hp⟩
  cases e : μ d with
  | none => rfl
  | some x => rw [h.2 d (by rw [e]; exact fun h => nomatch h) hp, e] at hd; cases hd
theorem kpU.put {p d : Addr} {μ μ' : Mu} {xs : List D} (h : kpU p μ μ') (hd : μ d = none) (hp : d ≠ p) : kpU p μ (mset μ' d xs) :=
  ⟨by obtain ⟨m, n, hn⟩ := h.1; exact ⟨m, n, by rw [mset_ne _ _ (Ne.symm hp)]; exact hn⟩, fun b hb hbp => by
    have : b ≠ d := fun e => hb (by rw [e]; exact hd)
    rw [mset_ne _ _ this]; exact h.2 b hb hbp⟩
theorem kpU.new {p d : Addr} {μ μ' : Mu} {xs : List D} (h : kpU p μ μ') (hd : μ' d = none) : kpU p μ (mset μ' d xs) := h.put (h.loc hd).1 (h.loc hd).2
theorem kpU.del {p d : Addr} {μ μ' : Mu} (h : kpU p μ μ') (hd : μ d = none) (hp : d ≠ p) : kpU p μ (mdel μ' d) :=
  ⟨by obtain ⟨m, n, hn⟩ := h.1; exact ⟨m, n, by rw [mdel_ne _ (Ne.symm hp)]; exact hn⟩, fun b hb hbp => by
    have : b ≠ d := fun e => hb (by rw [e]; exact hd)
    rw [mdel_ne _ this]; exact h.2 b hb hbp⟩
theorem kpU.own {p d : Addr} {μ μ' : Mu} {xs : List D} (h : kpU p μ μ') (hd : μ d = some xs) (hp : d ≠ p) : μ' d = some xs := by
  rw [h.2 d (by rw [hd]; exact fun h => nomatch h) hp]; exact hd
theorem kpU.ex {p : Addr} {μ μ1 μ2 : Mu} (h : kpU p μ μ1) (k : exM μ1 μ2) : kpU p μ μ2 :=
  ⟨by obtain ⟨m, n, hn⟩ := h.1; exact ⟨m, n, k.own hn⟩, fun b hb hp => by rw [k b (by rw [h.2 b hb hp]; exact hb), h.2 b hb hp]⟩
theorem cutD_ints (ns : List Int) (lo hi : Option Int) : ∃ c : List Int, cutD (ns.map .int) lo hi = c.map .int ∧ c.length ≤ ns.length := by
  unfold cutD
  rw [List.length_map]
  refine ⟨(ns.drop (HT.sIx ns.length 0 lo)).take (HT.sIx ns.length ns.length hi - HT.sIx ns.length 0 lo), by simp, ?_⟩
  rw [List.length_take, List.length_drop]
  omega
theorem ifD_at {L : List D} {r : Int} {P : D → Prop} (h0 : 0 ≤ r) (h1 : r < (L.length : Int)) (h : ∀ x ∈ L, P x) : ifD (L2.atI L r) P := by
  obtain ⟨x, hx, e⟩ := at_in h0 h1
  rw [e]
  exact h x hx
theorem isFr_two (t : Int) : isFr (.tup [.int (2 * t + 2), .int 2]) = false := by
  have : Int.gcd (2 * t + 2) 2 = 2 := by
    rw [show (2 * t + 2) = 2 * (t + 1) by omega, Int.gcd_mul_right_left]
    rfl
  simp [isFr, this]
theorem isFr_low {t b : Int} (h : b < 1) : isFr (.tup [.int t, .int b]) = false := by
  have : ¬ 1 ≤ b := by omega
  simp [isFr, this]
theorem rden_ne (v : Rat) : ((v.den : Int) : Rat) ≠ 0 := fun e => den_ne v (Rat.intCast_inj.mp (by rw [e]; rfl))
theorem rint_ne {i : Int} (h : i ≠ 0) : (i : Rat) ≠ 0 := fun e => h (Rat.intCast_inj.mp (by rw [e]; rfl))
theorem num_pos {v : Rat} (h : 0 < v) : 0 < v.num := by
  have := (Rat.lt_iff 0 v).mp h
  simpa using this
theorem den_pos (v : Rat) : (0 : Int) < (v.den : Int) := (qF_fit v).1
theorem scl_rat {s t : Rat} {p q : Int} (h : (p : Rat) * s = (q : Rat) * t) : ∀ {xs : List Rat} {v w : List Int}, v.map (fun i : Int => (i : Rat)) = xs.map (s * ·) → w.map (fun i : Int => (i : Rat)) = xs.map (t * ·) → scl p v = scl q w
  | [], v, w, hv, hw => by
    cases v with
    | cons => simp at hv
    | nil => cases w with
      | cons => simp at hw
      | nil => rfl
  | x :: xs, [], w, hv, hw => by simp at hv
  | x :: xs, a :: v, [], hv, hw => by simp at hw
  | x :: xs, a :: v, b :: w, hv, hw => by
    simp only [List.map_cons, List.cons.injEq] at hv hw
    simp only [scl, List.map_cons, List.cons.injEq]
    refine ⟨?_, scl_rat h hv.2 hw.2⟩
    refine Rat.intCast_inj.mp ?_
    rw [Rat.intCast_mul, Rat.intCast_mul, hv.1, hw.1]
    grind
theorem kept_rat {xs : List Rat} {v w : List Int} {s t : Rat} (hs : s ≠ 0) (ht : t ≠ 0) (hv : v.map (fun i : Int => (i : Rat)) = xs.map (s * ·)) (hw : w.map (fun i : Int => (i : Rat)) = xs.map (t * ·)) (zv : ¬ allZ v) (zw : ¬ allZ w) : keptL v = keptL w := by
  have r0 : t / s ≠ 0 := by grind
  have h1 := num_q (t / s)
  have h2 := rden_ne (t / s)
  refine keptL_eq (p := (t / s).num) (q := ((t / s).den : Int)) zv zw (fun e => r0 (num0.mp e)) (den_ne _) (scl_rat ?_ hv hw)
  rw [h1]
  generalize (((t / s).den : Int) : Rat) = z at *
  grind
theorem wsx_map (vs : List Rat) : (wsx vs).map (fun i : Int => (i : Rat)) = vs.map ((dpr vs : Rat) * ·) := by
  unfold wsx
  rw [List.map_map]
  exact List.map_congr_left fun v hv => wsx_q hv
theorem dpr_ne (vs : List Rat) : ((dpr vs : Int) : Rat) ≠ 0 := rint_ne (by have := dpr_pos vs; omega)
theorem wsx_z {vs : List Rat} {v : Rat} (h : v ∈ vs) (h0 : v ≠ 0) : ¬ allZ (wsx vs) := fun z => by
  have := z (v.num * (dpr vs).fdiv (v.den : Int)) (by unfold wsx; exact List.mem_map.mpr ⟨v, h, rfl⟩)
  have h1 := wsx_q h
  rw [this] at h1
  have h2 := dpr_ne vs
  have : ((0 : Int) : Rat) = 0 := rfl
  grind
/-! sizes by themselves -/
theorem mul_ok' {x y : Int} {a b : Nat} (h1 : x.natAbs < 2 ^ a) (h2 : y.natAbs < 2 ^ b) (h : a + b ≤ 120000000) : mulOk x y := mul_ok a b h1 h2 h
theorem szm {x y : Int} {a b : Nat} (h1 : x.natAbs < 2 ^ a) (h2 : y.natAbs < 2 ^ b) : (x * y).natAbs < 2 ^ (a + b) := abs_mul_lt h1 h2 (Nat.le_refl _)
theorem sza {x y : Int} {a b : Nat} (h1 : x.natAbs < 2 ^ a) (h2 : y.natAbs < 2 ^ b) : (x + y).natAbs < 2 ^ (max a b + 1) := by
  have h3 : 2 ^ a ≤ 2 ^ max a b := Nat.pow_le_pow_right (by decide) (Nat.le_max_left ..)
  have h4 : 2 ^ b ≤ 2 ^ max a b := Nat.pow_le_pow_right (by decide) (Nat.le_max_right ..)
  rw [Nat.pow_succ]
  omega
theorem szs {x y : Int} {a b : Nat} (h1 : x.natAbs < 2 ^ a) (h2 : y.natAbs < 2 ^ b) : (x - y).natAbs < 2 ^ (max a b + 1) := by
  have h3 : 2 ^ a ≤ 2 ^ max a b := Nat.pow_le_pow_right (by decide) (Nat.le_max_left ..)
  have h4 : 2 ^ b ≤ 2 ^ max a b := Nat.pow_le_pow_right (by decide) (Nat.le_max_right ..)
  rw [Nat.pow_succ]
  omega
theorem szn {x : Int} {a : Nat} (h1 : x.natAbs < 2 ^ a) : (-x).natAbs < 2 ^ a := by rw [Int.natAbs_neg]; exact h1
end Dl

/-! The data layer, part U: curves of second kind in plain numbers. -/
namespace Dl
open PySem L2 PyProof.Rows
def wor : List Int → List Int → Int
  | [a, b, c, d, e, f], [x, y, z] => a * x * x + b * y * y + c * z * z + d * y * z + e * x * z + f * x * y
  | _, _ => 0
def addL (u v : List Int) : List Int := List.zipWith (· + ·) u v
def bot (s u v : List Int) : Int := wor s (addL u v) - wor s u - wor s v
def dual6 : List Int → List Int
  | [a, b, c, d, e, f] => [4 * b * c - d * d, 4 * a * c - e * e, 4 * a * b - f * f, 2 * e * f - 4 * a * d, 2 * d * f - 4 * b * e, 2 * d * e - 4 * c * f]
  | _ => []
theorem dual_len {u : List Int} (h : u.length = 6) : (dual6 u).length = 6 := by
  obtain ⟨a, b, c, d, e, f, rfl⟩ := len6 h; rfl
theorem dual_dual {u : List Int} (h : u.length = 6) : dual6 (dual6 u) = scl (16 * det6 u) u := by
  obtain ⟨a, b, c, d, e, f, rfl⟩ := len6 h
  simp only [dual6, scl, det6, List.map_cons, List.map_nil, List.cons.injEq, and_true]
  refine ⟨by grind, by grind, by grind, by grind, by grind, by grind⟩
theorem det_dual {u : List Int} (h : u.length = 6) : det6 (dual6 u) = 16 * (det6 u * det6 u) := by
  obtain ⟨a, b, c, d, e, f, rfl⟩ := len6 h
  simp only [dual6, det6]
  grind
theorem det_scl (k : Int) {u : List Int} (h : u.length = 6) : det6 (scl k u) = k * k * k * det6 u := by
  obtain ⟨a, b, c, d, e, f, rfl⟩ := len6 h
  simp only [scl, det6, List.map_cons, List.map_nil]
  grind
theorem dual_scl (k : Int) {u : List Int} (h : u.length = 6) : dual6 (scl k u) = scl (k * k) (dual6 u) := by
  obtain ⟨a, b, c, d, e, f, rfl⟩ := len6 h
  simp only [scl, dual6, List.map_cons, List.map_nil, List.cons.injEq, and_true]
  refine ⟨by grind, by grind, by grind, by grind, by grind, by grind⟩
theorem wor_scl (k : Int) {u p : List Int} (h : u.length = 6) (hp : p.length = 3) : wor (scl k u) p = k * wor u p := by
  obtain ⟨a, b, c, d, e, f, rfl⟩ := len6 h
  obtain ⟨x, y, z, rfl⟩ := len3 hp
  simp only [scl, wor, List.map_cons, List.map_nil]
  grind
theorem wor_sclp (k : Int) {u p : List Int} (h : u.length = 6) (hp : p.length = 3) : wor u (scl k p) = k * k * wor u p := by
  obtain ⟨a, b, c, d, e, f, rfl⟩ := len6 h
  obtain ⟨x, y, z, rfl⟩ := len3 hp
  simp only [scl, wor, List.map_cons, List.map_nil]
  grind
theorem det_z {u : List Int} (h : u.length = 6) (hd : det6 u ≠ 0) : ¬ allZ u := fun z => by
  obtain ⟨a, b, c, d, e, f, rfl⟩ := len6 h
  have h1 := z a (by simp)
  have h2 := z b (by simp)
  have h3 := z c (by simp)
  have h4 := z d (by simp)
  have h5 := z e (by simp)
  have h6 := z f (by simp)
  subst h1 h2 h3 h4 h5 h6
  exact hd rfl
theorem det_keptL {u : List Int} (h : u.length = 6) (hd : det6 u ≠ 0) : det6 (keptL u) ≠ 0 := by
  obtain ⟨g, g0, e, _⟩ := keptL_is (det_z h hd)
  intro z
  rw [e, det_scl g (by rw [keptL_len]; exact h), z] at hd
  simp at hd
theorem wor_keptL {u p : List Int} (h : u.length = 6) (hp : p.length = 3) (hz : ¬ allZ u) : wor (keptL u) p = 0 ↔ wor u p = 0 := by
  obtain ⟨g, g0, e, _⟩ := keptL_is hz
  have e2 : wor u p = g * wor (keptL u) p := by
    conv => lhs; rw [e]
    exact wor_scl g (by rw [keptL_len]; exact h) hp
  rw [e2]
  exact ⟨fun z => by rw [z]; simp, fun z => (Int.mul_eq_zero.mp z).resolve_left g0⟩
theorem wor_keptP {u p : List Int} (h : u.length = 6) (hp : p.length = 3) (hz : ¬ allZ p) : wor u (keptL p) = 0 ↔ wor u p = 0 := by
  obtain ⟨g, g0, e, _⟩ := keptL_is hz
  have e2 : wor u p = g * g * wor u (keptL p) := by
    conv => lhs; rw [e]
    exact wor_sclp g h (by rw [keptL_len]; exact hp)
  rw [e2]
  exact ⟨fun z => by rw [z]; simp, fun z => (Int.mul_eq_zero.mp z).resolve_left (Int.mul_ne_zero g0 g0)⟩
theorem dual_keptL {u : List Int} (h : u.length = 6) (hd : det6 u ≠ 0) : keptL (dual6 (keptL u)) = keptL (dual6 u) := by
  obtain ⟨g, g0, e, _⟩ := keptL_is (det_z h hd)
  have hk : (keptL u).length = 6 := by rw [keptL_len]; exact h
  have e2 : dual6 u = scl (g * g) (dual6 (keptL u)) := by
    conv => lhs; rw [e]
    exact dual_scl g hk
  have z : ¬ allZ (dual6 (keptL u)) := by
    refine det_z (dual_len hk) ?_
    rw [det_dual hk]
    have := det_keptL h hd
    have := Int.mul_ne_zero this this
    omega
  rw [e2, keptL_scl (Int.mul_ne_zero g0 g0) z]
theorem dual_det {u : List Int} (h : u.length = 6) (hd : det6 u ≠ 0) : det6 (dual6 u) ≠ 0 := by
  rw [det_dual h]
  have := Int.mul_ne_zero hd hd
  omega
/-- the dual's dual is the curve -/
theorem dual_back {u : List Int} (h : u.length = 6) (hd : det6 u ≠ 0) (hn : nrm u) : keptL (dual6 (keptL (dual6 u))) = u := by
  rw [dual_keptL (dual_len h) (dual_det h hd), dual_dual h, keptL_scl (by omega) (det_z h hd), keptL_nrm hn]
theorem nums_scl (k m : Int) {o i : List Int} (ho : o.length = 6) (hi : i.length = 6) : nums (scl k o) (scl m i) = (m * m * m * (nums o i).1, k * m * m * (nums o i).2.1, k * k * m * (nums o i).2.2.1, k * k * k * (nums o i).2.2.2) := by
  obtain ⟨a, b, c, d, e, f, rfl⟩ := len6 ho
  obtain ⟨a', b', c', d', e', f', rfl⟩ := len6 hi
  simp only [nums, det6, dotL, slp6, scl, List.map_cons, List.map_nil, List.zipWith_cons_cons, List.zipWith_nil_left, List.sum_cons, List.sum_nil]
  refine Prod.ext (by simp only; grind) (Prod.ext (by simp only; grind) (Prod.ext (by simp only; grind) (by simp only; grind)))
theorem dsc_scl (k m : Int) {o i : List Int} (ho : o.length = 6) (hi : i.length = 6) : dscI (nums (scl k o) (scl m i)) = (k * k * k * k * k * k) * (m * m * m * m * m * m) * dscI (nums o i) := by
  rw [nums_scl k m ho hi]
  generalize nums o i = n
  obtain ⟨w, u, v, r⟩ := n
  simp only [dscI]
  grind
theorem dsc_kept {o i : List Int} (ho : o.length = 6) (hi : i.length = 6) (zo : ¬ allZ o) (zi : ¬ allZ i) : dscI (nums (keptL o) (keptL i)) = 0 ↔ dscI (nums o i) = 0 := by
  obtain ⟨g, g0, e, _⟩ := keptL_is zo
  obtain ⟨k, k0, e2, _⟩ := keptL_is zi
  have e3 : dscI (nums o i) = (g * g * g * g * g * g) * (k * k * k * k * k * k) * dscI (nums (keptL o) (keptL i)) := by
    conv => lhs; rw [e, e2]
    exact dsc_scl g k (by rw [keptL_len]; exact ho) (by rw [keptL_len]; exact hi)
  rw [e3]
  have n6 : ∀ {z : Int}, z ≠ 0 → z * z * z * z * z * z ≠ 0 := fun h => mul_ne0 (mul_ne0 (mul_ne0 (mul_ne0 (mul_ne0 h h) h) h) h) h
  exact ⟨fun z => by rw [z]; simp, fun z => (Int.mul_eq_zero.mp z).resolve_left (mul_ne0 (n6 g0) (n6 k0))⟩
/-! shears -/
structure Sh where
  i : Nat
  j : Nat
  a : Int
def Sh.ok (s : Sh) : Prop := s.i < 3 ∧ s.j < 3 ∧ s.i ≠ s.j ∧ s.a.natAbs ≤ 2
def shP (s : Sh) (p : List Int) : List Int := p.set s.i (p.getD s.i 0 + s.a * p.getD s.j 0)
def shI (s : Sh) (p : List Int) : List Int := p.set s.i (p.getD s.i 0 - s.a * p.getD s.j 0)
def shL (s : Sh) (p : List Int) : List Int := p.set s.j (p.getD s.j 0 - s.a * p.getD s.i 0)
theorem sh_cases {s : Sh} (h : s.ok) : (s.i = 0 ∧ s.j = 1) ∨ (s.i = 0 ∧ s.j = 2) ∨ (s.i = 1 ∧ s.j = 0) ∨ (s.i = 1 ∧ s.j = 2) ∨ (s.i = 2 ∧ s.j = 0) ∨ (s.i = 2 ∧ s.j = 1) := by
  obtain ⟨h1, h2, h3, _⟩ := h; omega
theorem shP_len (s : Sh) (p : List Int) : (shP s p).length = p.length := by simp [shP]
theorem shI_len (s : Sh) (p : List Int) : (shI s p).length = p.length := by simp [shI]
theorem shL_len (s : Sh) (p : List Int) : (shL s p).length = p.length := by simp [shL]
def pull1 (s : Sh) (u : List Int) : List Int := [wor u (shI s [1, 0, 0]), wor u (shI s [0, 1, 0]), wor u (shI s [0, 0, 1]), bot u (shI s [0, 1, 0]) (shI s [0, 0, 1]), bot u (shI s [1, 0, 0]) (shI s [0, 0, 1]), bot u (shI s [1, 0, 0]) (shI s [0, 1, 0])]
def endL (L : List Sh) (p : List Int) : List Int := L.foldr shI p
def pullE (L : List Sh) (u : List Int) : List Int := [wor u (endL L [1, 0, 0]), wor u (endL L [0, 1, 0]), wor u (endL L [0, 0, 1]), bot u (endL L [0, 1, 0]) (endL L [0, 0, 1]), bot u (endL L [1, 0, 0]) (endL L [0, 0, 1]), bot u (endL L [1, 0, 0]) (endL L [0, 1, 0])]
def mvP (L : List Sh) (p : List Int) : List Int := L.foldl (fun p s => shP s p) p
def mvL (L : List Sh) (p : List Int) : List Int := L.foldl (fun p s => shL s p) p
section
variable {s : Sh} {u p q : List Int}
theorem pull1_wor (hs : s.ok) (h : u.length = 6) (hp : p.length = 3) : wor u (shI s p) = wor (pull1 s u) p := by
  obtain ⟨a, b, c, d, e, f, rfl⟩ := len6 h
  obtain ⟨x, y, z, rfl⟩ := len3 hp
  obtain ⟨i, j, t⟩ := s
  rcases sh_cases hs with ⟨h1, h2⟩ | ⟨h1, h2⟩ | ⟨h1, h2⟩ | ⟨h1, h2⟩ | ⟨h1, h2⟩ | ⟨h1, h2⟩ <;> simp only at h1 h2 <;> subst h1 h2 <;>
    simp [pull1, shI, wor, bot, addL] <;> grind
theorem pull1_det (hs : s.ok) (h : u.length = 6) : det6 (pull1 s u) = det6 u := by
  obtain ⟨a, b, c, d, e, f, rfl⟩ := len6 h
  obtain ⟨i, j, t⟩ := s
  rcases sh_cases hs with ⟨h1, h2⟩ | ⟨h1, h2⟩ | ⟨h1, h2⟩ | ⟨h1, h2⟩ | ⟨h1, h2⟩ | ⟨h1, h2⟩ <;> simp only at h1 h2 <;> subst h1 h2 <;>
    simp [pull1, shI, wor, bot, addL, det6] <;> grind
theorem pull1_dual (hs : s.ok) (h : u.length = 6) (hp : p.length = 3) : wor (dual6 (pull1 s u)) (shL s p) = wor (dual6 u) p := by
  obtain ⟨a, b, c, d, e, f, rfl⟩ := len6 h
  obtain ⟨x, y, z, rfl⟩ := len3 hp
  obtain ⟨i, j, t⟩ := s
  rcases sh_cases hs with ⟨h1, h2⟩ | ⟨h1, h2⟩ | ⟨h1, h2⟩ | ⟨h1, h2⟩ | ⟨h1, h2⟩ | ⟨h1, h2⟩ <;> simp only at h1 h2 <;> subst h1 h2 <;>
    simp [pull1, shI, shL, wor, bot, addL, dual6] <;> grind
theorem pull1_nums {o i : List Int} (hs : s.ok) (ho : o.length = 6) (hi : i.length = 6) : nums (pull1 s o) (pull1 s i) = nums o i := by
  have d1 := pull1_det hs ho
  have d2 := pull1_det hs hi
  obtain ⟨a, b, c, d, e, f, rfl⟩ := len6 ho
  obtain ⟨a', b', c', d', e', f', rfl⟩ := len6 hi
  simp only [nums, d1, d2]
  refine Prod.ext rfl (Prod.ext ?_ (Prod.ext ?_ rfl)) <;> simp only
  all_goals
    obtain ⟨i, j, t⟩ := s
    rcases sh_cases hs with ⟨h1, h2⟩ | ⟨h1, h2⟩ | ⟨h1, h2⟩ | ⟨h1, h2⟩ | ⟨h1, h2⟩ | ⟨h1, h2⟩ <;> simp only at h1 h2 <;> subst h1 h2 <;>
    simp [pull1, shI, wor, bot, addL, dotL, slp6] <;> grind
theorem shI_P (hs : s.ok) (hp : p.length = 3) : shI s (shP s p) = p := by
  obtain ⟨x, y, z, rfl⟩ := len3 hp
  obtain ⟨i, j, t⟩ := s
  rcases sh_cases hs with ⟨h1, h2⟩ | ⟨h1, h2⟩ | ⟨h1, h2⟩ | ⟨h1, h2⟩ | ⟨h1, h2⟩ | ⟨h1, h2⟩ <;> simp only at h1 h2 <;> subst h1 h2 <;>
    simp [shI, shP] <;> omega
theorem sh_dot (hs : s.ok) (hp : p.length = 3) (hq : q.length = 3) : dot (shP s p) (shL s q) = dot p q := by
  obtain ⟨x, y, z, rfl⟩ := len3 hp
  obtain ⟨x', y', z', rfl⟩ := len3 hq
  obtain ⟨i, j, t⟩ := s
  rcases sh_cases hs with ⟨h1, h2⟩ | ⟨h1, h2⟩ | ⟨h1, h2⟩ | ⟨h1, h2⟩ | ⟨h1, h2⟩ | ⟨h1, h2⟩ <;> simp only at h1 h2 <;> subst h1 h2 <;>
    simp [shL, shP, dot] <;> grind
end
theorem pull1_len (s : Sh) (u : List Int) : (pull1 s u).length = 6 := rfl
theorem pullE_len (L : List Sh) (u : List Int) : (pullE L u).length = 6 := rfl
theorem endL_len (L : List Sh) (p : List Int) : (endL L p).length = p.length := by
  induction L with
  | nil => rfl
  | cons s L ih => show (shI s (endL L p)).length = _; rw [shI_len, ih]
theorem shI_add {s : Sh} {p q : List Int} (hs : s.ok) (hp : p.length = 3) (hq : q.length = 3) : addL (shI s p) (shI s q) = shI s (addL p q) := by
  obtain ⟨x, y, z, rfl⟩ := len3 hp
  obtain ⟨x', y', z', rfl⟩ := len3 hq
  obtain ⟨i, j, t⟩ := s
  rcases sh_cases hs with ⟨h1, h2⟩ | ⟨h1, h2⟩ | ⟨h1, h2⟩ | ⟨h1, h2⟩ | ⟨h1, h2⟩ | ⟨h1, h2⟩ <;> simp only at h1 h2 <;> subst h1 h2 <;>
    simp [shI, addL] <;> grind
theorem addL_len {p q : List Int} (hp : p.length = 3) (hq : q.length = 3) : (addL p q).length = 3 := by
  obtain ⟨x, y, z, rfl⟩ := len3 hp
  obtain ⟨x', y', z', rfl⟩ := len3 hq
  rfl
theorem pull1_bot {s : Sh} {u p q : List Int} (hs : s.ok) (h : u.length = 6) (hp : p.length = 3) (hq : q.length = 3) : bot u (shI s p) (shI s q) = bot (pull1 s u) p q := by
  unfold bot
  rw [shI_add hs hp hq, pull1_wor hs h (addL_len hp hq), pull1_wor hs h hp, pull1_wor hs h hq]
theorem pullE_nil {u : List Int} (h : u.length = 6) : pullE [] u = u := by
  obtain ⟨a, b, c, d, e, f, rfl⟩ := len6 h
  simp [pullE, endL, wor, bot, addL]
  grind
theorem pullE_cons {s : Sh} (L : List Sh) {u : List Int} (hs : s.ok) (h : u.length = 6) : pullE (s :: L) u = pullE L (pull1 s u) := by
  have l0 : (endL L [1, 0, 0]).length = 3 := endL_len ..
  have l1 : (endL L [0, 1, 0]).length = 3 := endL_len ..
  have l2 : (endL L [0, 0, 1]).length = 3 := endL_len ..
  have c : ∀ p, endL (s :: L) p = shI s (endL L p) := fun _ => rfl
  unfold pullE
  rw [c, c, c, pull1_wor hs h l0, pull1_wor hs h l1, pull1_wor hs h l2, pull1_bot hs h l1 l2, pull1_bot hs h l0 l2, pull1_bot hs h l0 l1]
theorem mvP_len (L : List Sh) : ∀ p : List Int, (mvP L p).length = p.length := by
  induction L with
  | nil => intro p; rfl
  | cons s L ih => intro p; show (mvP L (shP s p)).length = _; rw [ih, shP_len]
theorem mvL_len (L : List Sh) : ∀ p : List Int, (mvL L p).length = p.length := by
  induction L with
  | nil => intro p; rfl
  | cons s L ih => intro p; show (mvL L (shL s p)).length = _; rw [ih, shL_len]
abbrev okL (L : List Sh) : Prop := ∀ s ∈ L, s.ok
theorem okL.tl {s : Sh} {L : List Sh} (h : okL (s :: L)) : s.ok ∧ okL L := ⟨h s (by simp), fun t ht => h t (by simp [ht])⟩
theorem pullE_det : ∀ {L : List Sh} {u : List Int}, okL L → u.length = 6 → det6 (pullE L u) = det6 u
  | [], u, _, h => by rw [pullE_nil h]
  | s :: L, u, hL, h => by rw [pullE_cons L hL.tl.1 h, pullE_det hL.tl.2 (pull1_len s u), pull1_det hL.tl.1 h]
theorem pullE_nums : ∀ {L : List Sh} {o i : List Int}, okL L → o.length = 6 → i.length = 6 → nums (pullE L o) (pullE L i) = nums o i
  | [], o, i, _, ho, hi => by rw [pullE_nil ho, pullE_nil hi]
  | s :: L, o, i, hL, ho, hi => by rw [pullE_cons L hL.tl.1 ho, pullE_cons L hL.tl.1 hi, pullE_nums hL.tl.2 (pull1_len s o) (pull1_len s i), pull1_nums hL.tl.1 ho hi]
theorem pullE_wor : ∀ {L : List Sh} {u p : List Int}, okL L → u.length = 6 → p.length = 3 → wor (pullE L u) (mvP L p) = wor u p
  | [], u, p, _, h, _ => by rw [pullE_nil h]; rfl
  | s :: L, u, p, hL, h, hp => by
    have l : (shP s p).length = 3 := by rw [shP_len]; exact hp
    show wor (pullE (s :: L) u) (mvP L (shP s p)) = _
    rw [pullE_cons L hL.tl.1 h, pullE_wor hL.tl.2 (pull1_len s u) l, ← pull1_wor hL.tl.1 h l, shI_P hL.tl.1 hp]
theorem pullE_dual : ∀ {L : List Sh} {u p : List Int}, okL L → u.length = 6 → p.length = 3 → wor (dual6 (pullE L u)) (mvL L p) = wor (dual6 u) p
  | [], u, p, _, h, _ => by rw [pullE_nil h]; rfl
  | s :: L, u, p, hL, h, hp => by
    have l : (shL s p).length = 3 := by rw [shL_len]; exact hp
    show wor (dual6 (pullE (s :: L) u)) (mvL L (shL s p)) = _
    rw [pullE_cons L hL.tl.1 h, pullE_dual hL.tl.2 (pull1_len s u) l, pull1_dual hL.tl.1 h hp]
theorem mv_dot : ∀ {L : List Sh} {p q : List Int}, okL L → p.length = 3 → q.length = 3 → dot (mvP L p) (mvL L q) = dot p q
  | [], p, q, _, _, _ => rfl
  | s :: L, p, q, hL, hp, hq => by
    have l : (shP s p).length = 3 := by rw [shP_len]; exact hp
    have l2 : (shL s q).length = 3 := by rw [shL_len]; exact hq
    show dot (mvP L (shP s p)) (mvL L (shL s q)) = _
    rw [mv_dot hL.tl.2 l l2, sh_dot hL.tl.1 hp hq]
theorem shP_z {s : Sh} {p : List Int} (hs : s.ok) (hp : p.length = 3) (hz : ¬ allZ p) : ¬ allZ (shP s p) := fun z => hz (by
  rw [← shI_P hs hp]
  have hl : (shP s p).length = 3 := by rw [shP_len]; exact hp
  generalize shP s p = q at *
  obtain ⟨x, y, z', rfl⟩ := len3 hl
  have h1 := z x (by simp)
  have h2 := z y (by simp)
  have h3 := z z' (by simp)
  subst h1 h2 h3
  obtain ⟨i, j, t⟩ := s
  rcases sh_cases hs with ⟨h1, h2⟩ | ⟨h1, h2⟩ | ⟨h1, h2⟩ | ⟨h1, h2⟩ | ⟨h1, h2⟩ | ⟨h1, h2⟩ <;> simp only at h1 h2 <;> subst h1 h2 <;>
    simp [shI, allZ])
theorem shL_z {s : Sh} {p : List Int} (hs : s.ok) (hp : p.length = 3) (hz : ¬ allZ p) : ¬ allZ (shL s p) := by
  have e : shL s p = shP ⟨s.j, s.i, -s.a⟩ p := by simp only [shL, shP]; congr 1; grind
  rw [e]
  exact shP_z ⟨hs.2.1, hs.1, Ne.symm hs.2.2.1, by simpa using hs.2.2.2⟩ hp hz
theorem mvP_z : ∀ {L : List Sh} {p : List Int}, okL L → p.length = 3 → ¬ allZ p → ¬ allZ (mvP L p)
  | [], p, _, _, h => h
  | s :: L, p, hL, hp, h => mvP_z (L := L) hL.tl.2 (by rw [shP_len]; exact hp) (shP_z hL.tl.1 hp h)
theorem mvL_z : ∀ {L : List Sh} {p : List Int}, okL L → p.length = 3 → ¬ allZ p → ¬ allZ (mvL L p)
  | [], p, _, _, h => h
  | s :: L, p, hL, hp, h => mvL_z (L := L) hL.tl.2 (by rw [shL_len]; exact hp) (shL_z hL.tl.1 hp h)
theorem two_lt {t y : Int} {n : Nat} (h : t.natAbs ≤ 2) (hy : y.natAbs < 2 ^ n) : (t * y).natAbs < 2 ^ (n + 2) := by
  rw [Int.natAbs_mul, Nat.pow_add]
  have := Nat.mul_le_mul h (Nat.le_refl y.natAbs)
  omega
theorem add_two {x t y : Int} {n : Nat} (hx : x.natAbs < 2 ^ n) (h : t.natAbs ≤ 2) (hy : y.natAbs < 2 ^ n) : (x + t * y).natAbs < 2 ^ (n + 2) ∧ (x - t * y).natAbs < 2 ^ (n + 2) := by
  have e : (t * y).natAbs ≤ 2 * y.natAbs := by rw [Int.natAbs_mul]; exact Nat.mul_le_mul h (Nat.le_refl _)
  rw [Nat.pow_add]
  generalize 2 ^ n = B at *
  omega
theorem shP_sz {s : Sh} {p : List Int} {n : Nat} (hs : s.ok) (hp : p.length = 3) (h : szL n p) : szL (n + 2) (shP s p) ∧ szL (n + 2) (shI s p) := by
  obtain ⟨x, y, z, rfl⟩ := len3 hp
  obtain ⟨h1, h2, h3⟩ := szL3.mp h
  have up : ∀ {x : Int}, x.natAbs < 2 ^ n → x.natAbs < 2 ^ (n + 2) := fun h => abs_up h (by omega)
  have ha := hs.2.2.2
  obtain ⟨i, j, t⟩ := s
  rcases sh_cases hs with ⟨e1, e2⟩ | ⟨e1, e2⟩ | ⟨e1, e2⟩ | ⟨e1, e2⟩ | ⟨e1, e2⟩ | ⟨e1, e2⟩ <;> simp only at e1 e2 ha <;> subst e1 e2 <;>
    refine ⟨szL3.mpr ?_, szL3.mpr ?_⟩ <;> simp only [List.getD_cons_zero, List.getD_cons_succ] <;> refine ⟨?_, ?_, ?_⟩ <;>
    first | exact up (by assumption) | exact (add_two (by assumption) ha (by assumption)).1 | exact (add_two (by assumption) ha (by assumption)).2
theorem shL_sz {s : Sh} {p : List Int} {n : Nat} (hs : s.ok) (hp : p.length = 3) (h : szL n p) : szL (n + 2) (shL s p) := by
  have e : shL s p = shP ⟨s.j, s.i, -s.a⟩ p := by simp only [shL, shP]; congr 1; grind
  rw [e]
  exact (shP_sz ⟨hs.2.1, hs.1, Ne.symm hs.2.2.1, by simpa using hs.2.2.2⟩ hp h).1
theorem mvP_sz : ∀ {L : List Sh} {p : List Int} {n : Nat}, okL L → p.length = 3 → szL n p → szL (n + 2 * L.length) (mvP L p)
  | [], p, n, _, _, h => h
  | s :: L, p, n, hL, hp, h => by
    have := mvP_sz (L := L) (n := n + 2) hL.tl.2 (by rw [shP_len]; exact hp) (shP_sz hL.tl.1 hp h).1
    rw [List.length_cons, show n + 2 * (L.length + 1) = n + 2 + 2 * L.length by omega]
    exact this
theorem mvL_sz : ∀ {L : List Sh} {p : List Int} {n : Nat}, okL L → p.length = 3 → szL n p → szL (n + 2 * L.length) (mvL L p)
  | [], p, n, _, _, h => h
  | s :: L, p, n, hL, hp, h => by
    have := mvL_sz (L := L) (n := n + 2) hL.tl.2 (by rw [shL_len]; exact hp) (shL_sz hL.tl.1 hp h)
    rw [List.length_cons, show n + 2 * (L.length + 1) = n + 2 + 2 * L.length by omega]
    exact this
theorem endL_sz : ∀ {L : List Sh} {p : List Int} {n : Nat}, okL L → p.length = 3 → szL n p → szL (n + 2 * L.length) (endL L p)
  | [], p, n, _, _, h => h
  | s :: L, p, n, hL, hp, h => by
    have := (shP_sz hL.tl.1 (by rw [endL_len]; exact hp) (endL_sz (L := L) hL.tl.2 hp h)).2
    rw [List.length_cons, show n + 2 * (L.length + 1) = n + 2 * L.length + 2 by omega]
    exact this
theorem wor_sz {u p : List Int} {m n : Nat} (h : u.length = 6) (hp : p.length = 3) (su : szL m u) (sp : szL n p) : (wor u p).natAbs < 2 ^ (m + n + n + 5) := by
  obtain ⟨a, b, c, d, e, f, rfl⟩ := len6 h
  obtain ⟨x, y, z, rfl⟩ := len3 hp
  obtain ⟨a1, a2, a3, a4, a5, a6⟩ := szL6.mp su
  obtain ⟨b1, b2, b3⟩ := szL3.mp sp
  have k : ∀ {x y z : Int}, x.natAbs < 2 ^ m → y.natAbs < 2 ^ n → z.natAbs < 2 ^ n → (x * y * z).natAbs < 2 ^ (m + n + n) := fun h1 h2 h3 => szm (szm h1 h2) h3
  simp only [wor]
  exact abs_add_lt (abs_add_lt (abs_add_lt (abs_add_lt (abs_add_lt (k a1 b1 b1) (k a2 b2 b2)) (abs_up (k a3 b3 b3) (by omega))) (abs_up (k a4 b2 b3) (by omega))) (abs_up (k a5 b1 b3) (by omega))) (abs_up (k a6 b1 b2) (by omega))
theorem addL_sz {p q : List Int} {n : Nat} (hp : p.length = 3) (hq : q.length = 3) (sp : szL n p) (sq : szL n q) : szL (n + 1) (addL p q) := by
  obtain ⟨x, y, z, rfl⟩ := len3 hp
  obtain ⟨x', y', z', rfl⟩ := len3 hq
  obtain ⟨a1, a2, a3⟩ := szL3.mp sp
  obtain ⟨b1, b2, b3⟩ := szL3.mp sq
  exact szL3.mpr ⟨abs_add_lt a1 b1, abs_add_lt a2 b2, abs_add_lt a3 b3⟩
theorem bot_sz {u p q : List Int} {m n : Nat} (h : u.length = 6) (hp : p.length = 3) (hq : q.length = 3) (su : szL m u) (sp : szL n p) (sq : szL n q) : (bot u p q).natAbs < 2 ^ (m + n + n + 9) := by
  have h1 := wor_sz h (addL_len hp hq) su (addL_sz hp hq sp sq)
  have h2 := wor_sz h hp su sp
  have h3 := wor_sz h hq su sq
  unfold bot
  exact abs_sub_lt (abs_sub_lt (n := m + n + n + 7) (abs_up h1 (by omega)) (abs_up h2 (by omega))) (abs_up h3 (by omega))
theorem pullE_sz {L : List Sh} {u : List Int} {m : Nat} (hL : okL L) (h : u.length = 6) (su : szL m u) : szL (m + 4 * L.length + 11) (pullE L u) := by
  have s0 : szL 1 [1, 0, 0] := szL3.mpr (by decide)
  have s1 : szL 1 [0, 1, 0] := szL3.mpr (by decide)
  have s2 : szL 1 [0, 0, 1] := szL3.mpr (by decide)
  have t0 := endL_sz (L := L) hL rfl s0
  have t1 := endL_sz (L := L) hL rfl s1
  have t2 := endL_sz (L := L) hL rfl s2
  have l0 : (endL L [1, 0, 0]).length = 3 := endL_len ..
  have l1 : (endL L [0, 1, 0]).length = 3 := endL_len ..
  have l2 : (endL L [0, 0, 1]).length = 3 := endL_len ..
  exact szL6.mpr ⟨abs_up (wor_sz h l0 su t0) (by omega), abs_up (wor_sz h l1 su t1) (by omega), abs_up (wor_sz h l2 su t2) (by omega), abs_up (bot_sz h l1 l2 su t1 t2) (by omega), abs_up (bot_sz h l0 l2 su t0 t2) (by omega), abs_up (bot_sz h l0 l1 su t0 t1) (by omega)⟩
theorem dual_sz {u : List Int} {m : Nat} (h : u.length = 6) (su : szL m u) : szL (m + m + 5) (dual6 u) := by
  obtain ⟨a, b, c, d, e, f, rfl⟩ := len6 h
  obtain ⟨a1, a2, a3, a4, a5, a6⟩ := szL6.mp su
  have k4 : ∀ {x y : Int}, x.natAbs < 2 ^ m → y.natAbs < 2 ^ m → (4 * x * y).natAbs < 2 ^ (3 + m + m) := fun h1 h2 => szm (szm (by decide) h1) h2
  have k2 : ∀ {x y : Int}, x.natAbs < 2 ^ m → y.natAbs < 2 ^ m → (2 * x * y).natAbs < 2 ^ (2 + m + m) := fun h1 h2 => szm (szm (by decide) h1) h2
  have k1 : ∀ {x y : Int}, x.natAbs < 2 ^ m → y.natAbs < 2 ^ m → (x * y).natAbs < 2 ^ (m + m) := fun h1 h2 => szm h1 h2
  refine szL6.mpr ⟨?_, ?_, ?_, ?_, ?_, ?_⟩
  · exact abs_sub_lt (n := m + m + 4) (abs_up (k4 a2 a3) (by omega)) (abs_up (k1 a4 a4) (by omega))
  · exact abs_sub_lt (n := m + m + 4) (abs_up (k4 a1 a3) (by omega)) (abs_up (k1 a5 a5) (by omega))
  · exact abs_sub_lt (n := m + m + 4) (abs_up (k4 a1 a2) (by omega)) (abs_up (k1 a6 a6) (by omega))
  · exact abs_sub_lt (n := m + m + 4) (abs_up (k2 a5 a6) (by omega)) (abs_up (k4 a1 a4) (by omega))
  · exact abs_sub_lt (n := m + m + 4) (abs_up (k2 a4 a6) (by omega)) (abs_up (k4 a2 a5) (by omega))
  · exact abs_sub_lt (n := m + m + 4) (abs_up (k2 a4 a5) (by omega)) (abs_up (k4 a3 a6) (by omega))
/-! the turned shear, for lines -/
def trS (s : Sh) : Sh := ⟨s.j, s.i, -s.a⟩
theorem trS_ok {s : Sh} (h : s.ok) : (trS s).ok := ⟨h.2.1, h.1, Ne.symm h.2.2.1, by simpa [trS] using h.2.2.2⟩
theorem pull1_tr {s : Sh} {u : List Int} (hs : s.ok) (h : u.length = 6) : dual6 (pull1 s u) = pull1 (trS s) (dual6 u) := by
  obtain ⟨a, b, c, d, e, f, rfl⟩ := len6 h
  obtain ⟨i, j, t⟩ := s
  rcases sh_cases hs with ⟨h1, h2⟩ | ⟨h1, h2⟩ | ⟨h1, h2⟩ | ⟨h1, h2⟩ | ⟨h1, h2⟩ | ⟨h1, h2⟩ <;> simp only at h1 h2 <;> subst h1 h2 <;>
    simp [pull1, trS, shI, wor, bot, addL, dual6] <;> (refine ⟨?_, ?_, ?_, ?_, ?_, ?_⟩ <;> grind)
theorem pullE_tr : ∀ {L : List Sh} {u : List Int}, okL L → u.length = 6 → dual6 (pullE L u) = pullE (L.map trS) (dual6 u)
  | [], u, _, h => by rw [pullE_nil h, List.map_nil, pullE_nil (dual_len h)]
  | s :: L, u, hL, h => by rw [pullE_cons L hL.tl.1 h, pullE_tr hL.tl.2 (pull1_len s u), pull1_tr hL.tl.1 h, List.map_cons, pullE_cons (L.map trS) (trS_ok hL.tl.1) (dual_len h)]
theorem bot_sclu (k : Int) {u p q : List Int} (h : u.length = 6) (hp : p.length = 3) (hq : q.length = 3) : bot (scl k u) p q = k * bot u p q := by
  unfold bot
  rw [wor_scl k h (addL_len hp hq), wor_scl k h hp, wor_scl k h hq]
  grind
theorem pullE_scl (k : Int) {L : List Sh} {u : List Int} (h : u.length = 6) : pullE L (scl k u) = scl k (pullE L u) := by
  have l0 : (endL L [1, 0, 0]).length = 3 := endL_len ..
  have l1 : (endL L [0, 1, 0]).length = 3 := endL_len ..
  have l2 : (endL L [0, 0, 1]).length = 3 := endL_len ..
  unfold pullE
  rw [wor_scl k h l0, wor_scl k h l1, wor_scl k h l2, bot_sclu k h l1 l2, bot_sclu k h l0 l2, bot_sclu k h l0 l1]
  rfl
theorem dua_tight {L : List Sh} {six : List Int} (hL : okL L) (h3 : L.length ≤ 3) (h6 : six.length = 6) (s6 : szL 30 six) (hd : det6 six ≠ 0) : szL 53 (keptL (dual6 (keptL (pullE L (keptL (dual6 six)))))) := by
  have l6 : (keptL (dual6 six)).length = 6 := by rw [keptL_len]; exact dual_len h6
  have dd := dual_det h6 hd
  have dk := det_keptL (dual_len h6) dd
  have ei := pullE_det (L := L) hL l6
  have hL' : okL (L.map trS) := fun s hs => by obtain ⟨t, ht, rfl⟩ := List.mem_map.mp hs; exact trS_ok (hL t ht)
  rw [dual_keptL (pullE_len _ _) (by rw [ei]; exact dk), pullE_tr hL l6]
  obtain ⟨g, g0, eg, _⟩ := keptL_is (det_z (dual_len h6) dd)
  have e1 : scl (g * g) (dual6 (keptL (dual6 six))) = scl (16 * det6 six) six := by
    rw [← dual_scl g l6, ← eg, dual_dual h6]
  have e2 : scl (g * g) (pullE (L.map trS) (dual6 (keptL (dual6 six)))) = scl (16 * det6 six) (pullE (L.map trS) six) := by
    rw [← pullE_scl _ (dual_len l6), e1, pullE_scl _ h6]
  have z1 : ¬ allZ (pullE (L.map trS) (dual6 (keptL (dual6 six)))) := det_z (pullE_len _ _) (by rw [pullE_det hL' (dual_len l6)]; exact dual_det l6 dk)
  have z2 : ¬ allZ (pullE (L.map trS) six) := det_z (pullE_len _ _) (by rw [pullE_det hL' h6]; exact hd)
  rw [keptL_eq z1 z2 (mul_ne0 g0 g0) (by omega) e2]
  exact szL_kept (szL_up (pullE_sz hL' h6 s6) (by rw [List.length_map]; omega)) z2
/-! two curves and a flag -/
def laid (s t u v w x y : Int) : List Int := [0 - (v * (0 - s - t) * (0 - s - t) + w * (s * t) * (s * t) + 2 * x * (0 - s - t) * (s * t) + 2 * y * (s * t) + 2 * u * (0 - s - t)), v, w, 2 * x, 2 * y, 2 * u]
structure Flg (o i p l : List Int) : Prop where
  co : cur 100 o
  ci : cur 100 i
  pr : dscI (nums o i) ≠ 0
  tp : tri 100 p
  tl : tri 100 l
  po : wor o p = 0
  pl : dot p l = 0
  li : wor (dual6 i) l = 0
  so : szL 25 o
  sd : szL 53 (keptL (dual6 i))
  sp : szL 14 p
  sl : szL 14 l
theorem flg_of {L : List Sh} {s t : Int} {six : List Int} (hL : okL L) (h3 : L.length ≤ 3) (hs : s.natAbs < 2 ^ 4) (ht : t.natAbs < 2 ^ 4) (h6 : six.length = 6) (s6 : szL 30 six) (hd : det6 six ≠ 0) (hp : dscI (nums [0, 1, 0, 0, -1, 0] (keptL (dual6 six))) ≠ 0) (hw : wor six [1, 0 - s - t, s * t] = 0) :
    Flg (keptL (pullE L [0, 1, 0, 0, -1, 0])) (keptL (pullE L (keptL (dual6 six)))) (keptL (mvP L [s * s, s, 1])) (keptL (mvL L [1, 0 - s - t, s * t])) := by
  have l6 : (keptL (dual6 six)).length = 6 := by rw [keptL_len]; exact dual_len h6
  have dd := dual_det h6 hd
  have dk := det_keptL (dual_len h6) dd
  have so : szL 2 [0, 1, 0, 0, -1, 0] := szL6.mpr (by decide)
  have d0 : det6 [0, 1, 0, 0, -1, 0] ≠ 0 := by decide
  have eo := pullE_det (L := L) (u := [0, 1, 0, 0, -1, 0]) hL rfl
  have ei := pullE_det (L := L) hL l6
  have zo := det_z (pullE_len L [0, 1, 0, 0, -1, 0]) (by rw [eo]; exact d0)
  have zi := det_z (pullE_len L (keptL (dual6 six))) (by rw [ei]; exact dk)
  have si : szL 65 (keptL (dual6 six)) := szL_kept (dual_sz h6 s6) (det_z (dual_len h6) dd)
  have zp0 : ¬ allZ [s * s, s, 1] := fun z => by have := z 1 (by simp); omega
  have zl0 : ¬ allZ [1, 0 - s - t, s * t] := fun z => by have := z 1 (by simp); omega
  have sp : szL 8 [s * s, s, 1] := szL3.mpr ⟨szm hs hs, abs_up hs (by decide), by decide⟩
  have hst : (0 - s - t).natAbs < 2 ^ 8 := by omega
  have sl : szL 8 [1, 0 - s - t, s * t] := szL3.mpr ⟨by decide, hst, szm hs ht⟩
  have zp := mvP_z (L := L) hL rfl zp0
  have zl := mvL_z (L := L) hL rfl zl0
  have lp : (mvP L [s * s, s, 1]).length = 3 := mvP_len ..
  have ll : (mvL L [1, 0 - s - t, s * t]).length = 3 := mvL_len ..
  have lo : (pullE L [0, 1, 0, 0, -1, 0]).length = 6 := rfl
  have li : (pullE L (keptL (dual6 six))).length = 6 := rfl
  refine ⟨cur_kept lo (by rw [eo]; exact d0) (szL_up (pullE_sz hL rfl so) (by omega)), cur_kept li (by rw [ei]; exact dk) (szL_up (pullE_sz hL l6 si) (by omega)), ?_, tri_kept lp zp (szL_up (mvP_sz hL rfl sp) (by omega)), tri_kept ll zl (szL_up (mvL_sz hL rfl sl) (by omega)), ?_, ?_, ?_, szL_kept (szL_up (pullE_sz hL rfl so) (by omega)) zo, dua_tight hL h3 h6 s6 hd, szL_kept (szL_up (mvP_sz hL rfl sp) (by omega)) zp, szL_kept (szL_up (mvL_sz hL rfl sl) (by omega)) zl⟩
  · intro z
    rw [dsc_kept lo li zo zi, pullE_nums hL rfl l6] at z
    exact hp z
  · rw [wor_keptL lo (by rw [keptL_len]; exact lp) zo, wor_keptP lo lp zp, pullE_wor hL rfl rfl]
    simp only [wor]; grind
  · have h1 := (dot_kept (u := keptL (mvP L [s * s, s, 1])) zl).mpr
    refine h1 ?_
    rw [dot_comm, dot_kept zp, dot_comm, mv_dot hL rfl rfl]
    simp [dot]; grind
  · have hk : (keptL (pullE L (keptL (dual6 six)))).length = 6 := by rw [keptL_len]; rfl
    have z2 : ¬ allZ (dual6 (pullE L (keptL (dual6 six)))) := det_z (dual_len li) (dual_det li (by rw [ei]; exact dk))
    have z3 : ¬ allZ (dual6 (keptL (pullE L (keptL (dual6 six))))) := det_z (dual_len hk) (dual_det hk (det_keptL li (by rw [ei]; exact dk)))
    have e1 := dual_keptL li (by rw [ei]; exact dk)
    rw [wor_keptP (dual_len hk) ll zl, ← wor_keptL (dual_len hk) ll z3, e1, wor_keptL (dual_len li) ll z2, pullE_dual hL l6 rfl]
    have z4 : ¬ allZ (dual6 (keptL (dual6 six))) := det_z (dual_len l6) (dual_det l6 dk)
    rw [← wor_keptL (dual_len l6) rfl z4, dual_keptL (dual_len h6) dd, dual_dual h6, keptL_scl (by omega) (det_z h6 hd), wor_keptL h6 rfl (det_z h6 hd)]
    exact hw
theorem laid_wor (s t u v w x y : Int) : wor (laid s t u v w x y) [1, 0 - s - t, s * t] = 0 := by
  simp only [laid, wor]; grind
theorem rngD_cons (j : Int) (n : Nat) : rngD j (n + 1) = .int j :: rngD (j + 1) n := by
  unfold rngD
  rw [List.range_succ_eq_map, List.map_cons, List.map_map]
  simp only [List.cons.injEq, Function.comp_def]
  exact ⟨by simp, List.map_congr_left fun a _ => by simp; omega⟩
/-! the line that touches at a point -/
def pol (u p : List Int) : List Int := [bot u p [1, 0, 0], bot u p [0, 1, 0], bot u p [0, 0, 1]]
theorem pol_is (a b c d e f x y z : Int) : pol [a, b, c, d, e, f] [x, y, z] = [2 * a * x + f * y + e * z, f * x + 2 * b * y + d * z, e * x + d * y + 2 * c * z] := by
  simp only [pol, bot, addL, wor, List.zipWith_cons_cons, List.zipWith_nil_left, List.cons.injEq, and_true]
  refine ⟨by grind, by grind, by grind⟩
theorem pol_z {u p : List Int} (h : u.length = 6) (hp : p.length = 3) (hd : det6 u ≠ 0) (hz : ¬ allZ p) : ¬ allZ (pol u p) := by
  obtain ⟨a, b, c, d, e, f, rfl⟩ := len6 h
  obtain ⟨x, y, z, rfl⟩ := len3 hp
  rw [pol_is, allZ3]
  rintro ⟨h1, h2, h3⟩
  apply hz
  rw [allZ3]
  have k1 : 2 * det6 [a, b, c, d, e, f] * x = 0 := by
    have : (4 * b * c - d * d) * (2 * a * x + f * y + e * z) + (d * e - 2 * c * f) * (f * x + 2 * b * y + d * z) + (d * f - 2 * b * e) * (e * x + d * y + 2 * c * z) = 2 * det6 [a, b, c, d, e, f] * x := by simp only [det6]; grind
    rw [h1, h2, h3] at this; omega
  have k2 : 2 * det6 [a, b, c, d, e, f] * y = 0 := by
    have : (d * e - 2 * c * f) * (2 * a * x + f * y + e * z) + (4 * a * c - e * e) * (f * x + 2 * b * y + d * z) + (e * f - 2 * a * d) * (e * x + d * y + 2 * c * z) = 2 * det6 [a, b, c, d, e, f] * y := by simp only [det6]; grind
    rw [h1, h2, h3] at this; omega
  have k3 : 2 * det6 [a, b, c, d, e, f] * z = 0 := by
    have : (d * f - 2 * b * e) * (2 * a * x + f * y + e * z) + (e * f - 2 * a * d) * (f * x + 2 * b * y + d * z) + (4 * a * b - f * f) * (e * x + d * y + 2 * c * z) = 2 * det6 [a, b, c, d, e, f] * z := by simp only [det6]; grind
    rw [h1, h2, h3] at this; omega
  have n : 2 * det6 [a, b, c, d, e, f] ≠ 0 := by omega
  exact ⟨(Int.mul_eq_zero.mp k1).resolve_left n, (Int.mul_eq_zero.mp k2).resolve_left n, (Int.mul_eq_zero.mp k3).resolve_left n⟩
theorem pol_dual {u p : List Int} (h : u.length = 6) (hp : p.length = 3) : wor (dual6 u) (pol u p) = 4 * det6 u * wor u p := by
  obtain ⟨a, b, c, d, e, f, rfl⟩ := len6 h
  obtain ⟨x, y, z, rfl⟩ := len3 hp
  rw [pol_is]
  simp only [dual6, wor, det6]
  grind
theorem pol_dot {u p : List Int} (h : u.length = 6) (hp : p.length = 3) : dot (pol u p) p = 2 * wor u p := by
  obtain ⟨a, b, c, d, e, f, rfl⟩ := len6 h
  obtain ⟨x, y, z, rfl⟩ := len3 hp
  rw [pol_is]
  simp only [wor, dot]
  grind
theorem pol_len (u p : List Int) : (pol u p).length = 3 := rfl
theorem pol_sz {u p : List Int} {m : Nat} (h : u.length = 6) (hp : p.length = 3) (su : szL m u) (sp : szL m p) (hm : 1 ≤ m) : szL (m + m + m + 9) (pol u p) := by
  have s0 : szL m [1, 0, 0] := szL_up (szL3.mpr (by decide)) hm
  have s1 : szL m [0, 1, 0] := szL_up (szL3.mpr (by decide)) hm
  have s2 : szL m [0, 0, 1] := szL_up (szL3.mpr (by decide)) hm
  exact szL3.mpr ⟨bot_sz h hp rfl su sp s0, bot_sz h hp rfl su sp s1, bot_sz h hp rfl su sp s2⟩
theorem cur_up {m n : Nat} {u : List Int} (h : cur m u) (l : m ≤ n) : cur n u := ⟨h.1, h.2.1, h.2.2.1, szL_up h.2.2.2 l⟩
theorem tri_up {m n : Nat} {u : List Int} (h : tri m u) (l : m ≤ n) : tri n u := ⟨h.1, h.2.1, szL_up h.2.2 l⟩
/-- the dual curve -/
def dua (u : List Int) : List Int := keptL (dual6 u)
theorem dua_cur {m : Nat} {u : List Int} (h : cur m u) : cur (m + m + 5) (dua u) := cur_kept (dual_len h.1) (dual_det h.1 h.2.1) (dual_sz h.1 h.2.2.2)
theorem dua_dua {m : Nat} {u : List Int} (h : cur m u) : dua (dua u) = u := dual_back h.1 h.2.1 h.2.2.1
theorem dua_wor {m : Nat} {u p : List Int} (h : cur m u) (hp : p.length = 3) : wor (dua u) p = 0 ↔ wor (dual6 u) p = 0 := wor_keptL (dual_len h.1) hp (det_z (dual_len h.1) (dual_det h.1 h.2.1))
theorem beq0 {a b : Int} (h : a = 0 ↔ b = 0) : (a == 0) = (b == 0) := by
  by_cases hb : b = 0
  · rw [hb, h.mpr hb]
  · rw [beq_eq_false_iff_ne.mpr hb, beq_eq_false_iff_ne.mpr fun z => hb (h.mp z)]
/-! things that are shown, by their depth -/
def shA (b n w : Nat) : List D → Prop
  | [] => True
  | x :: xs => shw b n w x ∧ shA b n w xs
theorem shA_mem {b n w : Nat} : ∀ {xs : List D}, shA b n w xs → ∀ x ∈ xs, shw b n w x
  | [], _, x, h => by cases h
  | y :: ys, h, x, hx => by
    rcases List.mem_cons.mp hx with rfl | hx
    · exact h.1
    · exact shA_mem h.2 x hx
theorem shT1 {xs : List D} (h : shA 200 0 300 xs) (hl : xs.length ≤ 6) : shw 200 1 2000 (.tup xs) := shw_tup (k := 6) (shA_mem h) hl (by decide)
theorem shL1 {xs : List D} (h : shA 200 0 300 xs) (hl : xs.length ≤ 6) : shw 200 1 2000 (.lst xs) := shw_lst (k := 6) (shA_mem h) hl (by decide)
theorem shT2 {xs : List D} (h : shA 200 1 2000 xs) (hl : xs.length ≤ 6) : shw 200 2 14000 (.tup xs) := shw_tup (k := 6) (shA_mem h) hl (by decide)
theorem shL2 {xs : List D} (h : shA 200 1 2000 xs) (hl : xs.length ≤ 6) : shw 200 2 14000 (.lst xs) := shw_lst (k := 6) (shA_mem h) hl (by decide)
theorem shT3 {xs : List D} (h : shA 200 2 14000 xs) (hl : xs.length ≤ 6) : shw 200 3 90000 (.tup xs) := shw_tup (k := 6) (shA_mem h) hl (by decide)
theorem shL3 {xs : List D} (h : shA 200 2 14000 xs) (hl : xs.length ≤ 6) : shw 200 3 90000 (.lst xs) := shw_lst (k := 6) (shA_mem h) hl (by decide)
end Dl

/-! The data layer, part V: the other point of a line on a curve. -/
namespace Dl
open PySem L2 PyProof.Rows
theorem pol_crs {u p q : List Int} (h : u.length = 6) (hp : p.length = 3) (hq : q.length = 3) : pol (dual6 u) (crs p q) = scl 2 (crs (pol u p) (pol u q)) := by
  obtain ⟨a, b, c, d, e, f, rfl⟩ := len6 h
  obtain ⟨x, y, z, rfl⟩ := len3 hp
  obtain ⟨x', y', z', rfl⟩ := len3 hq
  rw [pol_is, pol_is]
  simp only [dual6, crs]
  rw [pol_is]
  simp only [scl, List.map_cons, List.map_nil, List.cons.injEq, and_true]
  refine ⟨by grind, by grind, by grind⟩
theorem pol_bot {u p q : List Int} (h : u.length = 6) (hp : p.length = 3) (hq : q.length = 3) : dot (pol u p) q = bot u p q ∧ dot (pol u q) p = bot u p q := by
  obtain ⟨a, b, c, d, e, f, rfl⟩ := len6 h
  obtain ⟨x, y, z, rfl⟩ := len3 hp
  obtain ⟨x', y', z', rfl⟩ := len3 hq
  rw [pol_is, pol_is]
  simp only [dot, bot, wor, addL, List.zipWith_cons_cons, List.zipWith_nil_left]
  exact ⟨by grind, by grind⟩
/-- what is crosswise to two is alike -/
theorem par_of {w m n : List Int} (hw : w.length = 3) (hm : m.length = 3) (hn : n.length = 3) (zw : ¬ allZ w) (h1 : allZ (crs w m)) (h2 : allZ (crs w n)) : allZ (crs m n) := by
  obtain ⟨a, b, c, rfl⟩ := len3 hw
  obtain ⟨x, y, z, rfl⟩ := len3 hm
  obtain ⟨x', y', z', rfl⟩ := len3 hn
  simp only [crs, allZ3] at h1 h2 zw ⊢
  obtain ⟨e1, e2, e3⟩ := h1
  obtain ⟨f1, f2, f3⟩ := h2
  have c0 : ∀ {s t : Int}, s ≠ 0 → s * s * t = 0 → t = 0 := fun hs h => (Int.mul_eq_zero.mp h).resolve_left (Int.mul_ne_zero hs hs)
  by_cases ha : a = 0
  · by_cases hb : b = 0
    · have hc : c ≠ 0 := fun e => zw ⟨ha, hb, e⟩
      subst ha hb
      refine ⟨c0 hc (by grind), c0 hc (by grind), c0 hc (by grind)⟩
    · refine ⟨c0 hb (by grind), c0 hb (by grind), c0 hb (by grind)⟩
  · refine ⟨c0 ha (by grind), c0 ha (by grind), c0 ha (by grind)⟩
theorem crs_perp {p q m : List Int} (hp : p.length = 3) (hq : q.length = 3) (hm : m.length = 3) (h1 : dot m p = 0) (h2 : dot m q = 0) : allZ (crs (crs p q) m) := by
  obtain ⟨a, b, c, rfl⟩ := len3 hp
  obtain ⟨x, y, z, rfl⟩ := len3 hq
  obtain ⟨x', y', z', rfl⟩ := len3 hm
  simp only [dot] at h1 h2
  simp only [crs, allZ3]
  refine ⟨by grind, by grind, by grind⟩
/-- no curve has a whole line -/
theorem no_line {u p q : List Int} (h : u.length = 6) (hd : det6 u ≠ 0) (hp : p.length = 3) (hq : q.length = 3) (z : ¬ allZ (crs p q)) (h1 : wor u p = 0) (h2 : wor u q = 0) : bot u p q ≠ 0 := by
  intro hb
  obtain ⟨b1, b2⟩ := pol_bot h hp hq
  have m1 : dot (pol u p) p = 0 := by rw [pol_dot h hp, h1]; rfl
  have m2 : dot (pol u p) q = 0 := by rw [b1, hb]
  have n1 : dot (pol u q) p = 0 := by rw [b2, hb]
  have n2 : dot (pol u q) q = 0 := by rw [pol_dot h hq, h2]; rfl
  have lw := crs_len hp hq
  have k := par_of lw (pol_len u p) (pol_len u q) z (crs_perp hp hq (pol_len u p) m1 m2) (crs_perp hp hq (pol_len u q) n1 n2)
  refine pol_z (dual_len h) lw (dual_det h hd) z ?_
  rw [pol_crs h hp hq]
  intro n hn
  obtain ⟨t, ht, rfl⟩ := List.mem_map.mp hn
  rw [k t ht]; rfl
/-- two points of a line -/
theorem on_two {l p q : List Int} (hl : l.length = 3) (nl : nrm l) (hp : p.length = 3) (np : nrm p) (hq : q.length = 3) (nq : nrm q) (dp : dot p l = 0) (dq : dot q l = 0) (ne : p ≠ q) : ¬ allZ (crs p q) ∧ ∃ k : Int, k ≠ 0 ∧ crs p q = scl k l := by
  have z : ¬ allZ (crs p q) := fun z => ne (crs_zero hp hq np nq z)
  refine ⟨z, ?_⟩
  have lw := crs_len hp hq
  obtain ⟨k, k0, e, nk⟩ := keptL_is z
  have zz := crs_perp hp hq hl (by rw [dot_comm]; exact dp) (by rw [dot_comm]; exact dq)
  have lk : (keptL (crs p q)).length = 3 := by rw [keptL_len]; exact lw
  have : allZ (crs (keptL (crs p q)) l) := by
    rw [e, crs_scll lk hl] at zz
    intro n hn
    have := zz (k * n) (List.mem_map.mpr ⟨n, hn, rfl⟩)
    exact (Int.mul_eq_zero.mp this).resolve_left k0
  have e2 := crs_zero lk hl nk nl this
  exact ⟨k, k0, by rw [e, e2]⟩
/-- the other point -/
structure Oth (u l p r : List Int) : Prop where
  len : r.length = 3
  nr : nrm r
  on : wor u r = 0
  dl : dot r l = 0
  eq : r = p ↔ wor (dual6 u) l = 0
theorem bot_sq {u p q : List Int} (h : u.length = 6) (hp : p.length = 3) (hq : q.length = 3) : bot u p q * bot u p q - 4 * wor u p * wor u q = - wor (dual6 u) (crs p q) := by
  obtain ⟨a, b, c, d, e', f', rfl⟩ := len6 h
  obtain ⟨x, y, z, rfl⟩ := len3 hp
  obtain ⟨x', y', z', rfl⟩ := len3 hq
  simp [bot, wor, addL, dual6, crs]
  grind
theorem tan_iff {u l p q : List Int} {k : Int} (h : u.length = 6) (hl : l.length = 3) (hp : p.length = 3) (hq : q.length = 3) (k0 : k ≠ 0) (e : crs p q = scl k l) (h1 : wor u p = 0) : bot u p q = 0 ↔ wor (dual6 u) l = 0 := by
  have i := bot_sq h hp hq
  rw [h1, e, wor_sclp k (dual_len h) hl] at i
  have i : bot u p q * bot u p q = - (k * k * wor (dual6 u) l) := by omega
  constructor
  · intro hb
    rw [hb] at i
    have : k * k * wor (dual6 u) l = 0 := by omega
    exact (Int.mul_eq_zero.mp this).resolve_left (Int.mul_ne_zero k0 k0)
  · intro hw
    rw [hw] at i
    have : bot u p q * bot u p q = 0 := by omega
    rcases Int.mul_eq_zero.mp this with h | h <;> exact h
/-- the other point is one -/
theorem oth_uniq {u l p r s : List Int} (h : u.length = 6) (hd : det6 u ≠ 0) (hl : l.length = 3) (nl : nrm l) (hp : p.length = 3) (np : nrm p) (dp : dot p l = 0) (h1 : wor u p = 0) (a : Oth u l p r) (b : Oth u l p s) : r = s := by
  by_cases ht : wor (dual6 u) l = 0
  · rw [a.eq.mpr ht, b.eq.mpr ht]
  have nr : p ≠ r := fun e => ht (a.eq.mp e.symm)
  have ns : p ≠ s := fun e => ht (b.eq.mp e.symm)
  apply Classical.byContradiction
  intro hrs
  obtain ⟨z1, k, k0, e1⟩ := on_two hl nl hp np a.len a.nr dp a.dl nr
  obtain ⟨_, m, m0, e2⟩ := on_two hl nl hp np b.len b.nr dp b.dl ns
  obtain ⟨_, n, n0, e3⟩ := on_two hl nl a.len a.nr b.len b.nr a.dl b.dl hrs
  have hb := no_line h hd hp a.len z1 h1 a.on
  have hr := a.on
  have hs := b.on
  have la := a.len
  have lb := b.len
  have zl := nrm_ne nl
  clear a b hrs nr ns
  obtain ⟨ua, ub, uc, ud, ue, uf, rfl⟩ := len6 h
  obtain ⟨p0, p1, p2, rfl⟩ := len3 hp
  obtain ⟨r0, r1, r2, rfl⟩ := len3 la
  obtain ⟨s0, s1, s2, rfl⟩ := len3 lb
  obtain ⟨l0, l1, l2, rfl⟩ := len3 hl
  simp only [crs, scl, List.map_cons, List.map_nil, List.cons.injEq, and_true] at e1 e2 e3
  simp only [dot] at dp
  obtain ⟨e10, e11, e12⟩ := e1
  obtain ⟨e20, e21, e22⟩ := e2
  obtain ⟨e30, e31, e32⟩ := e3
  -- n p - m r + k s = 0
  have key : n * p0 - m * r0 + k * s0 = 0 ∧ n * p1 - m * r1 + k * s1 = 0 ∧ n * p2 - m * r2 + k * s2 = 0 := by
    have c0 : ∀ {s t : Int}, s ≠ 0 → s * t = 0 → t = 0 := fun hs h => (Int.mul_eq_zero.mp h).resolve_left hs
    rw [allZ3] at zl
    by_cases h0 : l0 = 0
    · by_cases h1 : l1 = 0
      · have h2 : l2 ≠ 0 := fun e => zl ⟨h0, h1, e⟩
        exact ⟨c0 h2 (by grind), c0 h2 (by grind), c0 h2 (by grind)⟩
      · exact ⟨c0 h1 (by grind), c0 h1 (by grind), c0 h1 (by grind)⟩
    · exact ⟨c0 h0 (by grind), c0 h0 (by grind), c0 h0 (by grind)⟩
  obtain ⟨k1, k2, k3⟩ := key
  have f : k * k * wor [ua, ub, uc, ud, ue, uf] [s0, s1, s2] = m * m * wor [ua, ub, uc, ud, ue, uf] [r0, r1, r2] - m * n * bot [ua, ub, uc, ud, ue, uf] [p0, p1, p2] [r0, r1, r2] + n * n * wor [ua, ub, uc, ud, ue, uf] [p0, p1, p2] := by
    have g0 : k * s0 = m * r0 - n * p0 := by omega
    have g1 : k * s1 = m * r1 - n * p1 := by omega
    have g2 : k * s2 = m * r2 - n * p2 := by omega
    have t : k * k * wor [ua, ub, uc, ud, ue, uf] [s0, s1, s2] = wor [ua, ub, uc, ud, ue, uf] [k * s0, k * s1, k * s2] := by simp only [wor]; grind
    rw [t, g0, g1, g2]
    simp only [wor, bot, addL, List.zipWith_cons_cons, List.zipWith_nil_left]
    grind
  rw [hs, hr, h1] at f
  have : m * n * bot [ua, ub, uc, ud, ue, uf] [p0, p1, p2] [r0, r1, r2] = 0 := by omega
  rcases Int.mul_eq_zero.mp this with h | h
  · exact (mul_ne0 m0 n0) h
  · exact hb h
/-- the other point, worked out -/
def othR (u p q : List Int) : List Int := List.zipWith (fun a b => bot u p q * b - wor u q * a) p q
theorem othR_is {u l p q : List Int} (h : u.length = 6) (hd : det6 u ≠ 0) (hl : l.length = 3) (nl : nrm l) (hp : p.length = 3) (np : nrm p) (dp : dot p l = 0) (h1 : wor u p = 0) (hq : q.length = 3) (nq : nrm q) (dq : dot q l = 0) (ne : p ≠ q) : ¬ allZ (othR u p q) ∧ Oth u l p (keptL (othR u p q)) := by
  obtain ⟨z, k, k0, e⟩ := on_two hl nl hp np hq nq dp dq ne
  have ti := tan_iff h hl hp hq k0 e h1
  have lr : (othR u p q).length = 3 := by
    obtain ⟨p0, p1, p2, rfl⟩ := len3 hp
    obtain ⟨r0, r1, r2, rfl⟩ := len3 hq
    rfl
  have cr : crs p (othR u p q) = scl (bot u p q) (crs p q) := by
    obtain ⟨p0, p1, p2, rfl⟩ := len3 hp
    obtain ⟨r0, r1, r2, rfl⟩ := len3 hq
    unfold othR
    generalize bot u [p0, p1, p2] [r0, r1, r2] = B
    generalize wor u [r0, r1, r2] = A
    simp only [crs, scl, List.zipWith_cons_cons, List.zipWith_nil_left, List.map_cons, List.map_nil, List.cons.injEq, and_true]
    refine ⟨by grind, by grind, by grind⟩
  have cr2 : crs q (othR u p q) = scl (wor u q) (crs p q) := by
    obtain ⟨p0, p1, p2, rfl⟩ := len3 hp
    obtain ⟨r0, r1, r2, rfl⟩ := len3 hq
    unfold othR
    generalize bot u [p0, p1, p2] [r0, r1, r2] = B
    generalize wor u [r0, r1, r2] = A
    simp only [crs, scl, List.zipWith_cons_cons, List.zipWith_nil_left, List.map_cons, List.map_nil, List.cons.injEq, and_true]
    refine ⟨by grind, by grind, by grind⟩
  have crz : ∀ {v w : List Int}, v.length = 3 → w.length = 3 → allZ w → allZ (crs v w) := by
    intro v w hv hw hz
    obtain ⟨a, b, c, rfl⟩ := len3 hv
    obtain ⟨x, y, t, rfl⟩ := len3 hw
    rw [allZ3] at hz
    obtain ⟨rfl, rfl, rfl⟩ := hz
    simp [crs, allZ]
  have sz : ∀ {c : Int}, allZ (scl c (crs p q)) → c = 0 := fun {c} hc => Classical.byContradiction fun c0 => z fun n hn => (Int.mul_eq_zero.mp (hc (c * n) (List.mem_map.mpr ⟨n, hn, rfl⟩))).resolve_left c0
  have nz : ¬ allZ (othR u p q) := fun hz => by
    have hb : bot u p q = 0 := sz (by rw [← cr]; exact crz hp lr hz)
    have ha : wor u q = 0 := sz (by rw [← cr2]; exact crz hq lr hz)
    exact no_line h hd hp hq z h1 ha hb
  refine ⟨nz, ⟨by rw [keptL_len]; exact lr, by obtain ⟨_, _, _, n⟩ := keptL_is nz; exact n, ?_, ?_, ?_⟩⟩
  · rw [wor_keptP h lr nz]
    have : wor u (othR u p q) = bot u p q * bot u p q * wor u q - wor u q * bot u p q * bot u p q + wor u q * wor u q * wor u p := by
      obtain ⟨ua, ub, uc, ud, ue, uf, rfl⟩ := len6 h
      obtain ⟨p0, p1, p2, rfl⟩ := len3 hp
      obtain ⟨r0, r1, r2, rfl⟩ := len3 hq
      have gen : ∀ A B : Int, wor [ua, ub, uc, ud, ue, uf] (List.zipWith (fun a b => B * b - A * a) [p0, p1, p2] [r0, r1, r2]) = B * B * wor [ua, ub, uc, ud, ue, uf] [r0, r1, r2] - A * B * bot [ua, ub, uc, ud, ue, uf] [p0, p1, p2] [r0, r1, r2] + A * A * wor [ua, ub, uc, ud, ue, uf] [p0, p1, p2] := by
        intro A B
        simp only [wor, bot, addL, List.zipWith_cons_cons, List.zipWith_nil_left]
        grind
      exact gen _ _
    rw [this, h1]
    grind
  · rw [dot_comm, dot_kept nz, dot_comm]
    obtain ⟨p0, p1, p2, rfl⟩ := len3 hp
    obtain ⟨r0, r1, r2, rfl⟩ := len3 hq
    obtain ⟨l0, l1, l2, rfl⟩ := len3 hl
    unfold othR
    generalize bot u [p0, p1, p2] [r0, r1, r2] = B
    generalize wor u [r0, r1, r2] = A
    simp only [dot] at dp dq
    simp only [dot, List.zipWith_cons_cons, List.zipWith_nil_left]
    grind
  · rw [← ti]
    constructor
    · intro er
      obtain ⟨g, g0, eg, _⟩ := keptL_is nz
      rw [er] at eg
      refine sz ?_
      rw [← cr, eg]
      obtain ⟨p0, p1, p2, rfl⟩ := len3 hp
      simp only [crs, scl, List.map_cons, List.map_nil, allZ3]
      refine ⟨by grind, by grind, by grind⟩
    · intro hb
      have e2 : othR u p q = scl (- wor u q) p := by
        obtain ⟨p0, p1, p2, rfl⟩ := len3 hp
        obtain ⟨r0, r1, r2, rfl⟩ := len3 hq
        unfold othR
        rw [hb]
        simp only [scl, List.zipWith_cons_cons, List.zipWith_nil_left, List.map_cons, List.map_nil, List.cons.injEq, and_true]
        refine ⟨by grind, by grind, by grind⟩
      have a0 : - wor u q ≠ 0 := fun a0 => nz (by
        rw [e2, a0]
        intro n hn
        obtain ⟨t, _, rfl⟩ := List.mem_map.mp hn
        simp)
      rw [e2, keptL_scl a0 (nrm_ne np), keptL_nrm np]
/-- back again -/
theorem oth_back {u l p r : List Int} (h1 : wor u p = 0) (hp : p.length = 3) (np : nrm p) (dp : dot p l = 0) (a : Oth u l p r) : Oth u l r p := ⟨hp, np, h1, dp, ⟨fun e => a.eq.mp e.symm, fun e => (a.eq.mpr e).symm⟩⟩
/-! ### how great the other point is -/
theorem dv1 {d m : Int} {p : List Int} (np : nrm p) (h : ∀ x ∈ p, d ∣ m * x) : d ∣ m := by
  have h1 : d ∣ gcdL (scl m p) := dvd_gcdL fun x hx => by
    obtain ⟨y, hy, rfl⟩ := List.mem_map.mp hx
    exact h y hy
  rw [gcdL_scl, np.1, Int.mul_one] at h1
  exact Int.dvd_natAbs.mp h1
def cof : List Int → List Int → List Int
  | [a, b, c], [x, y, z] => [a * x, b * y, c * z, b * z + c * y, a * z + c * x, a * y + b * x]
  | _, _ => []
/-- the product of two kept rows is kept -/
theorem gauss {p q : List Int} (hp : p.length = 3) (hq : q.length = 3) (np : nrm p) (nq : nrm q) {d : Int} (h : ∀ x ∈ cof p q, d ∣ x) : d ∣ 1 := by
  obtain ⟨a, b, c, rfl⟩ := len3 hp
  obtain ⟨x, y, z, rfl⟩ := len3 hq
  have h0 := h (a * x) (by simp [cof])
  have h1 := h (b * y) (by simp [cof])
  have h2 := h (c * z) (by simp [cof])
  have h3 := h (b * z + c * y) (by simp [cof])
  have h4 := h (a * z + c * x) (by simp [cof])
  have h5 := h (a * y + b * x) (by simp [cof])
  have sub : ∀ {s t w v : Int}, d ∣ s → d ∣ t → w = v * s - t → d ∣ w := fun hs ht e => by rw [e]; exact Int.dvd_sub (Int.dvd_mul_of_dvd_right hs) ht
  have sq : ∀ t ∈ [a, b, c], d ∣ t * t := by
    intro t ht
    refine dv1 nq fun w hw => ?_
    simp only [List.mem_cons, List.not_mem_nil, or_false] at ht hw
    rcases ht with rfl | rfl | rfl <;> rcases hw with rfl | rfl | rfl
    · exact ⟨t * (h0.choose), by have := h0.choose_spec; grind⟩
    · exact sub (v := t) h5 (t := b * (t * x)) (Int.dvd_mul_of_dvd_right h0) (by grind)
    · exact sub (v := t) h4 (t := c * (t * x)) (Int.dvd_mul_of_dvd_right h0) (by grind)
    · exact sub (v := t) h5 (t := a * (t * y)) (Int.dvd_mul_of_dvd_right h1) (by grind)
    · exact ⟨t * (h1.choose), by have := h1.choose_spec; grind⟩
    · exact sub (v := t) h3 (t := c * (t * y)) (Int.dvd_mul_of_dvd_right h1) (by grind)
    · exact sub (v := t) h4 (t := a * (t * z)) (Int.dvd_mul_of_dvd_right h2) (by grind)
    · exact sub (v := t) h3 (t := b * (t * z)) (Int.dvd_mul_of_dvd_right h2) (by grind)
    · exact ⟨t * (h2.choose), by have := h2.choose_spec; grind⟩
  refine dv1 np fun s hs => dv1 np fun t ht => dv1 np fun v hv => dv1 np fun w hw => ?_
  have pig : s = t ∨ s = v ∨ s = w ∨ t = v ∨ t = w ∨ v = w := by
    simp only [List.mem_cons, List.not_mem_nil, or_false] at hs ht hv hw
    rcases hs with rfl | rfl | rfl <;> rcases ht with rfl | rfl | rfl <;> rcases hv with rfl | rfl | rfl <;> rcases hw with rfl | rfl | rfl <;> simp
  have fin : ∀ {m n : Int}, m ∈ [a, b, c] → n = m * m → ∀ k, d ∣ n * k := fun hm e k => by rw [e]; exact Int.dvd_mul_of_dvd_left (sq _ hm)
  rcases pig with rfl | rfl | rfl | rfl | rfl | rfl
  · have := fin hs rfl (v * w); rwa [show 1 * s * s * v * w = s * s * (v * w) by grind]
  · have := fin hs rfl (t * w); rwa [show 1 * s * t * s * w = s * s * (t * w) by grind]
  · have := fin hs rfl (t * v); rwa [show 1 * s * t * v * s = s * s * (t * v) by grind]
  · have := fin ht rfl (s * w); rwa [show 1 * s * t * t * w = t * t * (s * w) by grind]
  · have := fin ht rfl (s * v); rwa [show 1 * s * t * v * t = t * t * (s * v) by grind]
  · have := fin hv rfl (s * t); rwa [show 1 * s * t * v * v = v * v * (s * t) by grind]
theorem wor_crs {u p q x : List Int} (h : u.length = 6) (hp : p.length = 3) (hq : q.length = 3) (hx : x.length = 3) : wor u (crs (crs p q) x) = dot p x * dot p x * wor u q - dot p x * dot q x * bot u p q + dot q x * dot q x * wor u p := by
  obtain ⟨a, b, c, d, e, f, rfl⟩ := len6 h
  obtain ⟨p0, p1, p2, rfl⟩ := len3 hp
  obtain ⟨q0, q1, q2, rfl⟩ := len3 hq
  obtain ⟨x0, x1, x2, rfl⟩ := len3 hx
  simp only [crs, wor, bot, addL, dot, List.zipWith_cons_cons, List.zipWith_nil_left]
  grind
theorem wor_lin {u v w : List Int} (h : u.length = 6) (hv : v.length = 3) (hw : w.length = 3) : wor u (addL v w) = wor u v + wor u w + bot u v w := by
  unfold bot; omega
/-- the six numbers of a line's two points -/
def qf (u l : List Int) : List Int := [wor u (crs l [1, 0, 0]), wor u (crs l [0, 1, 0]), wor u (crs l [0, 0, 1]), bot u (crs l [0, 1, 0]) (crs l [0, 0, 1]), bot u (crs l [1, 0, 0]) (crs l [0, 0, 1]), bot u (crs l [1, 0, 0]) (crs l [0, 1, 0])]
theorem bot_scl (k : Int) {u v w : List Int} (h : u.length = 6) (hv : v.length = 3) (hw : w.length = 3) : bot u (scl k v) (scl k w) = k * k * bot u v w := by
  obtain ⟨a, b, c, d, e, f, rfl⟩ := len6 h
  obtain ⟨p0, p1, p2, rfl⟩ := len3 hv
  obtain ⟨q0, q1, q2, rfl⟩ := len3 hw
  simp only [scl, wor, bot, addL, List.map_cons, List.map_nil, List.zipWith_cons_cons, List.zipWith_nil_left]
  grind
theorem qf_scl (k : Int) {u l : List Int} (h : u.length = 6) (hl : l.length = 3) : qf u (scl k l) = scl (k * k) (qf u l) := by
  have c : ∀ {x : List Int}, x.length = 3 → crs (scl k l) x = scl k (crs l x) := fun hx => crs_scll hl hx k
  have ln : ∀ {x : List Int}, x.length = 3 → (crs l x).length = 3 := fun hx => crs_len hl hx
  unfold qf
  rw [c rfl, c rfl, c rfl, wor_sclp k h (ln rfl), wor_sclp k h (ln rfl), wor_sclp k h (ln rfl), bot_scl k h (ln rfl) (ln rfl), bot_scl k h (ln rfl) (ln rfl), bot_scl k h (ln rfl) (ln rfl)]
  rfl
theorem qf_cof {u p q : List Int} (h : u.length = 6) (hp : p.length = 3) (hq : q.length = 3) (h1 : wor u p = 0) : qf u (crs p q) = scl (-1) (cof p (othR u p q)) := by
  have w0 := fun (x : List Int) (hx : x.length = 3) => wor_crs h hp hq hx
  obtain ⟨p0, p1, p2, rfl⟩ := len3 hp
  obtain ⟨q0, q1, q2, rfl⟩ := len3 hq
  have b0 : ∀ v w : List Int, bot u v w = wor u (addL v w) - wor u v - wor u w := fun _ _ => rfl
  have ad : ∀ x y : List Int, x.length = 3 → y.length = 3 → addL (crs (crs [p0, p1, p2] [q0, q1, q2]) x) (crs (crs [p0, p1, p2] [q0, q1, q2]) y) = crs (crs [p0, p1, p2] [q0, q1, q2]) (addL x y) := by
    intro x y hx hy
    obtain ⟨x0, x1, x2, rfl⟩ := len3 hx
    obtain ⟨y0, y1, y2, rfl⟩ := len3 hy
    simp only [crs, addL, List.zipWith_cons_cons, List.zipWith_nil_left, List.cons.injEq, and_true]
    refine ⟨by grind, by grind, by grind⟩
  unfold qf
  rw [b0 (crs (crs [p0, p1, p2] [q0, q1, q2]) [0, 1, 0]), b0 (crs (crs [p0, p1, p2] [q0, q1, q2]) [1, 0, 0]) (crs (crs [p0, p1, p2] [q0, q1, q2]) [0, 0, 1]), b0 (crs (crs [p0, p1, p2] [q0, q1, q2]) [1, 0, 0]) (crs (crs [p0, p1, p2] [q0, q1, q2]) [0, 1, 0]), ad _ _ rfl rfl, ad _ _ rfl rfl, ad _ _ rfl rfl, w0 _ rfl, w0 _ rfl, w0 _ rfl, w0 _ rfl, w0 _ rfl, w0 _ rfl, h1]
  unfold othR
  generalize bot u [p0, p1, p2] [q0, q1, q2] = B
  generalize wor u [q0, q1, q2] = A
  simp only [cof, scl, dot, addL, List.zipWith_cons_cons, List.zipWith_nil_left, List.map_cons, List.map_nil, List.cons.injEq, and_true]
  refine ⟨by grind, by grind, by grind, by grind, by grind, by grind⟩
theorem cof_scl (g : Int) {p r : List Int} (hp : p.length = 3) (hr : r.length = 3) : cof p (scl g r) = scl g (cof p r) := by
  obtain ⟨p0, p1, p2, rfl⟩ := len3 hp
  obtain ⟨q0, q1, q2, rfl⟩ := len3 hr
  simp only [cof, scl, List.map_cons, List.map_nil, List.cons.injEq, and_true]
  refine ⟨by grind, by grind, by grind, by grind, by grind, by grind⟩
/-- the product of the two points is no greater than the line's six numbers -/
theorem cof_le {u l p r q : List Int} (h : u.length = 6) (hd : det6 u ≠ 0) (hl : l.length = 3) (nl : nrm l) (hp : p.length = 3) (np : nrm p) (dp : dot p l = 0) (h1 : wor u p = 0) (hq : q.length = 3) (nq : nrm q) (dq : dot q l = 0) (ne : p ≠ q) (hr : r = keptL (othR u p q)) : ∃ c : Int, c ≠ 0 ∧ qf u l = scl c (cof p r) := by
  obtain ⟨z, k, k0, e⟩ := on_two hl nl hp np hq nq dp dq ne
  obtain ⟨nz, o⟩ := othR_is h hd hl nl hp np dp h1 hq nq dq ne
  rw [← hr] at o
  obtain ⟨g, g0, eg, _⟩ := keptL_is nz
  rw [← hr] at eg
  have i := qf_cof h hp hq h1
  rw [e, qf_scl k h hl, eg, cof_scl g hp o.len, scl_scl] at i
  have lq : (qf u l).length = 6 := rfl
  have lc : (cof p r).length = 6 := by
    obtain ⟨p0, p1, p2, rfl⟩ := len3 hp
    obtain ⟨q0, q1, q2, rfl⟩ := len3 o.len
    rfl
  have kk : k * k ≠ 0 := mul_ne0 k0 k0
  -- k k divides g
  have kd : k * k ∣ g := by
    have h2 : k * k ∣ gcdL (scl (-1 * g) (cof p r)) := dvd_gcdL fun n hn => by
      rw [← i] at hn
      obtain ⟨t, _, rfl⟩ := List.mem_map.mp hn
      exact Int.dvd_mul_right ..
    rw [gcdL_scl] at h2
    have h3 : gcdL (cof p r) = 1 := by
      have h4 : gcdL (cof p r) ∣ 1 := gauss hp o.len np o.nr fun x hx => gcdL_dvd hx
      have h5 := gcdL_nonneg (cof p r)
      have := Int.le_of_dvd (by decide) h4
      have h6 : gcdL (cof p r) ≠ 0 := fun e => by rw [e] at h4; simp at h4
      omega
    rw [h3, Int.mul_one] at h2
    have := Int.dvd_natAbs.mp h2
    rw [show (-1 * g) = -g by omega] at this
    exact (Int.dvd_neg).mp this
  obtain ⟨c, hc⟩ := kd
  refine ⟨-c, fun e => g0 (by rw [hc, show c = 0 by omega]; simp), ?_⟩
  refine scl_inj kk ?_
  rw [i, scl_scl, hc]
  congr 1
  grind
/-- the greatest of three -/
def mx : List Int → Nat
  | [a, b, c] => max a.natAbs (max b.natAbs c.natAbs)
  | _ => 0
theorem mx_le {v : List Int} (hv : v.length = 3) {n : Nat} : mx v ≤ n ↔ ∀ x ∈ v, x.natAbs ≤ n := by
  obtain ⟨a, b, c, rfl⟩ := len3 hv
  simp only [mx, List.mem_cons, List.not_mem_nil, or_false]
  constructor
  · rintro h x (rfl | rfl | rfl) <;> omega
  · intro h
    have h1 := h a (by simp)
    have h2 := h b (by simp)
    have h3 := h c (by simp)
    omega
theorem mx_mem {v : List Int} (hv : v.length = 3) : ∃ x ∈ v, x.natAbs = mx v := by
  obtain ⟨a, b, c, rfl⟩ := len3 hv
  simp only [mx]
  by_cases h1 : a.natAbs ≥ b.natAbs ∧ a.natAbs ≥ c.natAbs
  · exact ⟨a, by simp, by omega⟩
  · by_cases h2 : b.natAbs ≥ c.natAbs
    · exact ⟨b, by simp, by omega⟩
    · exact ⟨c, by simp, by omega⟩
theorem mx_sz {v : List Int} (hv : v.length = 3) {n : Nat} : szL n v ↔ mx v < 2 ^ n := by
  have hp : 0 < 2 ^ n := Nat.two_pow_pos n
  constructor
  · intro h
    have := (mx_le hv (n := 2 ^ n - 1)).mpr fun x hx => by have := h x hx; omega
    omega
  · intro h x hx
    have := (mx_le hv).mp (Nat.le_refl (mx v)) x hx
    omega
theorem mx_pos {v : List Int} (hv : v.length = 3) (nv : nrm v) : 1 ≤ mx v := by
  rcases Nat.eq_zero_or_pos (mx v) with h | h
  · refine absurd (fun x hx => ?_) (nrm_ne nv)
    have := (mx_le hv).mp (Nat.le_of_eq h) x hx
    omega
  · exact h
theorem two_q {a b q : Nat} (h1 : a ≤ q + b) (h2 : a * b ≤ q * q) : a ≤ 2 * q := by
  apply Classical.byContradiction
  intro h
  have h3 : 2 * q + 1 ≤ a := by omega
  have h4 : q + 1 ≤ b := by omega
  have h5 := Nat.mul_le_mul h3 h4
  have h6 : q * q < (2 * q + 1) * (q + 1) := by
    have : q * q ≤ (2 * q + 1) * q := Nat.mul_le_mul_right _ (by omega)
    have : (2 * q + 1) * q < (2 * q + 1) * (q + 1) := Nat.mul_lt_mul_of_pos_left (by omega) (by omega)
    omega
  omega
/-- two rows by the six numbers of their product -/
theorem mx_cof {p r : List Int} (hp : p.length = 3) (hr : r.length = 3) {q : Nat} (h : ∀ x ∈ cof p r, x.natAbs ≤ q) : mx p * mx r ≤ 2 * q := by
  obtain ⟨x, hx, ex⟩ := mx_mem hp
  obtain ⟨y, hy, ey⟩ := mx_mem hr
  rw [← ex, ← ey, ← Int.natAbs_mul]
  obtain ⟨a, b, c, rfl⟩ := len3 hp
  obtain ⟨s, t, w, rfl⟩ := len3 hr
  have h0 := h (a * s) (by simp [cof])
  have h1 := h (b * t) (by simp [cof])
  have h2 := h (c * w) (by simp [cof])
  have h3 := h (b * w + c * t) (by simp [cof])
  have h4 := h (a * w + c * s) (by simp [cof])
  have h5 := h (a * t + b * s) (by simp [cof])
  have k : ∀ {i j m n : Int}, (i * m).natAbs ≤ q → (j * n).natAbs ≤ q → (i * n + j * m).natAbs ≤ q → (i * n).natAbs ≤ 2 * q := by
    intro i j m n hm hn hs
    refine two_q (b := (j * m).natAbs) (by omega) ?_
    have e : (i * n).natAbs * (j * m).natAbs = (i * m).natAbs * (j * n).natAbs := by
      rw [← Int.natAbs_mul, ← Int.natAbs_mul]; congr 1; grind
    rw [e]
    exact Nat.mul_le_mul hm hn
  have sw : ∀ {m n : Int}, (m + n).natAbs ≤ q → (n + m).natAbs ≤ q := fun h => by rw [Int.add_comm]; exact h
  simp only [List.mem_cons, List.not_mem_nil, or_false] at hx hy
  rcases hx with rfl | rfl | rfl <;> rcases hy with rfl | rfl | rfl
  · omega
  · exact k h0 h1 h5
  · exact k h0 h2 h4
  · exact k h1 h0 (sw h5)
  · omega
  · exact k h1 h2 h3
  · exact k h2 h0 (sw h4)
  · exact k h2 h1 (sw h3)
  · omega
theorem nadd {x y : Int} {a b : Nat} (h : x.natAbs ≤ a) (k : y.natAbs ≤ b) : (x + y).natAbs ≤ a + b := Nat.le_trans (Int.natAbs_add_le x y) (Nat.add_le_add h k)
theorem n2 {x : Int} {a : Nat} (h : x.natAbs ≤ a) : (2 * x).natAbs ≤ a + a := by omega
theorem wor_mx {u v : List Int} {M n : Nat} (h : u.length = 6) (hv : v.length = 3) (hM : ∀ x ∈ u, x.natAbs ≤ M) (hn : ∀ x ∈ v, x.natAbs ≤ n) : (wor u v).natAbs ≤ 6 * (M * (n * n)) := by
  obtain ⟨a, b, c, d, e, f, rfl⟩ := len6 h
  obtain ⟨x, y, z, rfl⟩ := len3 hv
  have k : ∀ {i j m : Int}, i ∈ [a, b, c, d, e, f] → j ∈ [x, y, z] → m ∈ [x, y, z] → (i * j * m).natAbs ≤ M * (n * n) := fun hi hj hm => by
    rw [Int.natAbs_mul, Int.natAbs_mul, Nat.mul_assoc]
    exact Nat.mul_le_mul (hM _ hi) (Nat.mul_le_mul (hn _ hj) (hn _ hm))
  have k1 := k (i := a) (j := x) (m := x) (by simp) (by simp) (by simp)
  have k2 := k (i := b) (j := y) (m := y) (by simp) (by simp) (by simp)
  have k3 := k (i := c) (j := z) (m := z) (by simp) (by simp) (by simp)
  have k4 := k (i := d) (j := y) (m := z) (by simp) (by simp) (by simp)
  have k5 := k (i := e) (j := x) (m := z) (by simp) (by simp) (by simp)
  have k6 := k (i := f) (j := x) (m := y) (by simp) (by simp) (by simp)
  simp only [wor]
  refine Nat.le_trans (nadd (nadd (nadd (nadd (nadd k1 k2) k3) k4) k5) k6) (Nat.le_of_eq ?_)
  generalize M * (n * n) = T
  omega
theorem bot_mx {u v w : List Int} {M n : Nat} (h : u.length = 6) (hv : v.length = 3) (hw : w.length = 3) (hM : ∀ x ∈ u, x.natAbs ≤ M) (hn : ∀ x ∈ v, x.natAbs ≤ n) (hm : ∀ x ∈ w, x.natAbs ≤ n) : (bot u v w).natAbs ≤ 12 * (M * (n * n)) := by
  obtain ⟨a, b, c, d, e, f, rfl⟩ := len6 h
  obtain ⟨x, y, z, rfl⟩ := len3 hv
  obtain ⟨x', y', z', rfl⟩ := len3 hw
  have k : ∀ {i j m : Int}, i ∈ [a, b, c, d, e, f] → j ∈ [x, y, z] → m ∈ [x', y', z'] → (i * j * m).natAbs ≤ M * (n * n) := fun hi hj hm' => by
    rw [Int.natAbs_mul, Int.natAbs_mul, Nat.mul_assoc]
    exact Nat.mul_le_mul (hM _ hi) (Nat.mul_le_mul (hn _ hj) (hm _ hm'))
  have e1 : bot [a, b, c, d, e, f] [x, y, z] [x', y', z'] = 2 * (a * x * x') + 2 * (b * y * y') + 2 * (c * z * z') + (d * y * z' + d * z * y') + (e * x * z' + e * z * x') + (f * x * y' + f * y * x') := by
    simp only [bot, wor, addL, List.zipWith_cons_cons, List.zipWith_nil_left]; grind
  have k1 := k (i := a) (j := x) (m := x') (by simp) (by simp) (by simp)
  have k2 := k (i := b) (j := y) (m := y') (by simp) (by simp) (by simp)
  have k3 := k (i := c) (j := z) (m := z') (by simp) (by simp) (by simp)
  have k4 := k (i := d) (j := y) (m := z') (by simp) (by simp) (by simp)
  have k5 := k (i := d) (j := z) (m := y') (by simp) (by simp) (by simp)
  have k6 := k (i := e) (j := x) (m := z') (by simp) (by simp) (by simp)
  have k7 := k (i := e) (j := z) (m := x') (by simp) (by simp) (by simp)
  have k8 := k (i := f) (j := x) (m := y') (by simp) (by simp) (by simp)
  have k9 := k (i := f) (j := y) (m := x') (by simp) (by simp) (by simp)
  rw [e1]
  refine Nat.le_trans (nadd (nadd (nadd (nadd (nadd (n2 k1) (n2 k2)) (n2 k3)) (nadd k4 k5)) (nadd k6 k7)) (nadd k8 k9)) (Nat.le_of_eq ?_)
  generalize M * (n * n) = T
  omega
theorem qf_mx {u l : List Int} {M : Nat} (h : u.length = 6) (hl : l.length = 3) (hM : ∀ x ∈ u, x.natAbs ≤ M) : ∀ x ∈ qf u l, x.natAbs ≤ 12 * (M * (mx l * mx l)) := by
  have c : ∀ {e : List Int}, e ∈ [[1, 0, 0], [0, 1, 0], [0, 0, 1]] → ∀ x ∈ crs l e, x.natAbs ≤ mx l := by
    obtain ⟨a, b, c, rfl⟩ := len3 hl
    intro e he x hx
    simp only [List.mem_cons, List.not_mem_nil, or_false] at he
    simp only [mx]
    rcases he with rfl | rfl | rfl <;> simp [crs] at hx <;> rcases hx with rfl | rfl | rfl <;> omega
  have c0 := c (e := [1, 0, 0]) (by simp)
  have c1 := c (e := [0, 1, 0]) (by simp)
  have c2 := c (e := [0, 0, 1]) (by simp)
  have ln : ∀ {x : List Int}, x.length = 3 → (crs l x).length = 3 := fun hx => crs_len hl hx
  have w0 := wor_mx h (ln rfl) hM c0
  have w1 := wor_mx h (ln rfl) hM c1
  have w2 := wor_mx h (ln rfl) hM c2
  have b0 := bot_mx h (ln rfl) (ln rfl) hM c1 c2
  have b1 := bot_mx h (ln rfl) (ln rfl) hM c0 c2
  have b2 := bot_mx h (ln rfl) (ln rfl) hM c0 c1
  intro x hx
  simp only [qf, List.mem_cons, List.not_mem_nil, or_false] at hx
  rcases hx with rfl | rfl | rfl | rfl | rfl | rfl <;> omega
/-- heights: the two points of a line on a curve -/
theorem oth_mx {u l p r q : List Int} {m : Nat} (h : u.length = 6) (hd : det6 u ≠ 0) (su : szL m u) (hl : l.length = 3) (nl : nrm l) (hp : p.length = 3) (np : nrm p) (dp : dot p l = 0) (h1 : wor u p = 0) (hq : q.length = 3) (nq : nrm q) (dq : dot q l = 0) (ne : p ≠ q) (hr : r = keptL (othR u p q)) : mx p * mx r ≤ 2 ^ (m + 5) * (mx l * mx l) := by
  obtain ⟨c, c0, e⟩ := cof_le h hd hl nl hp np dp h1 hq nq dq ne hr
  obtain ⟨nz, o⟩ := othR_is h hd hl nl hp np dp h1 hq nq dq ne
  rw [← hr] at o
  have hM : ∀ x ∈ u, x.natAbs ≤ 2 ^ m := fun x hx => Nat.le_of_lt (su x hx)
  have hq := qf_mx h hl hM
  have k := mx_cof hp o.len (q := 12 * (2 ^ m * (mx l * mx l))) fun x hx => by
    have h2 := hq (c * x) (by rw [e]; exact List.mem_map.mpr ⟨x, hx, rfl⟩)
    rw [Int.natAbs_mul] at h2
    have : 1 * x.natAbs ≤ c.natAbs * x.natAbs := Nat.mul_le_mul_right _ (by omega)
    omega
  have e5 : 2 ^ (m + 5) * (mx l * mx l) = 32 * (2 ^ m * (mx l * mx l)) := by
    rw [Nat.pow_add, Nat.mul_comm (2 ^ m), Nat.mul_assoc]
  rw [e5]
  omega
/-- so: heights that go up step by step -/
theorem oth_up {p l r : List Int} {c s : Nat} (hp : 1 ≤ mx p) (k : mx p * mx r ≤ 2 ^ c * (mx l * mx l)) (hs : mx l ≤ 2 ^ s * mx p) : mx r ≤ 2 ^ (c + s) * mx l := by
  have h1 : mx p * mx r ≤ mx p * (2 ^ (c + s) * mx l) := by
    refine Nat.le_trans k ?_
    have : 2 ^ c * (mx l * mx l) ≤ 2 ^ c * (2 ^ s * mx p * mx l) := Nat.mul_le_mul_left _ (Nat.mul_le_mul_right _ hs)
    refine Nat.le_trans this (Nat.le_of_eq ?_)
    rw [Nat.pow_add]
    grind
  exact Nat.le_of_mul_le_mul_left h1 hp
def sp5 (f : D → D → D → D → D → Mu → Pst → Xst → Prop) : DSp
  | [a, b, c, d, e], μ, Q, X => f a b c d e μ Q X
  | _, _, _, _ => False
theorem sp5_of [NC] {f : D → D → D → D → D → Mu → Pst → Xst → Prop} {n : Nat} {m : MB} (h : ∀ a b c d e μ Q X, f a b c d e μ Q X → wpB m (startD n [a, b, c, d, e]) μ (enD Q X)) : ∀ ds μ Q X, sp5 f ds μ Q X → ds.length = 5 ∧ wpB m (startD n ds) μ (enD Q X)
  | [a, b, c, d, e], μ, Q, X, q => ⟨rfl, h a b c d e μ Q X q⟩
  | [], _, _, _, q => q.elim
  | [_], _, _, _, q => q.elim
  | [_, _], _, _, _, q => q.elim
  | [_, _, _], _, _, _, q => q.elim
  | [_, _, _, _], _, _, _, q => q.elim
  | _ :: _ :: _ :: _ :: _ :: _ :: _, _, _, _, q => q.elim
end Dl

/-! The data layer, part W: curves through five points. -/
namespace Dl
open PySem L2 PyProof.Rows
/-- two lines taken together, so many times -/
def two6 : List Int → List Int → Int → List Int
  | [a, b, c], [x, y, z], k => [k * (a * x), k * (b * y), k * (c * z), k * (b * z + c * y), k * (a * z + c * x), k * (a * y + b * x)]
  | _, _, _ => []
def sub6 (u v : List Int) : List Int := List.zipWith (· - ·) u v
/-- the bracket of three points -/
def brk (u v w : List Int) : Int := dot (crs u v) w
theorem two6_len {l m : List Int} {k : Int} (hl : l.length = 3) (hm : m.length = 3) : (two6 l m k).length = 6 := by
  obtain ⟨a, b, c, rfl⟩ := len3 hl
  obtain ⟨x, y, z, rfl⟩ := len3 hm
  rfl
theorem sub6_len {u v : List Int} (hu : u.length = 6) (hv : v.length = 6) : (sub6 u v).length = 6 := by
  simp [sub6, hu, hv]
theorem two6_wor {l m p : List Int} {k : Int} (hl : l.length = 3) (hm : m.length = 3) (hp : p.length = 3) : wor (two6 l m k) p = k * (dot l p * dot m p) := by
  obtain ⟨a, b, c, rfl⟩ := len3 hl
  obtain ⟨x, y, z, rfl⟩ := len3 hm
  obtain ⟨r, s, t, rfl⟩ := len3 hp
  simp only [two6, wor, dot]
  grind
theorem sub6_wor {u v p : List Int} (hu : u.length = 6) (hv : v.length = 6) (hp : p.length = 3) : wor (sub6 u v) p = wor u p - wor v p := by
  obtain ⟨a, b, c, d, e, f, rfl⟩ := len6 hu
  obtain ⟨a', b', c', d', e', f', rfl⟩ := len6 hv
  obtain ⟨r, s, t, rfl⟩ := len3 hp
  simp only [sub6, List.zipWith_cons_cons, List.zipWith_nil_left, wor]
  grind
theorem two6_slp {q n r : List Int} {k : Int} (hq : q.length = 6) (hn : n.length = 3) (hr : r.length = 3) : dotL q (slp6 (two6 n r k)) = -(k * k) * wor q (crs n r) := by
  obtain ⟨a, b, c, d, e, f, rfl⟩ := len6 hq
  obtain ⟨x, y, z, rfl⟩ := len3 hn
  obtain ⟨u, v, w, rfl⟩ := len3 hr
  simp only [two6, slp6, dotL, wor, crs, List.zipWith_cons_cons, List.zipWith_nil_left, List.sum_cons, List.sum_nil]
  grind
theorem two6_det {n r : List Int} {k : Int} (hn : n.length = 3) (hr : r.length = 3) : det6 (two6 n r k) = 0 := by
  obtain ⟨x, y, z, rfl⟩ := len3 hn
  obtain ⟨u, v, w, rfl⟩ := len3 hr
  simp only [two6, det6]
  grind
theorem two6_neg {n r : List Int} {k : Int} (hn : n.length = 3) (hr : r.length = 3) {q : List Int} (hq : q.length = 6) : sub6 q (two6 n r k) = List.zipWith (fun a b => 1 * a + b) q (two6 n r (-k)) := by
  obtain ⟨a, b, c, d, e, f, rfl⟩ := len6 hq
  obtain ⟨x, y, z, rfl⟩ := len3 hn
  obtain ⟨u, v, w, rfl⟩ := len3 hr
  simp only [two6, sub6, List.zipWith_cons_cons, List.zipWith_nil_left, List.cons.injEq, and_true]
  grind
/-- the determinant of two pairs of lines -/
theorem two_det {l m n r : List Int} {s t : Int} (hl : l.length = 3) (hm : m.length = 3) (hn : n.length = 3) (hr : r.length = 3) :
    det6 (sub6 (two6 l m s) (two6 n r t)) = s * s * t * (dot n (crs l m) * dot r (crs l m)) - s * t * t * (dot l (crs n r) * dot m (crs n r)) := by
  have l1 := two6_len (k := s) hl hm
  have l2 := two6_len (k := -t) hn hr
  have h := det6_mix l1 l2 1
  rw [← two6_neg hn hr l1] at h
  simp only [nums] at h
  rw [two6_det hn hr, two6_det hl hm, two6_slp l1 hn hr, two6_slp l2 hl hm, two6_wor hl hm (crs_len hn hr), two6_wor hn hr (crs_len hl hm)] at h
  rw [h]
  grind
section
variable {p q r s : List Int} (hp : p.length = 3) (hq : q.length = 3) (hr : r.length = 3) (hs : s.length = 3)
include hp hq hr
theorem brk_rot : brk q r p = brk p q r := by
  obtain ⟨a, b, c, rfl⟩ := len3 hp
  obtain ⟨d, e, f, rfl⟩ := len3 hq
  obtain ⟨g, h, i, rfl⟩ := len3 hr
  simp only [brk, dot, crs]
  grind
theorem brk_sw : brk q p r = - brk p q r := by
  obtain ⟨a, b, c, rfl⟩ := len3 hp
  obtain ⟨d, e, f, rfl⟩ := len3 hq
  obtain ⟨g, h, i, rfl⟩ := len3 hr
  simp only [brk, dot, crs]
  grind
include hs
/-- lines through four points -/
theorem four1 : dot (crs p q) (crs (crs p r) (crs q s)) = brk p q r * brk p q s := by
  obtain ⟨a, b, c, rfl⟩ := len3 hp
  obtain ⟨d, e, f, rfl⟩ := len3 hq
  obtain ⟨g, h, i, rfl⟩ := len3 hr
  obtain ⟨j, k, l, rfl⟩ := len3 hs
  simp only [brk, dot, crs]
  grind
theorem four2 : dot (crs r s) (crs (crs p r) (crs q s)) = brk p r s * brk q r s := by
  obtain ⟨a, b, c, rfl⟩ := len3 hp
  obtain ⟨d, e, f, rfl⟩ := len3 hq
  obtain ⟨g, h, i, rfl⟩ := len3 hr
  obtain ⟨j, k, l, rfl⟩ := len3 hs
  simp only [brk, dot, crs]
  grind
end
section
variable {a b c d e : List Int} (ha : a.length = 3) (hb : b.length = 3) (hc : c.length = 3) (hd : d.length = 3) (he : e.length = 3)
include ha hb hc hd he
theorem pluck : brk a c e * brk b d e - brk a b e * brk c d e = brk a d e * brk b c e := by
  obtain ⟨a1, a2, a3, rfl⟩ := len3 ha
  obtain ⟨b1, b2, b3, rfl⟩ := len3 hb
  obtain ⟨c1, c2, c3, rfl⟩ := len3 hc
  obtain ⟨d1, d2, d3, rfl⟩ := len3 hd
  obtain ⟨e1, e2, e3, rfl⟩ := len3 he
  simp only [brk, dot, crs]
  grind
theorem pluck2 : brk a d c * brk a b e - brk a b d * brk a e c = brk a b c * brk a d e := by
  obtain ⟨a1, a2, a3, rfl⟩ := len3 ha
  obtain ⟨b1, b2, b3, rfl⟩ := len3 hb
  obtain ⟨c1, c2, c3, rfl⟩ := len3 hc
  obtain ⟨d1, d2, d3, rfl⟩ := len3 hd
  obtain ⟨e1, e2, e3, rfl⟩ := len3 he
  simp only [brk, dot, crs]
  grind
end
/-- five points, no three on one line -/
structure Free (a b c d e : List Int) : Prop where
  abc : brk a b c ≠ 0
  abd : brk a b d ≠ 0
  abe : brk a b e ≠ 0
  acd : brk a c d ≠ 0
  ace : brk a c e ≠ 0
  ade : brk a d e ≠ 0
  bcd : brk b c d ≠ 0
  bce : brk b c e ≠ 0
  bde : brk b d e ≠ 0
  cde : brk c d e ≠ 0
/-- the six numbers of the curve through five points, not kept -/
def thr (a b c d e : List Int) : List Int := sub6 (two6 (jn a b) (jn c d) (dot (jn a c) e * dot (jn b d) e)) (two6 (jn a c) (jn b d) (dot (jn a b) e * dot (jn c d) e))
theorem dot_scll (s : Int) {u v : List Int} : dot (scl s u) v = s * dot u v := by rw [dot_comm, dot_scl, dot_comm]
section
variable {n : Nat} {a b c d e : List Int} (ta : tri n a) (tb : tri n b) (tc : tri n c) (td : tri n d) (te : tri n e) (nab : a ≠ b) (ncd : c ≠ d) (nac : a ≠ c) (nbd : b ≠ d)
include ta tb tc td te nab ncd nac nbd
theorem thr_len : (thr a b c d e).length = 6 := sub6_len (two6_len (tri.jn ta tb nab).1 (tri.jn tc td ncd).1) (two6_len (tri.jn ta tc nac).1 (tri.jn tb td nbd).1)
theorem thr_det : ∃ g : Int, g ≠ 0 ∧ g * det6 (thr a b c d e) = (brk a c e * brk b d e) * (brk a b e * brk c d e) * (brk a b c * brk a b d * (brk a c d * brk b c d)) * (brk a d e * brk b c e) := by
  have l1 := (tri.jn ta tb nab).1
  have l2 := (tri.jn tc td ncd).1
  have l3 := (tri.jn ta tc nac).1
  have l4 := (tri.jn tb td nbd).1
  obtain ⟨g1, z1, e1, _⟩ := keptL_is (tri.crs0 ta tb nab)
  obtain ⟨g2, z2, e2, _⟩ := keptL_is (tri.crs0 tc td ncd)
  obtain ⟨g3, z3, e3, _⟩ := keptL_is (tri.crs0 ta tc nac)
  obtain ⟨g4, z4, e4, _⟩ := keptL_is (tri.crs0 tb td nbd)
  have e1 : crs a b = scl g1 (jn a b) := e1
  have e2 : crs c d = scl g2 (jn c d) := e2
  have e3 : crs a c = scl g3 (jn a c) := e3
  have e4 : crs b d = scl g4 (jn b d) := e4
  have f1 := four1 ta.1 tc.1 tb.1 td.1
  have f2 := four2 ta.1 tc.1 tb.1 td.1
  have f3 := four1 ta.1 tb.1 tc.1 td.1
  have f4 := four2 ta.1 tb.1 tc.1 td.1
  have b1 : brk a c b = - brk a b c := by rw [← brk_rot ta.1 tb.1 tc.1, ← brk_rot tb.1 tc.1 ta.1, brk_sw ta.1 tc.1 tb.1] <;> first | rfl | omega
  have b2 : brk c b d = - brk b c d := brk_sw tb.1 tc.1 td.1
  have p := pluck ta.1 tb.1 tc.1 td.1 te.1
  have s1 : brk a c e = g3 * dot (jn a c) e := by unfold brk; rw [e3, dot_scll]
  have s2 : brk b d e = g4 * dot (jn b d) e := by unfold brk; rw [e4, dot_scll]
  have s3 : brk a b e = g1 * dot (jn a b) e := by unfold brk; rw [e1, dot_scll]
  have s4 : brk c d e = g2 * dot (jn c d) e := by unfold brk; rw [e2, dot_scll]
  rw [e3, e1, e2, crs_scll l1 (by rw [scl_len]; exact l2), crs_sclr l1 l2, dot_scll, dot_scl, dot_scl, b1] at f1
  rw [e4, e1, e2, crs_scll l1 (by rw [scl_len]; exact l2), crs_sclr l1 l2, dot_scll, dot_scl, dot_scl, b2] at f2
  rw [e1, e3, e4, crs_scll l3 (by rw [scl_len]; exact l4), crs_sclr l3 l4, dot_scll, dot_scl, dot_scl] at f3
  rw [e2, e3, e4, crs_scll l3 (by rw [scl_len]; exact l4), crs_sclr l3 l4, dot_scll, dot_scl, dot_scl] at f4
  refine ⟨(g1 * g2 * g3 * g4) * (g1 * g2 * g3 * g4) * (g1 * g2 * g3 * g4), ?_, ?_⟩
  · have z : g1 * g2 * g3 * g4 ≠ 0 := Int.mul_ne_zero (Int.mul_ne_zero (Int.mul_ne_zero z1 z2) z3) z4
    exact Int.mul_ne_zero (Int.mul_ne_zero z z) z
  · unfold thr
    rw [two_det l1 l2 l3 l4, ← p, s1, s2, s3, s4]
    generalize dot (jn a c) (crs (jn a b) (jn c d)) = A at *
    generalize dot (jn b d) (crs (jn a b) (jn c d)) = B at *
    generalize dot (jn a b) (crs (jn a c) (jn b d)) = C at *
    generalize dot (jn c d) (crs (jn a c) (jn b d)) = D at *
    generalize dot (jn a c) e = x1 at *
    generalize dot (jn b d) e = x2 at *
    generalize dot (jn a b) e = x3 at *
    generalize dot (jn c d) e = x4 at *
    generalize brk a b c = y1 at *
    generalize brk a b d = y2 at *
    generalize brk a c d = y3 at *
    generalize brk b c d = y4 at *
    clear p s1 s2 s3 s4 e1 e2 e3 e4 b1 b2
    have h : (g1 * g2 * g3 * g4) * (g1 * g2 * g3 * g4) * (g1 * g2 * g3 * g4) * ((x1 * x2) * (x1 * x2) * (x3 * x4) * (A * B) - (x1 * x2) * (x3 * x4) * (x3 * x4) * (C * D)) = (g3 * x1 * (g4 * x2)) * (g3 * x1 * (g4 * x2)) * (g1 * x3 * (g2 * x4)) * ((g3 * (g1 * (g2 * A))) * (g4 * (g1 * (g2 * B)))) - (g3 * x1 * (g4 * x2)) * (g1 * x3 * (g2 * x4)) * (g1 * x3 * (g2 * x4)) * ((g1 * (g3 * (g4 * C))) * (g2 * (g3 * (g4 * D)))) := by grind
    rw [h, f1, f2, f3, f4]
    grind
theorem thr_free : det6 (thr a b c d e) ≠ 0 ↔ Free a b c d e := by
  obtain ⟨g, g0, h⟩ := thr_det ta tb tc td te nab ncd nac nbd
  constructor
  · intro k
    have h1 := Int.mul_ne_zero g0 k
    rw [h] at h1
    refine ⟨?_, ?_, ?_, ?_, ?_, ?_, ?_, ?_, ?_, ?_⟩ <;> (intro z; rw [z] at h1; simp at h1)
  · intro F k
    rw [k, Int.mul_zero] at h
    exact Int.mul_ne_zero (Int.mul_ne_zero (Int.mul_ne_zero (Int.mul_ne_zero F.ace F.bde) (Int.mul_ne_zero F.abe F.cde)) (Int.mul_ne_zero (Int.mul_ne_zero F.abc F.abd) (Int.mul_ne_zero F.acd F.bcd))) (Int.mul_ne_zero F.ade F.bce) h.symm
/-- it goes through all five -/
theorem thr_on : wor (thr a b c d e) a = 0 ∧ wor (thr a b c d e) b = 0 ∧ wor (thr a b c d e) c = 0 ∧ wor (thr a b c d e) d = 0 ∧ wor (thr a b c d e) e = 0 := by
  have l1 := (tri.jn ta tb nab).1
  have l2 := (tri.jn tc td ncd).1
  have l3 := (tri.jn ta tc nac).1
  have l4 := (tri.jn tb td nbd).1
  have o1 := on_jn ta tb nab
  have o2 := on_jn tc td ncd
  have o3 := on_jn ta tc nac
  have o4 := on_jn tb td nbd
  have key : ∀ p : List Int, p.length = 3 → wor (thr a b c d e) p = dot (jn a c) e * dot (jn b d) e * (dot (jn a b) p * dot (jn c d) p) - dot (jn a b) e * dot (jn c d) e * (dot (jn a c) p * dot (jn b d) p) := by
    intro p hp
    unfold thr
    rw [sub6_wor (two6_len l1 l2) (two6_len l3 l4) hp, two6_wor l1 l2 hp, two6_wor l3 l4 hp]
  refine ⟨?_, ?_, ?_, ?_, ?_⟩
  · rw [key a ta.1, dot_comm (jn a b) a, dot_comm (jn a c) a, o1.1, o3.1]; simp
  · rw [key b tb.1, dot_comm (jn a b) b, dot_comm (jn b d) b, o1.2, o4.1]; simp
  · rw [key c tc.1, dot_comm (jn c d) c, dot_comm (jn a c) c, o2.1, o3.2]; simp
  · rw [key d td.1, dot_comm (jn c d) d, dot_comm (jn b d) d, o2.2, o4.2]; simp
  · rw [key e te.1]; grind
end
/-! one curve alone goes through five points -/
theorem wor_ext {u v : List Int} {s t : Int} (hu : u.length = 6) (hv : v.length = 6) (h : ∀ x : List Int, x.length = 3 → s * wor u x = t * wor v x) : scl s u = scl t v := by
  obtain ⟨a, b, c, d, e, f, rfl⟩ := len6 hu
  obtain ⟨a', b', c', d', e', f', rfl⟩ := len6 hv
  have h1 := h [1, 0, 0] rfl
  have h2 := h [0, 1, 0] rfl
  have h3 := h [0, 0, 1] rfl
  have h4 := h [0, 1, 1] rfl
  have h5 := h [1, 0, 1] rfl
  have h6 := h [1, 1, 0] rfl
  simp only [wor] at h1 h2 h3 h4 h5 h6
  simp only [scl, List.map_cons, List.map_nil, List.cons.injEq, and_true]
  refine ⟨?_, ?_, ?_, ?_, ?_, ?_⟩ <;> grind
section
variable {p q r x u : List Int} (hp : p.length = 3) (hq : q.length = 3) (hr : r.length = 3) (hx : x.length = 3) (hu : u.length = 6)
include hp hq hr hx hu
/-- a form through three points, by the brackets -/
theorem wor_three (h1 : wor u p = 0) (h2 : wor u q = 0) (h3 : wor u r = 0) : brk p q r * brk p q r * wor u x = brk x q r * brk p x r * bot u p q + brk x q r * brk p q x * bot u p r + brk p x r * brk p q x * bot u q r := by
  have e : ∀ al be ga : Int, wor u (addL (addL (scl al p) (scl be q)) (scl ga r)) = al * al * wor u p + be * be * wor u q + ga * ga * wor u r + al * be * bot u p q + al * ga * bot u p r + be * ga * bot u q r := by
    intro al be ga
    obtain ⟨a, b, c, d, e, f, rfl⟩ := len6 hu
    obtain ⟨p1, p2, p3, rfl⟩ := len3 hp
    obtain ⟨q1, q2, q3, rfl⟩ := len3 hq
    obtain ⟨r1, r2, r3, rfl⟩ := len3 hr
    simp only [wor, bot, addL, scl, List.map_cons, List.map_nil, List.zipWith_cons_cons, List.zipWith_nil_left]
    grind
  have c : addL (addL (scl (brk x q r) p) (scl (brk p x r) q)) (scl (brk p q x) r) = scl (brk p q r) x := by
    obtain ⟨p1, p2, p3, rfl⟩ := len3 hp
    obtain ⟨q1, q2, q3, rfl⟩ := len3 hq
    obtain ⟨r1, r2, r3, rfl⟩ := len3 hr
    obtain ⟨x1, x2, x3, rfl⟩ := len3 hx
    simp only [brk, dot, crs, addL, scl, List.map_cons, List.map_nil, List.zipWith_cons_cons, List.zipWith_nil_left, List.cons.injEq, and_true]
    refine ⟨?_, ?_, ?_⟩ <;> grind
  have k := e (brk x q r) (brk p x r) (brk p q x)
  rw [c, wor_sclp _ hu hx, h1, h2, h3] at k
  rw [k]
  grind
end
theorem five_uniq {a b c d e u v : List Int} (ha : a.length = 3) (hb : b.length = 3) (hc : c.length = 3) (hd : d.length = 3) (he : e.length = 3) (F : Free a b c d e) (hu : u.length = 6) (hv : v.length = 6) (nu : nrm u) (nv : nrm v)
    (u1 : wor u a = 0) (u2 : wor u b = 0) (u3 : wor u c = 0) (u4 : wor u d = 0) (u5 : wor u e = 0) (v1 : wor v a = 0) (v2 : wor v b = 0) (v3 : wor v c = 0) (v4 : wor v d = 0) (v5 : wor v e = 0) : u = v := by
  have ku := fun (x : List Int) (hx : x.length = 3) => wor_three ha hb hc hx hu u1 u2 u3
  have kv := fun (x : List Int) (hx : x.length = 3) => wor_three ha hb hc hx hv v1 v2 v3
  have bx : ∀ x : List Int, x.length = 3 → brk x b c = brk b c x := fun x hx => (brk_rot hx hb hc).symm
  have d0 : brk d b c ≠ 0 := by rw [bx d hd]; exact F.bcd
  have e0 : brk e b c ≠ 0 := by rw [bx e he]; exact F.bce
  have fd := ku d hd
  have fe := ku e he
  have gd := kv d hd
  have ge := kv e he
  rw [u4, Int.mul_zero] at fd
  rw [u5, Int.mul_zero] at fe
  rw [v4, Int.mul_zero] at gd
  rw [v5, Int.mul_zero] at ge
  have w0 : ¬ allZ (crs [brk d b c * brk a d c, brk d b c * brk a b d, brk a d c * brk a b d] [brk e b c * brk a e c, brk e b c * brk a b e, brk a e c * brk a b e]) := by
    intro z
    have z3 := (allZ3.mp z).2.2
    have p2 := pluck2 ha hb hc hd he
    have : (brk d b c * brk e b c) * (brk a b c * brk a d e) = 0 := by rw [← p2]; rw [← z3]; grind
    exact Int.mul_ne_zero (Int.mul_ne_zero d0 e0) (Int.mul_ne_zero F.abc F.ade) this
  generalize brk d b c = X at *
  generalize brk a d c = Y at *
  generalize brk a b d = Z at *
  generalize brk e b c = X' at *
  generalize brk a e c = Y' at *
  generalize brk a b e = Z' at *
  have m1 : allZ (crs (crs [X * Y, X * Z, Y * Z] [X' * Y', X' * Z', Y' * Z']) [bot u a b, bot u a c, bot u b c]) := crs_perp rfl rfl rfl (by simp only [dot]; rw [fd]; grind) (by simp only [dot]; rw [fe]; grind)
  have m2 : allZ (crs (crs [X * Y, X * Z, Y * Z] [X' * Y', X' * Z', Y' * Z']) [bot v a b, bot v a c, bot v b c]) := crs_perp rfl rfl rfl (by simp only [dot]; rw [gd]; grind) (by simp only [dot]; rw [ge]; grind)
  have m3 := par_of (crs_len rfl rfl) rfl rfl w0 m1 m2
  obtain ⟨q1, q2, q3⟩ := allZ3.mp m3
  have D0 := F.abc
  have DD := Int.mul_ne_zero D0 D0
  have nz : ∀ {w : List Int}, w.length = 6 → nrm w → (∀ x : List Int, x.length = 3 → brk a b c * brk a b c * wor w x = brk x b c * brk a x c * bot w a b + brk x b c * brk a b x * bot w a c + brk a x c * brk a b x * bot w b c) → ¬ (bot w a b = 0 ∧ bot w a c = 0 ∧ bot w b c = 0) := by
    rintro w hw nw k ⟨z1, z2, z3⟩
    refine nrm_ne nw ?_
    have : scl 1 w = scl 0 w := wor_ext hw hw fun x hx => by
      have h := k x hx
      rw [z1, z2, z3, Int.mul_zero, Int.mul_zero, Int.mul_zero] at h
      rcases Int.mul_eq_zero.mp (show brk a b c * brk a b c * wor w x = 0 by omega) with h | h
      · exact absurd h DD
      · rw [h]; omega
    rw [scl_one] at this
    rw [this]
    intro m hm
    obtain ⟨y, _, rfl⟩ := List.mem_map.mp hm
    omega
  have n1 := nz hu nu ku
  have n2 := nz hv nv kv
  have fin : ∀ s t : Int, s ≠ 0 → t ≠ 0 → (∀ x : List Int, x.length = 3 → s * wor u x = t * wor v x) → u = v := fun s t s0 t0 h => nrm_inj nu nv s0 t0 (wor_ext hu hv h)
  generalize bot u a b = A at *
  generalize bot u a c = B at *
  generalize bot u b c = C at *
  generalize bot v a b = A' at *
  generalize bot v a c = B' at *
  generalize bot v b c = C' at *
  have all : ∀ s t : Int, s * A = t * A' → s * B = t * B' → s * C = t * C' → ∀ x : List Int, x.length = 3 → s * wor u x = t * wor v x := by
    intro s t h1 h2 h3 x hx
    have k1 := ku x hx
    have k2 := kv x hx
    refine Int.eq_of_mul_eq_mul_left DD ?_
    rw [show brk a b c * brk a b c * (s * wor u x) = s * (brk a b c * brk a b c * wor u x) by grind, show brk a b c * brk a b c * (t * wor v x) = t * (brk a b c * brk a b c * wor v x) by grind, k1, k2]
    grind
  by_cases hA : A = 0
  · by_cases hB : B = 0
    · have hC : C ≠ 0 := fun h => n1 ⟨hA, hB, h⟩
      subst hA hB
      have a0 : A' = 0 := by
        rcases Int.mul_eq_zero.mp (show C * A' = 0 by grind) with h | h
        · exact absurd h hC
        · exact h
      have b0 : B' = 0 := by
        rcases Int.mul_eq_zero.mp (show C * B' = 0 by grind) with h | h
        · exact absurd h hC
        · exact h
      have hC' : C' ≠ 0 := fun h => n2 ⟨a0, b0, h⟩
      subst a0 b0
      exact fin C' C hC' hC (all C' C (by omega) (by omega) (by grind))
    · subst hA
      have a0 : A' = 0 := by
        rcases Int.mul_eq_zero.mp (show B * A' = 0 by grind) with h | h
        · exact absurd h hB
        · exact h
      subst a0
      have hB' : B' ≠ 0 := fun h => by
        subst h
        have c0 : C' = 0 := by
          rcases Int.mul_eq_zero.mp (show B * C' = 0 by grind) with h | h
          · exact absurd h hB
          · exact h
        exact n2 ⟨rfl, rfl, c0⟩
      exact fin B' B hB' hB (all B' B (by omega) (by grind) (by grind))
  · have hA' : A' ≠ 0 := fun h => by
      subst h
      have b0 : B' = 0 := by
        rcases Int.mul_eq_zero.mp (show A * B' = 0 by grind) with h | h
        · exact absurd h hA
        · exact h
      have c0 : C' = 0 := by
        rcases Int.mul_eq_zero.mp (show A * C' = 0 by grind) with h | h
        · exact absurd h hA
        · exact h
      exact n2 ⟨rfl, b0, c0⟩
    exact fin A' A hA' hA (all A' A (by grind) (by grind) (by grind))
end Dl

/-! The data layer, part X: rows of roots of cubics. -/
namespace Dl
open PySem L2 PyProof.Rows
theorem at_natD {α : Type} {L : List α} {k : Nat} {x : α} (h : L[k]? = some x) : L2.atI L (k : Int) = some x := by
  have hk := (List.getElem?_eq_some_iff.mp h).1
  unfold L2.atI L2.ixN
  rw [if_pos (by omega), if_pos (by omega)]
  simpa using h
def cv (s : Nat → Rat) (n lo : Nat) : Nat → Rat
  | 0 => 0
  | j + 1 => cv s n lo j + s (lo + j) * s (n - (lo + j))
theorem cv_congr {f g : Nat → Rat} {n lo : Nat} : ∀ m : Nat, (∀ j, j < m → f (lo + j) = g (lo + j) ∧ f (n - (lo + j)) = g (n - (lo + j))) → cv f n lo m = cv g n lo m
  | 0, _ => rfl
  | m + 1, h => by
    have a := h m (by omega)
    unfold cv
    rw [cv_congr m fun j hj => h j (by omega), a.1, a.2]
def nxt (c : Nat → Rat) (L : List Rat) : Rat := (c L.length - cv (fun i => L.getD i 0) L.length 1 (L.length - 1)) * (1 / 2)
def rowL (c : Nat → Rat) : Nat → List Rat
  | 0 => [1]
  | m + 1 => rowL c m ++ [nxt c (rowL c m)]
def rr (c : Nat → Rat) (n : Nat) : Rat := (rowL c n).getD n 0
theorem rowL_len (c : Nat → Rat) : ∀ m, (rowL c m).length = m + 1
  | 0 => rfl
  | m + 1 => by simp [rowL, rowL_len c m]
theorem rowL_get (c : Nat → Rat) {j : Nat} : ∀ {m : Nat}, j ≤ m → (rowL c m)[j]? = some (rr c j)
  | 0, h => by
    have : j = 0 := by omega
    subst this; rfl
  | m + 1, h => by
    by_cases e : j = m + 1
    · subst e
      have l := rowL_len c (m + 1)
      rw [List.getElem?_eq_getElem (by omega)]
      unfold rr
      rw [List.getD_eq_getElem?_getD, List.getElem?_eq_getElem (by omega)]
      rfl
    · unfold rowL
      rw [List.getElem?_append_left (by rw [rowL_len]; omega)]
      exact rowL_get c (by omega)
theorem rowL_getD (c : Nat → Rat) {j m : Nat} (h : j ≤ m) : (rowL c m).getD j 0 = rr c j := by
  rw [List.getD_eq_getElem?_getD, rowL_get c h]; rfl
theorem rr0 (c : Nat → Rat) : rr c 0 = 1 := rfl
theorem nxt_is (c : Nat → Rat) (m : Nat) : nxt c (rowL c m) = (c (m + 1) - cv (rr c) (m + 1) 1 m) * (1 / 2) := by
  unfold nxt
  rw [rowL_len]
  rw [show m + 1 - 1 = m by omega]
  rw [cv_congr (g := rr c) m fun j hj => ⟨rowL_getD c (by omega), rowL_getD c (by omega)⟩]
theorem rr_succ (c : Nat → Rat) (m : Nat) : rr c (m + 1) = (c (m + 1) - cv (rr c) (m + 1) 1 m) * (1 / 2) := by
  rw [← nxt_is]
  unfold rr
  rw [List.getD_eq_getElem?_getD]
  show ((rowL c m ++ [nxt c (rowL c m)])[m + 1]?).getD 0 = _
  rw [List.getElem?_append_right (by rw [rowL_len]; omega), rowL_len]
  simp
theorem cv_head (s : Nat → Rat) (n : Nat) : ∀ j, cv s n 0 (j + 1) = s 0 * s n + cv s n 1 j
  | 0 => by simp [cv]; grind
  | j + 1 => by
    rw [cv, cv_head s n j]
    conv => rhs; rw [cv]
    rw [Nat.zero_add, Nat.add_comm 1 j]
    grind
/-- the square of the row is the cubic's row -/
theorem row_law (c : Nat → Rat) (c0 : c 0 = 1) : ∀ n, cv (rr c) n 0 (n + 1) = c n
  | 0 => by simp [cv, rr0, c0]; grind
  | n + 1 => by
    rw [cv_head, cv, Nat.add_comm 1 n, Nat.sub_self, rr0]
    have := rr_succ c n
    grind
/-! sizes -/
def Fr (W : Int) (n : Nat) (x : Int) (q : Rat) : Prop := q * ((W ^ n : Int) : Rat) = (x : Rat)
section
variable {W : Int} {m n : Nat} {x y : Int} {p q : Rat}
theorem Fr.mul (h : Fr W m x p) (k : Fr W n y q) : Fr W (m + n) (x * y) (p * q) := by
  unfold Fr at *
  rw [Int.pow_add, Rat.intCast_mul, Rat.intCast_mul, ← h, ← k]; grind
theorem Fr.add (h : Fr W n x p) (k : Fr W n y q) : Fr W n (x + y) (p + q) := by
  unfold Fr at *
  rw [Rat.intCast_add, ← h, ← k]; grind
theorem Fr.sub (h : Fr W n x p) (k : Fr W n y q) : Fr W n (x - y) (p - q) := by
  unfold Fr at *
  rw [Rat.intCast_sub, ← h, ← k]; grind
theorem Fr.half (h : Fr W n (2 * x) p) : Fr W n x (p * (1 / 2)) := by
  unfold Fr at *
  rw [Rat.intCast_mul] at h
  have e : ((2 : Int) : Rat) = 2 := rfl
  rw [e] at h
  grind
theorem Fr.zero : Fr W n 0 0 := by unfold Fr; simp
theorem pow_ne {W : Int} (h : W ≠ 0) : ∀ n : Nat, W ^ n ≠ 0
  | 0 => by simp
  | n + 1 => by rw [Int.pow_succ]; exact Int.mul_ne_zero (pow_ne h n) h
theorem Fr.is (hW : W ≠ 0) (h : Fr W n x q) : q = Rat.divInt x (W ^ n) := by
  unfold Fr at h
  have h0 : ((W ^ n : Int) : Rat) ≠ 0 := fun e => pow_ne hW n (Rat.intCast_eq_zero_iff.mp e)
  rw [Rat.divInt_eq_div, ← h]
  grind
end
theorem abs_pow (W : Int) : ∀ n : Nat, (W ^ n).natAbs = W.natAbs ^ n
  | 0 => by simp
  | n + 1 => by rw [Int.pow_succ, Int.natAbs_mul, abs_pow W n, Nat.pow_succ]
structure Rw (W : Int) (K : Nat) (c : Nat → Rat) : Prop where
  w0 : W ≠ 0
  c0 : c 0 = 1
  hc : ∀ n, 1 ≤ n → ∃ C : Int, Fr W n (4 * C) (c n) ∧ 32 * (4 * C).natAbs ≤ K ^ n
section
variable {W : Int} {K : Nat} {c : Nat → Rat}
theorem cv_fr {n : Nat} (ih : ∀ k, 1 ≤ k → k < n → ∃ x : Int, Fr W k (2 * x) (rr c k) ∧ 32 * (2 * x).natAbs ≤ K ^ k) : ∀ j, j + 1 ≤ n → ∃ y : Int, Fr W n (4 * y) (cv (rr c) n 1 j) ∧ 1024 * (4 * y).natAbs ≤ j * K ^ n
  | 0, _ => ⟨0, by simpa [cv] using Fr.zero, by simp⟩
  | j + 1, h => by
    obtain ⟨y, h1, h2⟩ := cv_fr ih j (by omega)
    obtain ⟨x, a1, a2⟩ := ih (1 + j) (by omega) (by omega)
    obtain ⟨z, b1, b2⟩ := ih (n - (1 + j)) (by omega) (by omega)
    refine ⟨y + x * z, ?_, ?_⟩
    · have := a1.mul b1
      rw [show 1 + j + (n - (1 + j)) = n by omega] at this
      have t := h1.add this
      rw [cv]
      rw [show 4 * (y + x * z) = 4 * y + 2 * x * (2 * z) by grind]
      exact t
    · rw [show 4 * (y + x * z) = 4 * y + 2 * x * (2 * z) by grind]
      have l := Int.natAbs_add_le (4 * y) (2 * x * (2 * z))
      rw [Int.natAbs_mul (2 * x)] at l
      have e : 1024 * ((2 * x).natAbs * (2 * z).natAbs) ≤ K ^ n := by
        have := Nat.mul_le_mul a2 b2
        rw [← Nat.pow_add, show 1 + j + (n - (1 + j)) = n by omega] at this
        calc 1024 * ((2 * x).natAbs * (2 * z).natAbs) = 32 * (2 * x).natAbs * (32 * (2 * z).natAbs) := by grind
          _ ≤ K ^ n := this
      rw [Nat.add_mul, Nat.one_mul]
      omega
theorem Rw.at (R : Rw W K c) : ∀ n, 1 ≤ n → n ≤ 30 → ∃ x : Int, Fr W n (2 * x) (rr c n) ∧ 32 * (2 * x).natAbs ≤ K ^ n := by
  intro n
  induction n using Nat.strongRecOn with
  | ind n ih =>
    intro h1 h2
    obtain ⟨C, c1, c2⟩ := R.hc n h1
    obtain ⟨y, y1, y2⟩ := cv_fr (W := W) (K := K) (c := c) (n := n) (fun k a b => ih k b a (by omega)) (n - 1) (by omega)
    refine ⟨C - y, ?_, ?_⟩
    · have t := c1.sub y1
      rw [show 4 * C - 4 * y = 2 * (2 * (C - y)) by grind] at t
      have := t.half
      obtain ⟨m, rfl⟩ : ∃ m, n = m + 1 := ⟨n - 1, by omega⟩
      rw [rr_succ]
      exact this
    · have l : (n - 1) * K ^ n ≤ 29 * K ^ n := Nat.mul_le_mul_right _ (by omega)
      omega
theorem Rw.part (R : Rw W K c) {n : Nat} (h1 : 1 ≤ n) (h2 : n ≤ 30) {j : Nat} (hj : j + 1 ≤ n) : ∃ x : Int, Fr W n x (c n - cv (rr c) n 1 j) ∧ x.natAbs ≤ K ^ n := by
  obtain ⟨C, c1, c2⟩ := R.hc n h1
  obtain ⟨y, y1, y2⟩ := cv_fr (W := W) (K := K) (c := c) (n := n) (fun k a b => R.at k a (by omega)) j hj
  refine ⟨_, c1.sub y1, ?_⟩
  have l : j * K ^ n ≤ 29 * K ^ n := Nat.mul_le_mul_right _ (by omega)
  omega
theorem Rw.all (R : Rw W K c) (K0 : 1 ≤ K) {n : Nat} (h2 : n ≤ 30) {j : Nat} (hj : j ≤ n + 1) : ∃ x : Int, Fr W n x (cv (rr c) n 0 j) ∧ x.natAbs ≤ K ^ n := by
  cases j with
  | zero => exact ⟨0, Fr.zero, by simp⟩
  | succ j =>
    by_cases hn : n = 0
    · subst hn
      have : j = 0 := by omega
      subst this
      refine ⟨1, ?_, by simp⟩
      rw [show cv (rr c) 0 0 (0 + 1) = 1 by simp [cv, rr0]; grind]
      unfold Fr
      simp
    · by_cases e : j = n
      · subst e
        obtain ⟨C, c1, c2⟩ := R.hc j (by omega)
        rw [row_law c R.c0]
        exact ⟨_, c1, by omega⟩
      · rw [cv_head, rr0]
        obtain ⟨x, x1, x2⟩ := R.at n (by omega) h2
        obtain ⟨y, y1, y2⟩ := cv_fr (W := W) (K := K) (c := c) (n := n) (fun k a b => R.at k a (by omega)) j (by omega)
        refine ⟨2 * x + 4 * y, ?_, ?_⟩
        · rw [Rat.one_mul]; exact x1.add y1
        · have l : j * K ^ n ≤ 29 * K ^ n := Nat.mul_le_mul_right _ (by omega)
          omega
end
/-- a cubic's numbers -/
def cofR (g h k : Rat) : Nat → Rat
  | 0 => 1
  | 1 => g
  | 2 => h
  | 3 => k
  | _ => 0
theorem rmul_ne {a b : Rat} (ha : a ≠ 0) (hb : b ≠ 0) : a * b ≠ 0 := fun e => (Rat.mul_eq_zero.mp e).elim ha hb
instance (j : Int) : Decidable (divOk j) := by unfold divOk; exact inferInstance
theorem mul_den (q : Rat) : q * ((q.den : Int) : Rat) = (q.num : Rat) := by
  have h := self_q q
  have h0 : ((q.den : Int) : Rat) ≠ 0 := fun e => den_ne q (Rat.intCast_eq_zero_iff.mp e)
  rw [Rat.divInt_eq_div] at h
  grind
def wW (g h k : Rat) : Int := 4 * ((g.den : Int) * h.den * k.den)
theorem cub_rw {g h k : Rat} {a b c : Nat} (sg : szQ a g) (sh : szQ b h) (sk : szQ c k) : Rw (wW g h k) (2 ^ (a + b + c + 7)) (cofR g h k) := by
  have dg := den_ne g
  have dh := den_ne h
  have dk := den_ne k
  have mg := mul_den g
  have mh := mul_den h
  have mk := mul_den k
  have e4 : ((4 : Int) : Rat) = 4 := rfl
  have sg1 : g.num.natAbs < 2 ^ a := sg.1
  have sh1 : h.num.natAbs < 2 ^ b := sh.1
  have sk1 : k.num.natAbs < 2 ^ c := sk.1
  have sg2 : ((g.den : Int)).natAbs < 2 ^ a := sg.2
  have sh2 : ((h.den : Int)).natAbs < 2 ^ b := sh.2
  have sk2 : ((k.den : Int)).natAbs < 2 ^ c := sk.2
  have W1 : ((g.den : Int) * h.den * k.den).natAbs < 2 ^ (a + b + c) := abs_mul_lt (abs_mul_lt sg2 sh2 (Nat.le_refl _)) sk2 (Nat.le_refl _)
  have lift : ∀ {x : Int} {m n : Nat}, x.natAbs < 2 ^ m → 5 + 2 + m ≤ n → 32 * (4 * x).natAbs ≤ 2 ^ n := by
    intro x m n h1 h2
    have : 2 ^ (5 + 2 + m) ≤ 2 ^ n := Nat.pow_le_pow_right (by decide) h2
    rw [Nat.pow_add] at this
    rw [Int.natAbs_mul]
    have e : (2 : Nat) ^ (5 + 2) = 128 := rfl
    have e' : (4 : Int).natAbs = 4 := rfl
    rw [e] at this
    rw [e']
    omega
  refine ⟨?_, rfl, ?_⟩
  · unfold wW
    exact mul_ne0 (by decide) (mul_ne0 (mul_ne0 dg dh) dk)
  · intro n hn
    rcases n with _ | _ | _ | _ | n
    · omega
    · refine ⟨g.num * h.den * k.den, ?_, ?_⟩
      · unfold Fr wW cofR
        simp only [Nat.zero_add, Int.pow_succ, Int.pow_zero, Rat.intCast_mul, e4, ← mg, Int.one_mul]
        grind
      · rw [Nat.zero_add, Nat.pow_one]
        exact lift (abs_mul_lt (abs_mul_lt sg1 sh2 (Nat.le_refl _)) sk2 (Nat.le_refl _)) (by omega)
    · refine ⟨4 * (((g.den : Int) * h.den * k.den) * ((g.den : Int) * h.num * k.den)), ?_, ?_⟩
      · unfold Fr wW cofR
        simp only [Nat.zero_add, Int.pow_succ, Int.pow_zero, Rat.intCast_mul, e4, ← mh, Int.one_mul]
        grind
      · rw [← Nat.pow_mul]
        have t : (4 * (((g.den : Int) * h.den * k.den) * ((g.den : Int) * h.num * k.den))).natAbs < 2 ^ (3 + ((a + b + c) + (a + b + c))) :=
          abs_mul_lt (a := 3) (by decide) (abs_mul_lt W1 (abs_mul_lt (abs_mul_lt sg2 sh1 (Nat.le_refl _)) sk2 (Nat.le_refl _)) (Nat.le_refl _)) (Nat.le_refl _)
        exact lift t (by omega)
    · refine ⟨16 * (((g.den : Int) * h.den * k.den) * (((g.den : Int) * h.den * k.den) * ((g.den : Int) * h.den * k.num))), ?_, ?_⟩
      · unfold Fr wW cofR
        have e16 : ((16 : Int) : Rat) = 16 := rfl
        simp only [Nat.zero_add, Int.pow_succ, Int.pow_zero, Rat.intCast_mul, e4, e16, ← mk, Int.one_mul]
        grind
      · rw [← Nat.pow_mul]
        have t : (16 * (((g.den : Int) * h.den * k.den) * (((g.den : Int) * h.den * k.den) * ((g.den : Int) * h.den * k.num)))).natAbs < 2 ^ (5 + ((a + b + c) + ((a + b + c) + (a + b + c)))) :=
          abs_mul_lt (a := 5) (by decide) (abs_mul_lt W1 (abs_mul_lt W1 (abs_mul_lt (abs_mul_lt sg2 sh2 (Nat.le_refl _)) sk1 (Nat.le_refl _)) (Nat.le_refl _)) (Nat.le_refl _)) (Nat.le_refl _)
        exact lift t (by omega)
    · exact ⟨0, by unfold cofR; exact Fr.zero, by simp⟩
theorem wW_sz {g h k : Rat} {a b c : Nat} (sg : szQ a g) (sh : szQ b h) (sk : szQ c k) : (wW g h k).natAbs < 2 ^ (a + b + c + 7) := by
  unfold wW
  exact abs_mul_lt (a := 3) (b := a + b + c) (by decide) (abs_mul_lt (abs_mul_lt sg.2 sh.2 (Nat.le_refl _)) sk.2 (Nat.le_refl _)) (by omega)
/-- the size of all that the row is made of -/
def rowN (a b c : Nat) : Nat := 30 * (a + b + c + 7) + 1
theorem fr_sz {W x : Int} {n s : Nat} {q : Rat} (w0 : W ≠ 0) (hW : W.natAbs < 2 ^ s) (hn : n ≤ 30) (h : Fr W n x q) (hx : x.natAbs ≤ (2 ^ s) ^ n) : szQ (30 * s + 1) q := by
  rw [h.is w0]
  have l : s * n ≤ 30 * s := by rw [Nat.mul_comm]; exact Nat.mul_le_mul_right _ hn
  have l2 : 2 ^ (s * n) < 2 ^ (30 * s + 1) := Nat.pow_lt_pow_right (by decide) (by omega)
  refine szQ_mk (pow_ne w0 n) ?_ ?_
  · rw [← Nat.pow_mul] at hx; omega
  · rw [abs_pow]
    have := Nat.pow_le_pow_left (Nat.le_of_lt hW) n
    rw [← Nat.pow_mul] at this
    omega
section
variable {g h k : Rat} {a b c : Nat} (sg : szQ a g) (sh : szQ b h) (sk : szQ c k)
include sg sh sk
theorem rr_sz {n : Nat} (hn : n ≤ 30) : szQ (rowN a b c) (rr (cofR g h k) n) := by
  have R := cub_rw sg sh sk
  have hw := wW_sz sg sh sk
  by_cases e : n = 0
  · subst e
    rw [rr0]
    refine ⟨?_, ?_⟩
    · show (1 : Int).natAbs < _
      exact Nat.one_lt_two_pow (by unfold rowN; omega)
    · show ((1 : Nat) : Int).natAbs < _
      exact Nat.one_lt_two_pow (by unfold rowN; omega)
  · obtain ⟨x, h1, h2⟩ := R.at n (by omega) hn
    exact fr_sz R.w0 hw hn h1 (by omega)
theorem part_sz {n : Nat} (h1 : 1 ≤ n) (hn : n ≤ 30) {j : Nat} (hj : j + 1 ≤ n) : szQ (rowN a b c) (cofR g h k n - cv (rr (cofR g h k)) n 1 j) := by
  have R := cub_rw sg sh sk
  obtain ⟨x, p1, p2⟩ := R.part h1 hn hj
  exact fr_sz R.w0 (wW_sz sg sh sk) hn p1 p2
theorem conv_sz {n : Nat} (hn : n ≤ 30) {j : Nat} (hj : j ≤ n + 1) : szQ (rowN a b c) (cv (rr (cofR g h k)) n 0 j) := by
  have R := cub_rw sg sh sk
  obtain ⟨x, p1, p2⟩ := R.all Nat.one_le_two_pow hn hj
  exact fr_sz R.w0 (wW_sz sg sh sk) hn p1 p2
end
end Dl

/-! The data layer, part Y: spots of a cubic and their sums. -/
namespace Dl
open PySem L2 PyProof.Rows
/-! spots of a cubic and their sums, plain -/
abbrev Cub := Rat × Rat × Rat
abbrev Sp := Rat × Rat
def ngP (P : Sp) : Sp := (P.1, 0 - P.2)
def hgt (c : Cub) (t : Rat) : Rat := 1 + t * (c.1 + t * (c.2.1 + t * c.2.2))
def OnC (c : Cub) (P : Sp) : Prop := P.2 * P.2 = hgt c P.1
def dsQ (g h k : Rat) : Rat := g * h * g * h - 4 * h * h * h - 4 * k * g * g * g - 27 * k * k + 18 * g * h * k
structure GdC (c : Cub) : Prop where
  k0 : c.2.2 ≠ 0
  ds : dsQ c.1 c.2.1 c.2.2 ≠ 0
def slp (c : Cub) (P Q : Sp) : Rat := if P = Q then (c.1 + P.1 * (2 * c.2.1 + 3 * (P.1 * c.2.2))) / (2 * P.2) else (Q.2 - P.2) / (Q.1 - P.1)
def thr3 (c : Cub) (P Q : Sp) : Rat := (slp c P Q * slp c P Q - c.2.1) / c.2.2 - P.1 - Q.1
def sm2 (c : Cub) (P Q : Sp) : Sp := (thr3 c P Q, 0 - (P.2 + slp c P Q * (thr3 c P Q - P.1)))
def smP (c : Cub) : Option Sp → Option Sp → Option Sp
  | none, Q => Q
  | P, none => P
  | some P, some Q => if P = ngP Q then none else some (sm2 c P Q)
/-- three spots on one line -/
def ColW (c : Cub) (P Q R : Sp) (a b : Rat) : Prop := P.2 = a * P.1 + b ∧ Q.2 = a * Q.1 + b ∧ R.2 = a * R.1 + b ∧
  c.2.1 - a * a = -(c.2.2 * (P.1 + Q.1 + R.1)) ∧ c.1 - 2 * a * b = c.2.2 * (P.1 * Q.1 + P.1 * R.1 + Q.1 * R.1) ∧ 1 - b * b = -(c.2.2 * P.1 * Q.1 * R.1)
def Col (c : Cub) (P Q R : Sp) : Prop := ∃ a b : Rat, ColW c P Q R a b
theorem ng_ng (P : Sp) : ngP (ngP P) = P := by
  obtain ⟨t, y⟩ := P
  simp only [ngP, Prod.mk.injEq, true_and]
  grind
theorem Col.s12 {c : Cub} {P Q R : Sp} (h : Col c P Q R) : Col c Q P R := by
  obtain ⟨a, b, h1, h2, h3, e1, e2, e3⟩ := h
  exact ⟨a, b, h2, h1, h3, by grind, by grind, by grind⟩
theorem Col.s23 {c : Cub} {P Q R : Sp} (h : Col c P Q R) : Col c P R Q := by
  obtain ⟨a, b, h1, h2, h3, e1, e2, e3⟩ := h
  exact ⟨a, b, h1, h3, h2, by grind, by grind, by grind⟩
theorem Col.ng {c : Cub} {P Q R : Sp} (h : Col c P Q R) : Col c (ngP P) (ngP Q) (ngP R) := by
  obtain ⟨a, b, h1, h2, h3, e1, e2, e3⟩ := h
  refine ⟨-a, -b, ?_, ?_, ?_, ?_, ?_, ?_⟩ <;> simp only [ngP] <;> grind
theorem Col.on {c : Cub} {P Q R : Sp} (h : Col c P Q R) : OnC c P := by
  obtain ⟨a, b, h1, h2, h3, e1, e2, e3⟩ := h
  unfold OnC hgt
  rw [h1]
  grind
theorem ng_on {c : Cub} {P : Sp} (h : OnC c P) : OnC c (ngP P) := by
  unfold OnC at *
  simp only [ngP]
  grind
theorem on_t {c : Cub} {P Q : Sp} (hP : OnC c P) (hQ : OnC c Q) (e : P.1 = Q.1) : P = Q ∨ P = ngP Q := by
  obtain ⟨p, x⟩ := P
  obtain ⟨q, y⟩ := Q
  simp only at e
  subst e
  unfold OnC at hP hQ
  simp only at hP hQ
  have : (x - y) * (x + y) = 0 := by grind
  rcases Rat.mul_eq_zero.mp this with h | h
  · left
    simp only [Prod.mk.injEq, true_and]
    grind
  · right
    simp only [ngP, Prod.mk.injEq, true_and]
    grind
theorem two_ne {y : Rat} (h : y ≠ 0) : 2 * y ≠ 0 := by grind
theorem sum_colW {c : Cub} (G : GdC c) {P Q : Sp} (hP : OnC c P) (hQ : OnC c Q) (hn : P ≠ ngP Q) : ColW c P Q (ngP (sm2 c P Q)) (slp c P Q) (P.2 - slp c P Q * P.1) := by
  have k0 := G.k0
  by_cases e : P = Q
  · subst e
    obtain ⟨p, x⟩ := P
    obtain ⟨g, h, k⟩ := c
    have x0 : x ≠ 0 := fun e => hn (by rw [e]; simp only [ngP, Prod.mk.injEq, true_and]; grind)
    have hs : slp (g, h, k) (p, x) (p, x) = (g + p * (2 * h + 3 * (p * k))) / (2 * x) := by unfold slp; rw [if_pos rfl]
    have ha : slp (g, h, k) (p, x) (p, x) * (2 * x) = g + p * (2 * h + 3 * (p * k)) := by
      have := two_ne x0
      rw [hs]; grind
    generalize hv : slp (g, h, k) (p, x) (p, x) = a at *
    have hr : k * (thr3 (g, h, k) (p, x) (p, x) + p + p) = a * a - h := by
      unfold thr3; rw [hv]; simp only at k0 ⊢; grind
    unfold sm2
    rw [hv]
    generalize thr3 (g, h, k) (p, x) (p, x) = r at *
    unfold OnC hgt at hP
    simp only [ngP] at *
    refine ⟨?_, ?_, ?_, ?_, ?_, ?_⟩ <;> simp only <;> grind
  · obtain ⟨p, x⟩ := P
    obtain ⟨q, y⟩ := Q
    obtain ⟨g, h, k⟩ := c
    have hpq : q - p ≠ 0 := fun z => by
      rcases on_t hP hQ (show p = q by grind) with h | h
      · exact e h
      · exact hn h
    have hs : slp (g, h, k) (p, x) (q, y) = (y - x) / (q - p) := by unfold slp; rw [if_neg e]
    have ha : slp (g, h, k) (p, x) (q, y) * (q - p) = y - x := by rw [hs]; grind
    generalize hv : slp (g, h, k) (p, x) (q, y) = a at *
    have hr : k * (thr3 (g, h, k) (p, x) (q, y) + p + q) = a * a - h := by
      unfold thr3; rw [hv]; simp only at k0 ⊢; grind
    unfold sm2
    rw [hv]
    generalize thr3 (g, h, k) (p, x) (q, y) = r at *
    unfold OnC hgt at hP hQ
    simp only [ngP] at *
    have h1 : (q - p) * (g - 2 * a * (x - a * p) - k * (p * q + p * r + q * r)) = 0 := by grind
    have h2 := (Rat.mul_eq_zero.mp h1).resolve_left hpq
    refine ⟨?_, ?_, ?_, ?_, ?_, ?_⟩ <;> simp only <;> grind
theorem sum_col {c : Cub} (G : GdC c) {P Q : Sp} (hP : OnC c P) (hQ : OnC c Q) (hn : P ≠ ngP Q) : Col c P Q (ngP (sm2 c P Q)) := ⟨_, _, sum_colW G hP hQ hn⟩
/-- what lies on one line with two is the sum turned about -/
theorem col_sum {c : Cub} (G : GdC c) {P Q R : Sp} (H : Col c P Q R) : P ≠ ngP Q ∧ R = ngP (sm2 c P Q) := by
  have k0 := G.k0
  have hP := H.on
  have hQ := H.s12.on
  have hn : P ≠ ngP Q := by
    intro e
    apply G.ds
    obtain ⟨a, b, h1, h2, h3, e1, e2, e3⟩ := H
    obtain ⟨p, x⟩ := P
    obtain ⟨q, y⟩ := Q
    obtain ⟨r, z⟩ := R
    obtain ⟨g, h, k⟩ := c
    simp only [ngP, Prod.mk.injEq] at e
    simp only at *
    obtain ⟨rfl, rfl⟩ := e
    have y0 : y = 0 := by grind
    have hb : b = -(a * p) := by grind
    have hw : a * a * p * p - k * p * p * r = 1 := by grind
    have hh : h = a * a - k * (2 * p + r) := by grind
    have hg : g = k * (p * p + 2 * p * r) - 2 * a * a * p := by grind
    have D : ∀ w, w = a * a * p * p - k * p * p * r → g * h * g * h - 4 * h * h * h * w - 4 * k * g * g * g - 27 * k * k * w * w + 18 * g * h * k * w = 0 := by
      intro w hw'
      rw [hw', hg, hh]
      clear hw' hg hh hw hb y0 h1 h2 h3 e1 e2 e3 hP hQ G k0
      grind
    have := D 1 hw.symm
    unfold dsQ
    grind
  refine ⟨hn, ?_⟩
  obtain ⟨a', b', h1', h2', h3', e1', e2', e3'⟩ := sum_col G hP hQ hn
  obtain ⟨a, b, h1, h2, h3, e1, e2, e3⟩ := H
  have ea : a = a' := by
    by_cases hpq : P.1 = Q.1
    · rcases on_t hP hQ hpq with h | h
      · subst h
        have y0 : P.2 ≠ 0 := fun z => hn (by
          obtain ⟨p, x⟩ := P
          simp only at z
          subst z
          simp only [ngP, Prod.mk.injEq, true_and]; grind)
        have z1 : 2 * P.2 * (a - a') = 0 := by grind
        have := (Rat.mul_eq_zero.mp z1).resolve_left (two_ne y0)
        grind
      · exact absurd h hn
    · have z1 : (P.1 - Q.1) * (a - a') = 0 := by grind
      have := (Rat.mul_eq_zero.mp z1).resolve_left (by grind)
      grind
  subst ea
  have eb : b = b' := by grind
  subst eb
  generalize ngP (sm2 c P Q) = S at *
  have ek : c.2.2 * (R.1 - S.1) = 0 := by grind
  have er := (Rat.mul_eq_zero.mp ek).resolve_left k0
  have e1 : R.1 = S.1 := by grind
  have e2 : R.2 = S.2 := by grind
  exact Prod.ext e1 e2
/-- the sum's line, joined -/
theorem col_assoc {c : Cub} (G : GdC c) {P Q R S U V : Sp} (H1 : Col c P Q (ngP S)) (H2 : Col c S R (ngP U)) (H3 : Col c Q R (ngP V)) : Col c P V (ngP U) := by
  have k0 := G.k0
  have nQR := (col_sum G H3).1
  have hQ := H3.on
  have hR := H3.s12.on
  obtain ⟨a1, b1, p1, p2, p3, p4, p5, p6⟩ := H1
  obtain ⟨a2, b2, q1, q2, q3, q4, q5, q6⟩ := H2
  obtain ⟨a3, b3, r1, r2, r3, r4, r5, r6⟩ := H3
  obtain ⟨p, yp⟩ := P
  obtain ⟨q, yq⟩ := Q
  obtain ⟨r, yr⟩ := R
  obtain ⟨s, ys⟩ := S
  obtain ⟨u, yu⟩ := U
  obtain ⟨v, yv⟩ := V
  obtain ⟨g, h, k⟩ := c
  simp only [ngP] at *
  have hc : b1 + b2 = -((a1 + a2) * s) := by grind
  -- the two lines of the sum, taken by the vertical one
  have s1 : (a1 + a2) * a1 - k * (p + q) = (a1 + a2) * a2 - k * (r + u) := by grind
  have s0 : (a1 + a2) * b1 + k * p * q = (a1 + a2) * b2 + k * r * u := by
    clear p1 p2 p3 p4 p6 q1 q2 q3 q4 q6 r1 r2 r3 r4 r5 r6 nQR hQ hR G k0
    have x1 : s * ((a1 + a2) * a1 - k * (p + q)) = s * ((a1 + a2) * a2 - k * (r + u)) := by rw [s1]
    have x2 : (a2 - a1) * (b1 + b2) = (a2 - a1) * (-((a1 + a2) * s)) := by rw [hc]
    clear s1 hc
    grind
  have E1 : (a1 + a2) * (a1 - a3) = k * (p - r) := by
    by_cases hqr : q = r
    · subst hqr
      rcases on_t hQ hR rfl with e | e
      · simp only [Prod.mk.injEq, true_and] at e
        subst e
        have y0 : yq ≠ 0 := fun z => nQR (by subst z; simp only [Prod.mk.injEq, true_and]; grind)
        have t1 : (a1 + a2) * (q - s) = 2 * yq := by grind
        have t2 : (a1 - a3) * (2 * yq) = -(k * (q - p) * (q - s)) := by grind
        have n0 : q - s ≠ 0 := fun z => two_ne y0 (by rw [← t1, z]; grind)
        have t3 : (q - s) * ((a1 + a2) * (a1 - a3) - k * (p - q)) = 0 := by grind
        have := (Rat.mul_eq_zero.mp t3).resolve_left n0
        grind
      · exact absurd e nQR
    · have t : (q - r) * ((a1 + a2) * (a1 - a3) - k * (p - r)) = 0 := by grind
      have := (Rat.mul_eq_zero.mp t).resolve_left (by grind)
      grind
  have E2 : (a1 + a2) * (a2 - a3) = k * (u - q) := by grind
  have E3 : k * (v - s) = (a1 - a3) * (a2 - a3) := by grind
  have E4 : (a1 + a2) * (a1 + a2) * (v - s) = k * (p - r) * (u - q) := by
    have t : k * ((a1 + a2) * (a1 + a2) * (v - s) - k * (p - r) * (u - q)) = 0 := by
      have : (a1 + a2) * (a1 + a2) * (k * (v - s)) = k * (p - r) * (k * (u - q)) := by rw [E3, ← E1, ← E2]; grind
      grind
    have := (Rat.mul_eq_zero.mp t).resolve_left k0
    grind
  have F1 : (a1 + a2) * a1 - k * (p + q) + (a1 + a2) * a3 - (a1 + a2) * (a1 + a2) = -(k * (p + u)) := by grind
  have F0 : (a1 + a2) * b1 + k * p * q + (a1 + a2) * b3 + (a1 + a2) * (a1 + a2) * v = k * p * u := by grind
  have G1 : -(k * (q + r)) + 2 * (a1 + a2) * a3 - (a1 + a2) * (a1 + a2) = -(k * (p + u)) := by grind
  have G0 : k * q * r + 2 * (a1 + a2) * b3 + (a1 + a2) * (a1 + a2) * v = k * p * u := by grind
  have M1 : a1 * p + b1 = (a1 + a2 - a3) * p + (-((a1 + a2) * v) - b3) := by
    by_cases hz : a1 + a2 = 0
    · have hp : p - r = 0 := (Rat.mul_eq_zero.mp (show k * (p - r) = 0 by rw [← E1, hz]; grind)).resolve_left k0
      have hp' : p = r := by grind
      subst hp'
      grind
    · have t : (a1 + a2) * (a1 * p + b1 - ((a1 + a2 - a3) * p + (-((a1 + a2) * v) - b3))) = 0 := by
        clear p1 p2 p3 p4 p5 p6 q1 q2 q3 q4 q5 q6 r1 r2 r3 r4 r5 r6 nQR hQ hR G
        have x1 : p * ((a1 + a2) * a1 - k * (p + q) + (a1 + a2) * a3 - (a1 + a2) * (a1 + a2)) = p * (-(k * (p + u))) := by rw [F1]
        clear E1 E2 E3 E4 F1 G1 G0 s1 s0 hc k0 hz
        grind
      have := (Rat.mul_eq_zero.mp t).resolve_left hz
      grind
  have M2 : a2 * u + b2 = (a1 + a2 - a3) * u + (-((a1 + a2) * v) - b3) := by
    by_cases hz : a1 + a2 = 0
    · have hp : u - q = 0 := (Rat.mul_eq_zero.mp (show k * (u - q) = 0 by rw [← E2, hz]; grind)).resolve_left k0
      have hp' : u = q := by grind
      subst hp'
      grind
    · have t : (a1 + a2) * (a2 * u + b2 - ((a1 + a2 - a3) * u + (-((a1 + a2) * v) - b3))) = 0 := by
        clear p1 p2 p3 p4 p5 p6 q1 q2 q3 q4 q5 q6 r1 r2 r3 r4 r5 r6 nQR hQ hR G
        have x1 : u * ((a1 + a2) * a1 - k * (p + q) + (a1 + a2) * a3 - (a1 + a2) * (a1 + a2)) = u * (-(k * (p + u))) := by rw [F1]
        have x2 : u * ((a1 + a2) * a1 - k * (p + q)) = u * ((a1 + a2) * a2 - k * (r + u)) := by rw [s1]
        clear E1 E2 E3 E4 F1 G1 G0 s1 hc k0 hz
        grind
      have := (Rat.mul_eq_zero.mp t).resolve_left hz
      grind
  refine ⟨a1 + a2 - a3, -((a1 + a2) * v) - b3, ?_, ?_, ?_, ?_, ?_, ?_⟩
  · simp only; rw [← M1]; exact p1
  · simp only; grind
  · simp only; rw [← M2]; exact q3
  · simp only; grind
  · simp only
    have x1 : v * (-(k * (q + r)) + 2 * (a1 + a2) * a3 - (a1 + a2) * (a1 + a2)) = v * (-(k * (p + u))) := by rw [G1]
    clear p1 p2 p3 p4 p5 p6 q1 q2 q3 q4 q5 q6 r1 r2 r3 r4 r6 nQR hQ hR G M1 M2 E1 E2 E3 E4 F1 F0 G1 s0 s1 hc k0
    grind
  · simp only
    have x0 : v * (k * q * r + 2 * (a1 + a2) * b3 + (a1 + a2) * (a1 + a2) * v) = v * (k * p * u) := by rw [G0]
    clear p1 p2 p3 p4 p5 p6 q1 q2 q3 q4 q5 q6 r1 r2 r3 r4 r5 nQR hQ hR G M1 M2 E1 E2 E3 E4 F1 F0 G1 G0 s0 s1 hc k0
    grind
/-! the sums as a group -/
def OnO (c : Cub) : Option Sp → Prop
  | none => True
  | some P => OnC c P
def ngO : Option Sp → Option Sp
  | none => none
  | some P => some (ngP P)
section
variable {c : Cub} (G : GdC c)
include G
theorem smP_some {P Q : Sp} (h : P ≠ ngP Q) : smP c (some P) (some Q) = some (sm2 c P Q) := if_neg h
theorem smP_ng (P : Sp) : smP c (some P) (some (ngP P)) = none := if_pos (ng_ng P).symm
theorem smP_none (P : Option Sp) : smP c P none = P := by cases P <;> rfl
theorem sm2_on {P Q : Sp} (hP : OnC c P) (hQ : OnC c Q) (h : P ≠ ngP Q) : OnC c (sm2 c P Q) := by
  have := ng_on (sum_col G hP hQ h).s23.s12.on
  rwa [ng_ng] at this
theorem smP_on {P Q : Option Sp} (hP : OnO c P) (hQ : OnO c Q) : OnO c (smP c P Q) := by
  cases P with
  | none => exact hQ
  | some P =>
    cases Q with
    | none => exact hP
    | some Q =>
      by_cases h : P = ngP Q
      · rw [show smP c (some P) (some Q) = none from if_pos h]; trivial
      · rw [smP_some G h]; exact sm2_on G hP hQ h
theorem sm2_comm {P Q : Sp} (hP : OnC c P) (hQ : OnC c Q) (h : P ≠ ngP Q) : sm2 c P Q = sm2 c Q P := by
  have := (col_sum G (sum_col G hP hQ h).s12).2
  rw [← ng_ng (sm2 c P Q), this, ng_ng]
theorem ng_sym {P Q : Sp} (h : P = ngP Q) : Q = ngP P := by rw [h, ng_ng]
theorem smP_comm {P Q : Option Sp} (hP : OnO c P) (hQ : OnO c Q) : smP c P Q = smP c Q P := by
  cases P with
  | none => cases Q <;> rfl
  | some P =>
    cases Q with
    | none => rfl
    | some Q =>
      by_cases h : P = ngP Q
      · rw [show smP c (some P) (some Q) = none from if_pos h, show smP c (some Q) (some P) = none from if_pos (ng_sym G h)]
      · rw [smP_some G h, smP_some G (fun e => h (ng_sym G e)), sm2_comm G hP hQ h]
theorem smP_back {P Q : Option Sp} (hP : OnO c P) (hQ : OnO c Q) : smP c (smP c P Q) (ngO Q) = P := by
  cases P with
  | none =>
    cases Q with
    | none => rfl
    | some Q => exact smP_ng G Q
  | some P =>
    cases Q with
    | none => rfl
    | some Q =>
      by_cases h : P = ngP Q
      · rw [show smP c (some P) (some Q) = none from if_pos h, h]; rfl
      · rw [smP_some G h]
        have H := (sum_col G hP hQ h).ng
        rw [ng_ng] at H
        obtain ⟨n, e⟩ := col_sum G H.s12.s23.s12
        show smP c (some (sm2 c P Q)) (some (ngP Q)) = some P
        rw [smP_some G n, ← ng_ng (sm2 c (sm2 c P Q) (ngP Q)), ← e, ng_ng]
theorem ngO_on {P : Option Sp} (hP : OnO c P) : OnO c (ngO P) := by
  cases P with
  | none => trivial
  | some P => exact ng_on hP
theorem ngO_ngO (P : Option Sp) : ngO (ngO P) = P := by
  cases P with
  | none => rfl
  | some P => show some (ngP (ngP P)) = some P; rw [ng_ng]
theorem smP_back' {P Q : Option Sp} (hP : OnO c P) (hQ : OnO c Q) : smP c (ngO Q) (smP c Q P) = P := by
  rw [smP_comm G (ngO_on G hQ) (smP_on G hQ hP), smP_comm G hQ hP, smP_back G hP hQ]
theorem smP_assoc {P Q R : Option Sp} (hP : OnO c P) (hQ : OnO c Q) (hR : OnO c R) : smP c (smP c P Q) R = smP c P (smP c Q R) := by
  cases P with
  | none => rfl
  | some P =>
  cases Q with
  | none => rfl
  | some Q =>
  cases R with
  | none => rw [smP_none G, smP_none G]
  | some R =>
  by_cases h1 : P = ngP Q
  · subst h1
    have := smP_back' G (P := some R) (Q := some Q) hR hQ
    rw [show ngO (some Q) = some (ngP Q) from rfl] at this
    rw [this, show smP c (some (ngP Q)) (some Q) = none from if_pos rfl]; rfl
  by_cases h2 : Q = ngP R
  · have h3 := ng_sym G h2
    subst h3
    have := smP_back G (P := some P) (Q := some Q) hP hQ
    rw [show ngO (some Q) = some (ngP Q) from rfl] at this
    rw [this, smP_ng G, smP_none G]
  have C1 := sum_col G hP hQ h1
  have C3 := sum_col G hQ hR h2
  have oS := sm2_on G hP hQ h1
  have oV := sm2_on G hQ hR h2
  rw [smP_some G h1, smP_some G h2]
  generalize sm2 c P Q = S at *
  generalize sm2 c Q R = V at *
  by_cases h4 : S = ngP R
  · subst h4
    rw [ng_ng] at C1
    have e := (col_sum G C3).2
    obtain ⟨n, e2⟩ := col_sum G C1.s12.s23
    rw [show smP c (some (ngP R)) (some R) = none from if_pos rfl]
    have : P = ngP V := by rw [e2, ← e]
    rw [show smP c (some P) (some V) = none from if_pos this]
  by_cases h5 : P = ngP V
  · exfalso
    have C := C3
    rw [← h5] at C
    have e := (col_sum G C.s23.s12).2
    have e2 := (col_sum G C1).2
    rw [← e2] at e
    exact h4 (by rw [e, ng_ng])
  rw [smP_some G h4, smP_some G h5]
  have C2 := sum_col G oS hR h4
  have C4 := col_assoc G C1 C2 C3
  have e := (col_sum G C4).2
  rw [← ng_ng (sm2 c S R), e, ng_ng]
/-- so many times -/
def tmP (c : Cub) (P : Option Sp) : Nat → Option Sp
  | 0 => none
  | n + 1 => smP c (tmP c P n) P
theorem tmP_on {P : Option Sp} (hP : OnO c P) : ∀ n, OnO c (tmP c P n)
  | 0 => trivial
  | n + 1 => smP_on G (tmP_on hP n) hP
theorem tmP_add {P : Option Sp} (hP : OnO c P) (m : Nat) : ∀ n, smP c (tmP c P m) (tmP c P n) = tmP c P (m + n)
  | 0 => smP_none G _
  | n + 1 => by
    show smP c (tmP c P m) (smP c (tmP c P n) P) = smP c (tmP c P (m + n)) P
    rw [← smP_assoc G (tmP_on G hP m) (tmP_on G hP n) hP, tmP_add hP m n]
theorem tmP_mul {P : Option Sp} (hP : OnO c P) (m : Nat) : ∀ n, tmP c (tmP c P m) n = tmP c P (m * n)
  | 0 => rfl
  | n + 1 => by
    show smP c (tmP c (tmP c P m) n) (tmP c P m) = _
    rw [tmP_mul hP m n, tmP_add G hP]; rfl
end
end Dl

namespace Dl
open PySem L2 PyProof.Rows
local macro_rules | `(tactic| walk_at "szb") => `(tactic| first | assumption | exact szm (by walk_at "szb") (by walk_at "szb") | exact sza (by walk_at "szb") (by walk_at "szb") | exact szs (by walk_at "szb") (by walk_at "szb") | exact szn (by walk_at "szb") | exact Nat.lt_two_pow_self)
local macro_rules | `(tactic| walk_at "shw") => `(tactic| first | assumption | exact shw_int (abs_up (by walk_at "szb") (by decide)) (by decide) | exact shw_non (by decide) | exact shw_bl (by decide) | exact shw_lit (k := 6) (by decide) (by decide) | ((first | refine shT1 ?_ (by simp) | refine shT2 ?_ (by simp) | refine shT3 ?_ (by simp) | refine shL1 ?_ (by simp) | refine shL2 ?_ (by simp) | refine shL3 ?_ (by simp)); (simp only [shA, and_true]); (try with_reducible refine And.intro ?_ ?_); (all_goals (try with_reducible refine And.intro ?_ ?_)); (all_goals (try with_reducible refine And.intro ?_ ?_)); (all_goals (try with_reducible refine And.intro ?_ ?_)); (all_goals (try with_reducible refine And.intro ?_ ?_)); (all_goals walk_at "shw")))
instance instNC : NC := ⟨4⟩
abbrev c_RoundError : Nat := 0
abbrev c_NoBottom : Nat := 1
abbrev c_NoCubic : Nat := 2
abbrev c_NoSpot : Nat := 3
def CN : Nat → Str := fun c => (["RoundError", "NoBottom", "NoCubic", "NoSpot"] : List Str).getD c ""
def topS (i : Nat) : Stmt := PySem.Challenge.pw_roundsides_k32_whole_sums_in_any_order.main.body.getD i (.Pass ⟨0, 0, 0, 0⟩)
def S_is_number : DSp := sp1 fun a μ Q _ => fit 60 a = true ∧ Q (.bl (isNum a)) μ
def N_is_number : List Str := ["thing"]
def m_is_number : MB := (.cons (.ret (.bop true (.cons (.isi (.var 0) .int) (.cons (.nt (.isi (.var 0) .bool)) .nil)))) .nil)
theorem w_is_number : ∀ ds μ Q X, S_is_number ds μ Q X → ds.length = 1 ∧ wpB m_is_number (startD 1 ds) μ (enD Q X) := sp1_of (by
  rintro a μ Q X ⟨f, q⟩
  cases a <;> first | (simp [fit] at f; done) | skip
  all_goals simp only [m_is_number, wpB, wpS, wpE, wpI, wpA, wpO, wpC, wpL]
  all_goals try simp -implicitDefEqProofs only [m_is_number, wpB, wpS, wpE, wpI, wpA, wpO, wpC, wpL, q_ifD, q_ifB, q_ifL, q_ifR, q_ifIs, q_ifBs, q_asI, q_rg0, q_rgs, q_rs0, q_rss, q_add, q_adds, q_addl, q_addt, q_sub, q_mul, q_fdiv, q_mod, q_pow, q_shl, q_trub, q_trui, q_trun, q_trul, q_eq, q_ne, q_lt, q_le, q_gt, q_ge, q_in, q_nin, q_cis, q_cisnt, q_joinl, q_joint, q_split, q_catll, q_catrl, q_catrr, q_catlr, q_setl, q_strs0, q_strsc, q_ifSs, q_clear, q_reverse, q_revl, q_revt, q_revr, q_eqm, q_nem, q_tupr, q_listr, q_lenr, q_lcf, q_lct, q_abs, q_lent, q_lenl, q_lens, q_sum, q_all, q_any, q_tupl, q_tupt, q_listl, q_listt, q_listMl, q_listMt, q_inti, q_intb, q_stri, q_strs, q_strn, q_strb, q_strt, q_strl, q_max, q_min, q_selt, q_sell, q_selr, q_seIt, q_seIl, q_seIr, q_itt, q_itl, q_bn, q_bt, q_btl, q_ba0, q_bas, q_inT, q_ninT, q_frzr, q_frzl, q_slct, q_slcl, q_slcr, q_slcs, q_trut, q_isn, q_isni, q_isnn, q_isnt, q_isnl, q_isne, q_isns, startD, enD, List.map_cons, List.map_nil, List.length_cons, List.length_nil, List.replicate, List.cons_append, List.nil_append, Nat.reduceAdd, Nat.reduceSub, MT.slots, wipeD, isiD, forW, lcW, Option.toList_some, Option.toList_none, List.append_nil, List.getElem?_cons_zero, List.getElem?_cons_succ, Option.bind_some, mset_same, mset_mset, if_true, if_false, Bool.false_eq_true, reduceIte, Bool.not_true, Bool.not_false, Bool.true_eq_false, true_and, decide_eq_true_eq, fit_int, fit_bl, fit_non, deq_int, deq_bl]
  all_goals exact q)

def S_common_of : DSp := sp1 fun a μ Q _ => ∃ ns : List Int, a = .tup (ns.map .int) ∧ Q (.int (gcdL ns)) μ
def N_common_of : List Str := ["numbers", "found", "number", "rest"]
def m_common_of : MB := (.cons (.asg (.name 1) (.int 0)) (.cons (.loop (.name 2) (.seq (.var 0)) (.cons (.asg (.name 3) (.bl1 .abs (.var 2))) (.cons (.whl (.cmp .ne (.var 3) (.int 0)) (.cons (.par 1 3 (.var 3) (.bin .mod (.var 1) (.var 3))) .nil)) .nil))) (.cons (.ret (.var 1)) .nil)))
theorem w_common_of : ∀ ds μ Q X, S_common_of ds μ Q X → ds.length = 1 ∧ wpB m_common_of (startD 4 ds) μ (enD Q X) := sp1_of (by
  rintro a μ Q X ⟨ns, rfl, q⟩
  simp only [m_common_of, wpB, wpS, wpE, wpI, wpA, wpO, wpC, wpL]
  try simp -implicitDefEqProofs only [m_common_of, wpB, wpS, wpE, wpI, wpA, wpO, wpC, wpL, q_ifD, q_ifB, q_ifL, q_ifR, q_ifIs, q_ifBs, q_asI, q_rg0, q_rgs, q_rs0, q_rss, q_add, q_adds, q_addl, q_addt, q_sub, q_mul, q_fdiv, q_mod, q_pow, q_shl, q_trub, q_trui, q_trun, q_trul, q_eq, q_ne, q_lt, q_le, q_gt, q_ge, q_in, q_nin, q_cis, q_cisnt, q_joinl, q_joint, q_split, q_catll, q_catrl, q_catrr, q_catlr, q_setl, q_strs0, q_strsc, q_ifSs, q_clear, q_reverse, q_revl, q_revt, q_revr, q_eqm, q_nem, q_tupr, q_listr, q_lenr, q_lcf, q_lct, q_abs, q_lent, q_lenl, q_lens, q_sum, q_all, q_any, q_tupl, q_tupt, q_listl, q_listt, q_listMl, q_listMt, q_inti, q_intb, q_stri, q_strs, q_strn, q_strb, q_strt, q_strl, q_max, q_min, q_selt, q_sell, q_selr, q_seIt, q_seIl, q_seIr, q_itt, q_itl, q_bn, q_bt, q_btl, q_ba0, q_bas, q_inT, q_ninT, q_frzr, q_frzl, q_slct, q_slcl, q_slcr, q_slcs, q_trut, q_isn, q_isni, q_isnn, q_isnt, q_isnl, q_isne, q_isns, startD, enD, List.map_cons, List.map_nil, List.length_cons, List.length_nil, List.replicate, List.cons_append, List.nil_append, Nat.reduceAdd, Nat.reduceSub, MT.slots, wipeD, isiD, forW, lcW, Option.toList_some, Option.toList_none, List.append_nil, List.getElem?_cons_zero, List.getElem?_cons_succ, Option.bind_some, mset_same, mset_mset, if_true, if_false, Bool.false_eq_true, reduceIte, Bool.not_true, Bool.not_false, Bool.true_eq_false, true_and, decide_eq_true_eq, fit_int, fit_bl, fit_non, deq_int, deq_bl]
  refine forW_by (fun ds ρ μ' => ∃ (rest : List Int) (g : Nat) (x y : Option D), ds = rest.map .int ∧ ρ = [some (D.tup (ns.map .int)), some (.int g), x, y] ∧ μ' = μ ∧ rest.foldl (fun g n => ((Int.gcd g n : Nat) : Int)) ((g : Nat) : Int) = gcdL ns) ?_ ?_ _ _ _ ⟨ns, 0, none, none, rfl, rfl, rfl, rfl⟩
  · rintro d ds ρ μ' k ⟨rest, g, x, y, e, rfl, rfl, h⟩ hk
    cases rest with
    | nil => simp at e
    | cons n rest =>
      simp only [List.map_cons, List.cons.injEq] at e
      obtain ⟨rfl, rfl⟩ := e
      simp -implicitDefEqProofs only [wpB, wpS, wpE, wpI, wpA, wpO, wpC, wpL, q_ifD, q_ifB, q_ifL, q_ifR, q_ifIs, q_ifBs, q_asI, q_rg0, q_rgs, q_rs0, q_rss, q_add, q_adds, q_addl, q_addt, q_sub, q_mul, q_fdiv, q_mod, q_pow, q_shl, q_trub, q_trui, q_trun, q_trul, q_eq, q_ne, q_lt, q_le, q_gt, q_ge, q_in, q_nin, q_cis, q_cisnt, q_joinl, q_joint, q_split, q_catll, q_catrl, q_catrr, q_catlr, q_setl, q_strs0, q_strsc, q_ifSs, q_clear, q_reverse, q_revl, q_revt, q_revr, q_eqm, q_nem, q_tupr, q_listr, q_lenr, q_lcf, q_lct, q_abs, q_lent, q_lenl, q_lens, q_sum, q_all, q_any, q_tupl, q_tupt, q_listl, q_listt, q_listMl, q_listMt, q_inti, q_intb, q_stri, q_strs, q_strn, q_strb, q_strt, q_strl, q_max, q_min, q_selt, q_sell, q_selr, q_seIt, q_seIl, q_seIr, q_itt, q_itl, q_bn, q_bt, q_btl, q_ba0, q_bas, q_inT, q_ninT, q_frzr, q_frzl, q_slct, q_slcl, q_slcr, q_slcs, q_trut, q_isn, q_isni, q_isnn, q_isnt, q_isnl, q_isne, q_isns, startD, enD, List.map_cons, List.map_nil, List.length_cons, List.length_nil, List.replicate, List.cons_append, List.nil_append, Nat.reduceAdd, Nat.reduceSub, MT.slots, wipeD, isiD, forW, lcW, Option.toList_some, Option.toList_none, List.append_nil, List.getElem?_cons_zero, List.getElem?_cons_succ, Option.bind_some, mset_same, mset_mset, if_true, if_false, Bool.false_eq_true, reduceIte, Bool.not_true, Bool.not_false, Bool.true_eq_false, true_and, decide_eq_true_eq, fit_int, fit_bl, fit_non, deq_int, deq_bl]
      refine whW_by (fun m ρ μ'' => ∃ f r : Nat, m = r ∧ ρ = [some (D.tup (ns.map .int)), some (.int f), some (.int n), some (.int r)] ∧ μ'' = μ' ∧ Int.gcd ((f : Nat) : Int) ((r : Nat) : Int) = Int.gcd g n) ?_ (m := n.natAbs) ⟨g, n.natAbs, rfl, rfl, rfl, by simp [Int.gcd]⟩
      rintro m ρ μ'' k' ⟨f, r, er, rfl, rfl, hg⟩ hk'
      subst er
      simp -implicitDefEqProofs only [wpB, wpS, wpE, wpI, wpA, wpO, wpC, wpL, q_ifD, q_ifB, q_ifL, q_ifR, q_ifIs, q_ifBs, q_asI, q_rg0, q_rgs, q_rs0, q_rss, q_add, q_adds, q_addl, q_addt, q_sub, q_mul, q_fdiv, q_mod, q_pow, q_shl, q_trub, q_trui, q_trun, q_trul, q_eq, q_ne, q_lt, q_le, q_gt, q_ge, q_in, q_nin, q_cis, q_cisnt, q_joinl, q_joint, q_split, q_catll, q_catrl, q_catrr, q_catlr, q_setl, q_strs0, q_strsc, q_ifSs, q_clear, q_reverse, q_revl, q_revt, q_revr, q_eqm, q_nem, q_tupr, q_listr, q_lenr, q_lcf, q_lct, q_abs, q_lent, q_lenl, q_lens, q_sum, q_all, q_any, q_tupl, q_tupt, q_listl, q_listt, q_listMl, q_listMt, q_inti, q_intb, q_stri, q_strs, q_strn, q_strb, q_strt, q_strl, q_max, q_min, q_selt, q_sell, q_selr, q_seIt, q_seIl, q_seIr, q_itt, q_itl, q_bn, q_bt, q_btl, q_ba0, q_bas, q_inT, q_ninT, q_frzr, q_frzl, q_slct, q_slcl, q_slcr, q_slcs, q_trut, q_isn, q_isni, q_isnn, q_isnt, q_isnl, q_isne, q_isns, startD, enD, List.map_cons, List.map_nil, List.length_cons, List.length_nil, List.replicate, List.cons_append, List.nil_append, Nat.reduceAdd, Nat.reduceSub, MT.slots, wipeD, isiD, forW, lcW, Option.toList_some, Option.toList_none, List.append_nil, List.getElem?_cons_zero, List.getElem?_cons_succ, Option.bind_some, mset_same, mset_mset, if_true, if_false, Bool.false_eq_true, reduceIte, Bool.not_true, Bool.not_false, Bool.true_eq_false, true_and, decide_eq_true_eq, fit_int, fit_bl, fit_non, deq_int, deq_bl]
      by_cases hr : m = 0
      · subst hr
        simp
        refine hk _ _ ⟨rest, f, _, _, rfl, rfl, rfl, ?_⟩
        simp only [List.foldl_cons] at h
        rw [← h, ← hg]
        simp
      · have h1 : ((m : Nat) : Int) ≠ 0 := by omega
        simp [h1, hr]
        rw [fmod_nat]
        exact hk' (f % m) _ _ (Nat.mod_lt _ (by omega)) ⟨m, f % m, rfl, rfl, rfl, by rw [← gcd_step f m hr]; exact hg⟩
  · rintro ρ μ' ⟨rest, g, x, y, e, rfl, rfl, h⟩
    cases rest with
    | nil =>
      simp -implicitDefEqProofs only [wpB, wpS, wpE, wpI, wpA, wpO, wpC, wpL, q_ifD, q_ifB, q_ifL, q_ifR, q_ifIs, q_ifBs, q_asI, q_rg0, q_rgs, q_rs0, q_rss, q_add, q_adds, q_addl, q_addt, q_sub, q_mul, q_fdiv, q_mod, q_pow, q_shl, q_trub, q_trui, q_trun, q_trul, q_eq, q_ne, q_lt, q_le, q_gt, q_ge, q_in, q_nin, q_cis, q_cisnt, q_joinl, q_joint, q_split, q_catll, q_catrl, q_catrr, q_catlr, q_setl, q_strs0, q_strsc, q_ifSs, q_clear, q_reverse, q_revl, q_revt, q_revr, q_eqm, q_nem, q_tupr, q_listr, q_lenr, q_lcf, q_lct, q_abs, q_lent, q_lenl, q_lens, q_sum, q_all, q_any, q_tupl, q_tupt, q_listl, q_listt, q_listMl, q_listMt, q_inti, q_intb, q_stri, q_strs, q_strn, q_strb, q_strt, q_strl, q_max, q_min, q_selt, q_sell, q_selr, q_seIt, q_seIl, q_seIr, q_itt, q_itl, q_bn, q_bt, q_btl, q_ba0, q_bas, q_inT, q_ninT, q_frzr, q_frzl, q_slct, q_slcl, q_slcr, q_slcs, q_trut, q_isn, q_isni, q_isnn, q_isnt, q_isnl, q_isne, q_isns, startD, enD, List.map_cons, List.map_nil, List.length_cons, List.length_nil, List.replicate, List.cons_append, List.nil_append, Nat.reduceAdd, Nat.reduceSub, MT.slots, wipeD, isiD, forW, lcW, Option.toList_some, Option.toList_none, List.append_nil, List.getElem?_cons_zero, List.getElem?_cons_succ, Option.bind_some, mset_same, mset_mset, if_true, if_false, Bool.false_eq_true, reduceIte, Bool.not_true, Bool.not_false, Bool.true_eq_false, true_and, decide_eq_true_eq, fit_int, fit_bl, fit_non, deq_int, deq_bl]
      simp only [List.foldl_nil] at h
      rw [h]; exact q
    | cons n rest => simp at e)

/-! fractions of any size, over the rational numbers -/
def S_fraction_of : DSp := sp2 fun a d μ Q X => ∃ t b : Int, a = .int t ∧ d = .int b ∧ (b = 0 → X c_NoBottom μ) ∧ (b ≠ 0 → Q (frD t b) μ)
def N_fraction_of : List Str := ["top", "bottom", "by"]
def m_fraction_of : MB := (.cons (.ite (.cmp .eq (.var 1) (.int 0)) (.cons (.rais 1) .nil) .nil) (.cons (.asg (.name 2) (.call "common_of" S_common_of (.cons (.tup (.cons (.var 0) (.cons (.var 1) .nil))) .nil))) (.cons (.ite (.cmp .lt (.var 1) (.int 0)) (.cons (.asg (.name 2) (.bin .sub (.int 0) (.var 2))) .nil) .nil) (.cons (.ret (.tup (.cons (.bin .fdiv (.var 0) (.var 2)) (.cons (.bin .fdiv (.var 1) (.var 2)) .nil)))) .nil))))
theorem w_fraction_of : ∀ ds μ Q X, S_fraction_of ds μ Q X → ds.length = 2 ∧ wpB m_fraction_of (startD 3 ds) μ (enD Q X) := sp2_of (by
  rintro a d μ Q X ⟨t, b, rfl, rfl, h0, h1⟩
  simp only [m_fraction_of, wpB, wpS, wpE, wpI, wpA, wpO, wpC, wpL]
  try simp -implicitDefEqProofs only [m_fraction_of, wpB, wpS, wpE, wpI, wpA, wpO, wpC, wpL, q_ifD, q_ifB, q_ifL, q_ifR, q_ifIs, q_ifBs, q_asI, q_rg0, q_rgs, q_rs0, q_rss, q_add, q_adds, q_addl, q_addt, q_sub, q_mul, q_fdiv, q_mod, q_pow, q_shl, q_trub, q_trui, q_trun, q_trul, q_eq, q_ne, q_lt, q_le, q_gt, q_ge, q_in, q_nin, q_cis, q_cisnt, q_joinl, q_joint, q_split, q_catll, q_catrl, q_catrr, q_catlr, q_setl, q_strs0, q_strsc, q_ifSs, q_clear, q_reverse, q_revl, q_revt, q_revr, q_eqm, q_nem, q_tupr, q_listr, q_lenr, q_lcf, q_lct, q_abs, q_lent, q_lenl, q_lens, q_sum, q_all, q_any, q_tupl, q_tupt, q_listl, q_listt, q_listMl, q_listMt, q_inti, q_intb, q_stri, q_strs, q_strn, q_strb, q_strt, q_strl, q_max, q_min, q_selt, q_sell, q_selr, q_seIt, q_seIl, q_seIr, q_itt, q_itl, q_bn, q_bt, q_btl, q_ba0, q_bas, q_inT, q_ninT, q_frzr, q_frzl, q_slct, q_slcl, q_slcr, q_slcs, q_trut, q_isn, q_isni, q_isnn, q_isnt, q_isnl, q_isne, q_isns, startD, enD, List.map_cons, List.map_nil, List.length_cons, List.length_nil, List.replicate, List.cons_append, List.nil_append, Nat.reduceAdd, Nat.reduceSub, MT.slots, wipeD, isiD, forW, lcW, Option.toList_some, Option.toList_none, List.append_nil, List.getElem?_cons_zero, List.getElem?_cons_succ, Option.bind_some, mset_same, mset_mset, if_true, if_false, Bool.false_eq_true, reduceIte, Bool.not_true, Bool.not_false, Bool.true_eq_false, true_and, decide_eq_true_eq, fit_int, fit_bl, fit_non, deq_int, deq_bl]
  by_cases hb : b = 0
  · subst hb
    simp
    exact h0 rfl
  · have q := h1 hb
    simp only [beq_iff_eq, hb, if_false]
    refine ⟨[t, b], rfl, ?_⟩
    rw [gcdL_two]
    have hd : divOk (byI t b) := byI_ne hb
    by_cases hn : b < 0
    · have e : (0 : Int) - ((Int.gcd t b : Nat) : Int) = byI t b := by unfold byI; rw [if_pos hn]
      simp -implicitDefEqProofs only [hn, decide_true, wpB, wpS, wpE, wpI, wpA, wpO, wpC, wpL, q_ifD, q_ifB, q_ifL, q_ifR, q_ifIs, q_ifBs, q_asI, q_rg0, q_rgs, q_rs0, q_rss, q_add, q_adds, q_addl, q_addt, q_sub, q_mul, q_fdiv, q_mod, q_pow, q_shl, q_trub, q_trui, q_trun, q_trul, q_eq, q_ne, q_lt, q_le, q_gt, q_ge, q_in, q_nin, q_cis, q_cisnt, q_joinl, q_joint, q_split, q_catll, q_catrl, q_catrr, q_catlr, q_setl, q_strs0, q_strsc, q_ifSs, q_clear, q_reverse, q_revl, q_revt, q_revr, q_eqm, q_nem, q_tupr, q_listr, q_lenr, q_lcf, q_lct, q_abs, q_lent, q_lenl, q_lens, q_sum, q_all, q_any, q_tupl, q_tupt, q_listl, q_listt, q_listMl, q_listMt, q_inti, q_intb, q_stri, q_strs, q_strn, q_strb, q_strt, q_strl, q_max, q_min, q_selt, q_sell, q_selr, q_seIt, q_seIl, q_seIr, q_itt, q_itl, q_bn, q_bt, q_btl, q_ba0, q_bas, q_inT, q_ninT, q_frzr, q_frzl, q_slct, q_slcl, q_slcr, q_slcs, q_trut, q_isn, q_isni, q_isnn, q_isnt, q_isnl, q_isne, q_isns, startD, enD, List.map_cons, List.map_nil, List.length_cons, List.length_nil, List.replicate, List.cons_append, List.nil_append, Nat.reduceAdd, Nat.reduceSub, MT.slots, wipeD, isiD, forW, lcW, Option.toList_some, Option.toList_none, List.append_nil, List.getElem?_cons_zero, List.getElem?_cons_succ, Option.bind_some, mset_same, mset_mset, if_true, if_false, Bool.false_eq_true, reduceIte, Bool.not_true, Bool.not_false, Bool.true_eq_false, true_and, decide_eq_true_eq, fit_int, fit_bl, fit_non, deq_int, deq_bl, e]
      exact ⟨hd, hd, q⟩
    · have e : ((Int.gcd t b : Nat) : Int) = byI t b := by unfold byI; rw [if_neg hn]
      simp only [hn, if_false, decide_false, e, Bool.false_eq_true]
      exact ⟨hd, hd, q⟩)
theorem frac_q {t d : Int} {μ : Mu} {Q : Pst} {X : Xst} (hd : d ≠ 0) (k : Q (qD (Rat.divInt t d)) μ) : S_fraction_of [.int t, .int d] μ Q X :=
  ⟨t, d, rfl, rfl, fun e => absurd e hd, fun _ => by rw [frD_eq, frP_q hd]; exact k⟩
theorem mulq {a b : Rat} {m n : Nat} (h1 : szQ m a) (h2 : szQ n b) (h : m + n ≤ 120000000) : mulOk a.num b.num ∧ mulOk a.num (b.den : Int) ∧ mulOk b.num (a.den : Int) ∧ mulOk (a.den : Int) (b.den : Int) ∧ mulOk (a.den : Int) b.num := ⟨mul_ok m n h1.1 h2.1 h, mul_ok m n h1.1 h2.2 h, mul_ok n m h2.1 h1.2 (by omega), mul_ok m n h1.2 h2.2 h, mul_ok m n h1.2 h2.1 h⟩
def S_frac_sum : DSp := sp2 fun x y μ Q _ => ∃ (a b : Rat) (m n : Nat), x = qD a ∧ y = qD b ∧ szQ m a ∧ szQ n b ∧ m + n ≤ 100000000 ∧ Q (qD (a + b)) μ
def N_frac_sum : List Str := ["one", "other"]
def m_frac_sum : MB := (.cons (.ret (.call "fraction_of" S_fraction_of (.cons (.bin .add (.bin .mul (.ixc (.var 0) 0) (.ixc (.var 1) 1)) (.bin .mul (.ixc (.var 1) 0) (.ixc (.var 0) 1))) (.cons (.bin .mul (.ixc (.var 0) 1) (.ixc (.var 1) 1)) .nil)))) .nil)
theorem w_frac_sum : ∀ ds μ Q X, S_frac_sum ds μ Q X → ds.length = 2 ∧ wpB m_frac_sum (startD 2 ds) μ (enD Q X) := sp2_of (by
  rintro x y μ Q X ⟨a, b, m, n, rfl, rfl, h1, h2, hb, q⟩
  obtain ⟨k1, k2, k3, k4, k5⟩ := mulq h1 h2 (by omega)
  simp only [m_frac_sum, wpB, wpS, wpE, wpI, wpA, wpO, wpC, wpL]
  try simp -implicitDefEqProofs only [m_frac_sum, fD, wpB, wpS, wpE, wpI, wpA, wpO, wpC, wpL, q_ifD, q_ifB, q_ifL, q_ifR, q_ifIs, q_ifBs, q_asI, q_rg0, q_rgs, q_rs0, q_rss, q_add, q_adds, q_addl, q_addt, q_sub, q_mul, q_fdiv, q_mod, q_pow, q_shl, q_trub, q_trui, q_trun, q_trul, q_eq, q_ne, q_lt, q_le, q_gt, q_ge, q_in, q_nin, q_cis, q_cisnt, q_joinl, q_joint, q_split, q_catll, q_catrl, q_catrr, q_catlr, q_setl, q_strs0, q_strsc, q_ifSs, q_clear, q_reverse, q_revl, q_revt, q_revr, q_eqm, q_nem, q_tupr, q_listr, q_lenr, q_lcf, q_lct, q_abs, q_lent, q_lenl, q_lens, q_sum, q_all, q_any, q_tupl, q_tupt, q_listl, q_listt, q_listMl, q_listMt, q_inti, q_intb, q_stri, q_strs, q_strn, q_strb, q_strt, q_strl, q_max, q_min, q_selt, q_sell, q_selr, q_seIt, q_seIl, q_seIr, q_itt, q_itl, q_bn, q_bt, q_btl, q_ba0, q_bas, q_inT, q_ninT, q_frzr, q_frzl, q_slct, q_slcl, q_slcr, q_slcs, q_trut, q_isn, q_isni, q_isnn, q_isnt, q_isnl, q_isne, q_isns, startD, enD, List.map_cons, List.map_nil, List.length_cons, List.length_nil, List.replicate, List.cons_append, List.nil_append, Nat.reduceAdd, Nat.reduceSub, MT.slots, wipeD, isiD, forW, lcW, Option.toList_some, Option.toList_none, List.append_nil, List.getElem?_cons_zero, List.getElem?_cons_succ, Option.bind_some, mset_same, mset_mset, if_true, if_false, Bool.false_eq_true, reduceIte, Bool.not_true, Bool.not_false, Bool.true_eq_false, true_and, decide_eq_true_eq, fit_int, fit_bl, fit_non, deq_int, deq_bl]
  refine ⟨k2, k3, k4, _, _, rfl, rfl, fun e => absurd e (mul_ne0 (den_ne a) (den_ne b)), fun _ => ?_⟩
  have e := sumF_q a b
  unfold sumF at e
  rw [frD_eq, e]
  exact q)
theorem sum_q {a b : Rat} {m n : Nat} {μ : Mu} {Q : Pst} {X : Xst} (h1 : szQ m a) (h2 : szQ n b) (hm : m ≤ 50000000) (hn : n ≤ 50000000) (k : szQ (m + n + 1) (a + b) → Q (qD (a + b)) μ) : S_frac_sum [qD a, qD b] μ Q X :=
  ⟨a, b, m, n, rfl, rfl, h1, h2, by omega, k (szQ_add h1 h2)⟩
def S_frac_less : DSp := sp2 fun x y μ Q _ => ∃ (a b : Rat) (m n : Nat), x = qD a ∧ y = qD b ∧ szQ m a ∧ szQ n b ∧ m + n ≤ 100000000 ∧ Q (qD (a - b)) μ
def N_frac_less : List Str := ["one", "other"]
def m_frac_less : MB := (.cons (.ret (.call "fraction_of" S_fraction_of (.cons (.bin .sub (.bin .mul (.ixc (.var 0) 0) (.ixc (.var 1) 1)) (.bin .mul (.ixc (.var 1) 0) (.ixc (.var 0) 1))) (.cons (.bin .mul (.ixc (.var 0) 1) (.ixc (.var 1) 1)) .nil)))) .nil)
theorem w_frac_less : ∀ ds μ Q X, S_frac_less ds μ Q X → ds.length = 2 ∧ wpB m_frac_less (startD 2 ds) μ (enD Q X) := sp2_of (by
  rintro x y μ Q X ⟨a, b, m, n, rfl, rfl, h1, h2, hb, q⟩
  obtain ⟨k1, k2, k3, k4, k5⟩ := mulq h1 h2 (by omega)
  simp only [m_frac_less, wpB, wpS, wpE, wpI, wpA, wpO, wpC, wpL]
  try simp -implicitDefEqProofs only [m_frac_less, fD, wpB, wpS, wpE, wpI, wpA, wpO, wpC, wpL, q_ifD, q_ifB, q_ifL, q_ifR, q_ifIs, q_ifBs, q_asI, q_rg0, q_rgs, q_rs0, q_rss, q_add, q_adds, q_addl, q_addt, q_sub, q_mul, q_fdiv, q_mod, q_pow, q_shl, q_trub, q_trui, q_trun, q_trul, q_eq, q_ne, q_lt, q_le, q_gt, q_ge, q_in, q_nin, q_cis, q_cisnt, q_joinl, q_joint, q_split, q_catll, q_catrl, q_catrr, q_catlr, q_setl, q_strs0, q_strsc, q_ifSs, q_clear, q_reverse, q_revl, q_revt, q_revr, q_eqm, q_nem, q_tupr, q_listr, q_lenr, q_lcf, q_lct, q_abs, q_lent, q_lenl, q_lens, q_sum, q_all, q_any, q_tupl, q_tupt, q_listl, q_listt, q_listMl, q_listMt, q_inti, q_intb, q_stri, q_strs, q_strn, q_strb, q_strt, q_strl, q_max, q_min, q_selt, q_sell, q_selr, q_seIt, q_seIl, q_seIr, q_itt, q_itl, q_bn, q_bt, q_btl, q_ba0, q_bas, q_inT, q_ninT, q_frzr, q_frzl, q_slct, q_slcl, q_slcr, q_slcs, q_trut, q_isn, q_isni, q_isnn, q_isnt, q_isnl, q_isne, q_isns, startD, enD, List.map_cons, List.map_nil, List.length_cons, List.length_nil, List.replicate, List.cons_append, List.nil_append, Nat.reduceAdd, Nat.reduceSub, MT.slots, wipeD, isiD, forW, lcW, Option.toList_some, Option.toList_none, List.append_nil, List.getElem?_cons_zero, List.getElem?_cons_succ, Option.bind_some, mset_same, mset_mset, if_true, if_false, Bool.false_eq_true, reduceIte, Bool.not_true, Bool.not_false, Bool.true_eq_false, true_and, decide_eq_true_eq, fit_int, fit_bl, fit_non, deq_int, deq_bl]
  refine ⟨k2, k3, k4, _, _, rfl, rfl, fun e => absurd e (mul_ne0 (den_ne a) (den_ne b)), fun _ => ?_⟩
  have e := lessF_q a b
  unfold lessF at e
  rw [frD_eq, e]
  exact q)
theorem less_q {a b : Rat} {m n : Nat} {μ : Mu} {Q : Pst} {X : Xst} (h1 : szQ m a) (h2 : szQ n b) (hm : m ≤ 50000000) (hn : n ≤ 50000000) (k : szQ (m + n + 1) (a - b) → Q (qD (a - b)) μ) : S_frac_less [qD a, qD b] μ Q X :=
  ⟨a, b, m, n, rfl, rfl, h1, h2, by omega, k (szQ_sub h1 h2)⟩
def S_frac_times : DSp := sp2 fun x y μ Q _ => ∃ (a b : Rat) (m n : Nat), x = qD a ∧ y = qD b ∧ szQ m a ∧ szQ n b ∧ m + n ≤ 100000000 ∧ Q (qD (a * b)) μ
def N_frac_times : List Str := ["one", "other"]
def m_frac_times : MB := (.cons (.ret (.call "fraction_of" S_fraction_of (.cons (.bin .mul (.ixc (.var 0) 0) (.ixc (.var 1) 0)) (.cons (.bin .mul (.ixc (.var 0) 1) (.ixc (.var 1) 1)) .nil)))) .nil)
theorem w_frac_times : ∀ ds μ Q X, S_frac_times ds μ Q X → ds.length = 2 ∧ wpB m_frac_times (startD 2 ds) μ (enD Q X) := sp2_of (by
  rintro x y μ Q X ⟨a, b, m, n, rfl, rfl, h1, h2, hb, q⟩
  obtain ⟨k1, k2, k3, k4, k5⟩ := mulq h1 h2 (by omega)
  simp only [m_frac_times, wpB, wpS, wpE, wpI, wpA, wpO, wpC, wpL]
  try simp -implicitDefEqProofs only [m_frac_times, fD, wpB, wpS, wpE, wpI, wpA, wpO, wpC, wpL, q_ifD, q_ifB, q_ifL, q_ifR, q_ifIs, q_ifBs, q_asI, q_rg0, q_rgs, q_rs0, q_rss, q_add, q_adds, q_addl, q_addt, q_sub, q_mul, q_fdiv, q_mod, q_pow, q_shl, q_trub, q_trui, q_trun, q_trul, q_eq, q_ne, q_lt, q_le, q_gt, q_ge, q_in, q_nin, q_cis, q_cisnt, q_joinl, q_joint, q_split, q_catll, q_catrl, q_catrr, q_catlr, q_setl, q_strs0, q_strsc, q_ifSs, q_clear, q_reverse, q_revl, q_revt, q_revr, q_eqm, q_nem, q_tupr, q_listr, q_lenr, q_lcf, q_lct, q_abs, q_lent, q_lenl, q_lens, q_sum, q_all, q_any, q_tupl, q_tupt, q_listl, q_listt, q_listMl, q_listMt, q_inti, q_intb, q_stri, q_strs, q_strn, q_strb, q_strt, q_strl, q_max, q_min, q_selt, q_sell, q_selr, q_seIt, q_seIl, q_seIr, q_itt, q_itl, q_bn, q_bt, q_btl, q_ba0, q_bas, q_inT, q_ninT, q_frzr, q_frzl, q_slct, q_slcl, q_slcr, q_slcs, q_trut, q_isn, q_isni, q_isnn, q_isnt, q_isnl, q_isne, q_isns, startD, enD, List.map_cons, List.map_nil, List.length_cons, List.length_nil, List.replicate, List.cons_append, List.nil_append, Nat.reduceAdd, Nat.reduceSub, MT.slots, wipeD, isiD, forW, lcW, Option.toList_some, Option.toList_none, List.append_nil, List.getElem?_cons_zero, List.getElem?_cons_succ, Option.bind_some, mset_same, mset_mset, if_true, if_false, Bool.false_eq_true, reduceIte, Bool.not_true, Bool.not_false, Bool.true_eq_false, true_and, decide_eq_true_eq, fit_int, fit_bl, fit_non, deq_int, deq_bl]
  refine ⟨k1, k4, _, _, rfl, rfl, fun e => absurd e (mul_ne0 (den_ne a) (den_ne b)), fun _ => ?_⟩
  have e := timesF_q a b
  unfold timesF at e
  rw [frD_eq, e]
  exact q)
theorem times_q {a b : Rat} {m n : Nat} {μ : Mu} {Q : Pst} {X : Xst} (h1 : szQ m a) (h2 : szQ n b) (hm : m ≤ 50000000) (hn : n ≤ 50000000) (k : szQ (m + n) (a * b) → Q (qD (a * b)) μ) : S_frac_times [qD a, qD b] μ Q X :=
  ⟨a, b, m, n, rfl, rfl, h1, h2, by omega, k (szQ_mul h1 h2)⟩
def S_frac_by : DSp := sp2 fun x y μ Q X => ∃ (a b : Rat) (m n : Nat), x = qD a ∧ y = qD b ∧ szQ m a ∧ szQ n b ∧ m + n ≤ 100000000 ∧ (b = 0 → X c_NoBottom μ) ∧ (b ≠ 0 → Q (qD (a / b)) μ)
def N_frac_by : List Str := ["one", "other"]
def m_frac_by : MB := (.cons (.ite (.cmp .eq (.ixc (.var 1) 0) (.int 0)) (.cons (.rais 1) .nil) .nil) (.cons (.ret (.call "fraction_of" S_fraction_of (.cons (.bin .mul (.ixc (.var 0) 0) (.ixc (.var 1) 1)) (.cons (.bin .mul (.ixc (.var 0) 1) (.ixc (.var 1) 0)) .nil)))) .nil))
theorem w_frac_by : ∀ ds μ Q X, S_frac_by ds μ Q X → ds.length = 2 ∧ wpB m_frac_by (startD 2 ds) μ (enD Q X) := sp2_of (by
  rintro x y μ Q X ⟨a, b, m, n, rfl, rfl, h1, h2, hb, q0, q⟩
  obtain ⟨k1, k2, k3, k4, k5⟩ := mulq h1 h2 (by omega)
  simp only [m_frac_by, wpB, wpS, wpE, wpI, wpA, wpO, wpC, wpL]
  try simp -implicitDefEqProofs only [m_frac_by, fD, wpB, wpS, wpE, wpI, wpA, wpO, wpC, wpL, q_ifD, q_ifB, q_ifL, q_ifR, q_ifIs, q_ifBs, q_asI, q_rg0, q_rgs, q_rs0, q_rss, q_add, q_adds, q_addl, q_addt, q_sub, q_mul, q_fdiv, q_mod, q_pow, q_shl, q_trub, q_trui, q_trun, q_trul, q_eq, q_ne, q_lt, q_le, q_gt, q_ge, q_in, q_nin, q_cis, q_cisnt, q_joinl, q_joint, q_split, q_catll, q_catrl, q_catrr, q_catlr, q_setl, q_strs0, q_strsc, q_ifSs, q_clear, q_reverse, q_revl, q_revt, q_revr, q_eqm, q_nem, q_tupr, q_listr, q_lenr, q_lcf, q_lct, q_abs, q_lent, q_lenl, q_lens, q_sum, q_all, q_any, q_tupl, q_tupt, q_listl, q_listt, q_listMl, q_listMt, q_inti, q_intb, q_stri, q_strs, q_strn, q_strb, q_strt, q_strl, q_max, q_min, q_selt, q_sell, q_selr, q_seIt, q_seIl, q_seIr, q_itt, q_itl, q_bn, q_bt, q_btl, q_ba0, q_bas, q_inT, q_ninT, q_frzr, q_frzl, q_slct, q_slcl, q_slcr, q_slcs, q_trut, q_isn, q_isni, q_isnn, q_isnt, q_isnl, q_isne, q_isns, startD, enD, List.map_cons, List.map_nil, List.length_cons, List.length_nil, List.replicate, List.cons_append, List.nil_append, Nat.reduceAdd, Nat.reduceSub, MT.slots, wipeD, isiD, forW, lcW, Option.toList_some, Option.toList_none, List.append_nil, List.getElem?_cons_zero, List.getElem?_cons_succ, Option.bind_some, mset_same, mset_mset, if_true, if_false, Bool.false_eq_true, reduceIte, Bool.not_true, Bool.not_false, Bool.true_eq_false, true_and, decide_eq_true_eq, fit_int, fit_bl, fit_non, deq_int, deq_bl]
  by_cases h : b = 0
  · exact ite_t (by simp [h]) (q0 h)
  · have hn : b.num ≠ 0 := fun e => h (num0.mp e)
    refine ite_f (by simp [hn]) ⟨k2, k5, _, _, rfl, rfl, fun e => absurd e (mul_ne0 (den_ne a) hn), fun _ => ?_⟩
    have e := byF_q a b h
    unfold byF at e
    rw [frD_eq, e]
    exact q h)
theorem by_q {a b : Rat} {m n : Nat} {μ : Mu} {Q : Pst} {X : Xst} (h1 : szQ m a) (h2 : szQ n b) (hm : m ≤ 50000000) (hn : n ≤ 50000000) (hb : b ≠ 0) (k : szQ (m + n) (a / b) → Q (qD (a / b)) μ) : S_frac_by [qD a, qD b] μ Q X :=
  ⟨a, b, m, n, rfl, rfl, h1, h2, by omega, fun e => absurd e hb, fun _ => k (szQ_div h1 h2 hb)⟩

def S_is_fraction : DSp := sp1 fun x μ Q _ => fit 59 x = true ∧ Q (.bl (isFr x)) μ
def N_is_fraction : List Str := ["thing"]
def m_is_fraction : MB := (.cons (.ite (.bop false (.cons (.nt (.isi (.var 0) .tuple)) (.cons (.cmp .ne (.bl1 .len (.var 0)) (.int 2)) (.cons (.nt (.call "is_number" S_is_number (.cons (.ixc (.var 0) 0) .nil))) (.cons (.nt (.call "is_number" S_is_number (.cons (.ixc (.var 0) 1) .nil))) .nil))))) (.cons (.ret (.bl false)) .nil) .nil) (.cons (.ret (.bop true (.cons (.cmp .ge (.ixc (.var 0) 1) (.int 1)) (.cons (.cmp .eq (.call "common_of" S_common_of (.cons (.var 0) .nil)) (.int 1)) .nil)))) .nil))
theorem w_is_fraction : ∀ ds μ Q X, S_is_fraction ds μ Q X → ds.length = 1 ∧ wpB m_is_fraction (startD 1 ds) μ (enD Q X) := sp1_of (by
  rintro x μ Q X ⟨f, q⟩
  cases x with
  | exc c => simp [fit] at f
  | ref c => simp [fit] at f
  | tup ds =>
    simp only [m_is_fraction, wpB, wpS, wpE, wpI, wpA, wpO, wpC, wpL]
    try simp -implicitDefEqProofs only [m_is_fraction, wpB, wpS, wpE, wpI, wpA, wpO, wpC, wpL, q_ifD, q_ifB, q_ifL, q_ifR, q_ifIs, q_ifBs, q_asI, q_rg0, q_rgs, q_rs0, q_rss, q_add, q_adds, q_addl, q_addt, q_sub, q_mul, q_fdiv, q_mod, q_pow, q_shl, q_trub, q_trui, q_trun, q_trul, q_eq, q_ne, q_lt, q_le, q_gt, q_ge, q_in, q_nin, q_cis, q_cisnt, q_joinl, q_joint, q_split, q_catll, q_catrl, q_catrr, q_catlr, q_setl, q_strs0, q_strsc, q_ifSs, q_clear, q_reverse, q_revl, q_revt, q_revr, q_eqm, q_nem, q_tupr, q_listr, q_lenr, q_lcf, q_lct, q_abs, q_lent, q_lenl, q_lens, q_sum, q_all, q_any, q_tupl, q_tupt, q_listl, q_listt, q_listMl, q_listMt, q_inti, q_intb, q_stri, q_strs, q_strn, q_strb, q_strt, q_strl, q_max, q_min, q_selt, q_sell, q_selr, q_seIt, q_seIl, q_seIr, q_itt, q_itl, q_bn, q_bt, q_btl, q_ba0, q_bas, q_inT, q_ninT, q_frzr, q_frzl, q_slct, q_slcl, q_slcr, q_slcs, q_trut, q_isn, q_isni, q_isnn, q_isnt, q_isnl, q_isne, q_isns, startD, enD, List.map_cons, List.map_nil, List.length_cons, List.length_nil, List.replicate, List.cons_append, List.nil_append, Nat.reduceAdd, Nat.reduceSub, MT.slots, wipeD, isiD, forW, lcW, Option.toList_some, Option.toList_none, List.append_nil, List.getElem?_cons_zero, List.getElem?_cons_succ, Option.bind_some, mset_same, mset_mset, if_true, if_false, Bool.false_eq_true, reduceIte, Bool.not_true, Bool.not_false, Bool.true_eq_false, true_and, decide_eq_true_eq, fit_int, fit_bl, fit_non, deq_int, deq_bl]
    by_cases hl : ds.length = 2
    · obtain ⟨x, y, rfl⟩ : ∃ x y, ds = [x, y] := by
        match ds, hl with
        | [x, y], _ => exact ⟨x, y, rfl⟩
      have f1 : fit 60 x = true := fit_up 58 60 x (by decide) (List.all_eq_true.mp f x (by simp))
      have f2 : fit 60 y = true := fit_up 58 60 y (by decide) (List.all_eq_true.mp f y (by simp))
      refine ite_t (by simp) ⟨f1, ?_⟩
      cases h1 : isNum x with
      | false =>
        rw [isFr_num (.inl h1)] at q
        try simp -implicitDefEqProofs only [wpB, wpS, wpE, wpI, wpA, wpO, wpC, wpL, q_ifD, q_ifB, q_ifL, q_ifR, q_ifIs, q_ifBs, q_asI, q_rg0, q_rgs, q_rs0, q_rss, q_add, q_adds, q_addl, q_addt, q_sub, q_mul, q_fdiv, q_mod, q_pow, q_shl, q_trub, q_trui, q_trun, q_trul, q_eq, q_ne, q_lt, q_le, q_gt, q_ge, q_in, q_nin, q_cis, q_cisnt, q_joinl, q_joint, q_split, q_catll, q_catrl, q_catrr, q_catlr, q_setl, q_strs0, q_strsc, q_ifSs, q_clear, q_reverse, q_revl, q_revt, q_revr, q_eqm, q_nem, q_tupr, q_listr, q_lenr, q_lcf, q_lct, q_abs, q_lent, q_lenl, q_lens, q_sum, q_all, q_any, q_tupl, q_tupt, q_listl, q_listt, q_listMl, q_listMt, q_inti, q_intb, q_stri, q_strs, q_strn, q_strb, q_strt, q_strl, q_max, q_min, q_selt, q_sell, q_selr, q_seIt, q_seIl, q_seIr, q_itt, q_itl, q_bn, q_bt, q_btl, q_ba0, q_bas, q_inT, q_ninT, q_frzr, q_frzl, q_slct, q_slcl, q_slcr, q_slcs, q_trut, q_isn, q_isni, q_isnn, q_isnt, q_isnl, q_isne, q_isns, startD, enD, List.map_cons, List.map_nil, List.length_cons, List.length_nil, List.replicate, List.cons_append, List.nil_append, Nat.reduceAdd, Nat.reduceSub, MT.slots, wipeD, isiD, forW, lcW, Option.toList_some, Option.toList_none, List.append_nil, List.getElem?_cons_zero, List.getElem?_cons_succ, Option.bind_some, mset_same, mset_mset, if_true, if_false, Bool.false_eq_true, reduceIte, Bool.not_true, Bool.not_false, Bool.true_eq_false, true_and, decide_eq_true_eq, fit_int, fit_bl, fit_non, deq_int, deq_bl]
        exact q
      | true =>
        try simp -implicitDefEqProofs only [wpB, wpS, wpE, wpI, wpA, wpO, wpC, wpL, q_ifD, q_ifB, q_ifL, q_ifR, q_ifIs, q_ifBs, q_asI, q_rg0, q_rgs, q_rs0, q_rss, q_add, q_adds, q_addl, q_addt, q_sub, q_mul, q_fdiv, q_mod, q_pow, q_shl, q_trub, q_trui, q_trun, q_trul, q_eq, q_ne, q_lt, q_le, q_gt, q_ge, q_in, q_nin, q_cis, q_cisnt, q_joinl, q_joint, q_split, q_catll, q_catrl, q_catrr, q_catlr, q_setl, q_strs0, q_strsc, q_ifSs, q_clear, q_reverse, q_revl, q_revt, q_revr, q_eqm, q_nem, q_tupr, q_listr, q_lenr, q_lcf, q_lct, q_abs, q_lent, q_lenl, q_lens, q_sum, q_all, q_any, q_tupl, q_tupt, q_listl, q_listt, q_listMl, q_listMt, q_inti, q_intb, q_stri, q_strs, q_strn, q_strb, q_strt, q_strl, q_max, q_min, q_selt, q_sell, q_selr, q_seIt, q_seIl, q_seIr, q_itt, q_itl, q_bn, q_bt, q_btl, q_ba0, q_bas, q_inT, q_ninT, q_frzr, q_frzl, q_slct, q_slcl, q_slcr, q_slcs, q_trut, q_isn, q_isni, q_isnn, q_isnt, q_isnl, q_isne, q_isns, startD, enD, List.map_cons, List.map_nil, List.length_cons, List.length_nil, List.replicate, List.cons_append, List.nil_append, Nat.reduceAdd, Nat.reduceSub, MT.slots, wipeD, isiD, forW, lcW, Option.toList_some, Option.toList_none, List.append_nil, List.getElem?_cons_zero, List.getElem?_cons_succ, Option.bind_some, mset_same, mset_mset, if_true, if_false, Bool.false_eq_true, reduceIte, Bool.not_true, Bool.not_false, Bool.true_eq_false, true_and, decide_eq_true_eq, fit_int, fit_bl, fit_non, deq_int, deq_bl]
        refine ⟨f2, ?_⟩
        cases h2 : isNum y with
        | false =>
          rw [isFr_num (.inr h2)] at q
          try simp -implicitDefEqProofs only [wpB, wpS, wpE, wpI, wpA, wpO, wpC, wpL, q_ifD, q_ifB, q_ifL, q_ifR, q_ifIs, q_ifBs, q_asI, q_rg0, q_rgs, q_rs0, q_rss, q_add, q_adds, q_addl, q_addt, q_sub, q_mul, q_fdiv, q_mod, q_pow, q_shl, q_trub, q_trui, q_trun, q_trul, q_eq, q_ne, q_lt, q_le, q_gt, q_ge, q_in, q_nin, q_cis, q_cisnt, q_joinl, q_joint, q_split, q_catll, q_catrl, q_catrr, q_catlr, q_setl, q_strs0, q_strsc, q_ifSs, q_clear, q_reverse, q_revl, q_revt, q_revr, q_eqm, q_nem, q_tupr, q_listr, q_lenr, q_lcf, q_lct, q_abs, q_lent, q_lenl, q_lens, q_sum, q_all, q_any, q_tupl, q_tupt, q_listl, q_listt, q_listMl, q_listMt, q_inti, q_intb, q_stri, q_strs, q_strn, q_strb, q_strt, q_strl, q_max, q_min, q_selt, q_sell, q_selr, q_seIt, q_seIl, q_seIr, q_itt, q_itl, q_bn, q_bt, q_btl, q_ba0, q_bas, q_inT, q_ninT, q_frzr, q_frzl, q_slct, q_slcl, q_slcr, q_slcs, q_trut, q_isn, q_isni, q_isnn, q_isnt, q_isnl, q_isne, q_isns, startD, enD, List.map_cons, List.map_nil, List.length_cons, List.length_nil, List.replicate, List.cons_append, List.nil_append, Nat.reduceAdd, Nat.reduceSub, MT.slots, wipeD, isiD, forW, lcW, Option.toList_some, Option.toList_none, List.append_nil, List.getElem?_cons_zero, List.getElem?_cons_succ, Option.bind_some, mset_same, mset_mset, if_true, if_false, Bool.false_eq_true, reduceIte, Bool.not_true, Bool.not_false, Bool.true_eq_false, true_and, decide_eq_true_eq, fit_int, fit_bl, fit_non, deq_int, deq_bl]
          exact q
        | true =>
          obtain ⟨a, rfl⟩ := isNum_is h1
          obtain ⟨b, rfl⟩ := isNum_is h2
          try simp -implicitDefEqProofs only [wpB, wpS, wpE, wpI, wpA, wpO, wpC, wpL, q_ifD, q_ifB, q_ifL, q_ifR, q_ifIs, q_ifBs, q_asI, q_rg0, q_rgs, q_rs0, q_rss, q_add, q_adds, q_addl, q_addt, q_sub, q_mul, q_fdiv, q_mod, q_pow, q_shl, q_trub, q_trui, q_trun, q_trul, q_eq, q_ne, q_lt, q_le, q_gt, q_ge, q_in, q_nin, q_cis, q_cisnt, q_joinl, q_joint, q_split, q_catll, q_catrl, q_catrr, q_catlr, q_setl, q_strs0, q_strsc, q_ifSs, q_clear, q_reverse, q_revl, q_revt, q_revr, q_eqm, q_nem, q_tupr, q_listr, q_lenr, q_lcf, q_lct, q_abs, q_lent, q_lenl, q_lens, q_sum, q_all, q_any, q_tupl, q_tupt, q_listl, q_listt, q_listMl, q_listMt, q_inti, q_intb, q_stri, q_strs, q_strn, q_strb, q_strt, q_strl, q_max, q_min, q_selt, q_sell, q_selr, q_seIt, q_seIl, q_seIr, q_itt, q_itl, q_bn, q_bt, q_btl, q_ba0, q_bas, q_inT, q_ninT, q_frzr, q_frzl, q_slct, q_slcl, q_slcr, q_slcs, q_trut, q_isn, q_isni, q_isnn, q_isnt, q_isnl, q_isne, q_isns, startD, enD, List.map_cons, List.map_nil, List.length_cons, List.length_nil, List.replicate, List.cons_append, List.nil_append, Nat.reduceAdd, Nat.reduceSub, MT.slots, wipeD, isiD, forW, lcW, Option.toList_some, Option.toList_none, List.append_nil, List.getElem?_cons_zero, List.getElem?_cons_succ, Option.bind_some, mset_same, mset_mset, if_true, if_false, Bool.false_eq_true, reduceIte, Bool.not_true, Bool.not_false, Bool.true_eq_false, true_and, decide_eq_true_eq, fit_int, fit_bl, fit_non, deq_int, deq_bl]
          have e : isFr (.tup [.int a, .int b]) = (decide (1 ≤ b) && (Int.gcd a b == 1)) := rfl
          rw [e] at q
          by_cases hb : 1 ≤ b
          · refine ite_t (by simp [hb]) ⟨[a, b], rfl, ?_⟩
            rw [gcdL_two]
            try simp -implicitDefEqProofs only [wpB, wpS, wpE, wpI, wpA, wpO, wpC, wpL, q_ifD, q_ifB, q_ifL, q_ifR, q_ifIs, q_ifBs, q_asI, q_rg0, q_rgs, q_rs0, q_rss, q_add, q_adds, q_addl, q_addt, q_sub, q_mul, q_fdiv, q_mod, q_pow, q_shl, q_trub, q_trui, q_trun, q_trul, q_eq, q_ne, q_lt, q_le, q_gt, q_ge, q_in, q_nin, q_cis, q_cisnt, q_joinl, q_joint, q_split, q_catll, q_catrl, q_catrr, q_catlr, q_setl, q_strs0, q_strsc, q_ifSs, q_clear, q_reverse, q_revl, q_revt, q_revr, q_eqm, q_nem, q_tupr, q_listr, q_lenr, q_lcf, q_lct, q_abs, q_lent, q_lenl, q_lens, q_sum, q_all, q_any, q_tupl, q_tupt, q_listl, q_listt, q_listMl, q_listMt, q_inti, q_intb, q_stri, q_strs, q_strn, q_strb, q_strt, q_strl, q_max, q_min, q_selt, q_sell, q_selr, q_seIt, q_seIl, q_seIr, q_itt, q_itl, q_bn, q_bt, q_btl, q_ba0, q_bas, q_inT, q_ninT, q_frzr, q_frzl, q_slct, q_slcl, q_slcr, q_slcs, q_trut, q_isn, q_isni, q_isnn, q_isnt, q_isnl, q_isne, q_isns, startD, enD, List.map_cons, List.map_nil, List.length_cons, List.length_nil, List.replicate, List.cons_append, List.nil_append, Nat.reduceAdd, Nat.reduceSub, MT.slots, wipeD, isiD, forW, lcW, Option.toList_some, Option.toList_none, List.append_nil, List.getElem?_cons_zero, List.getElem?_cons_succ, Option.bind_some, mset_same, mset_mset, if_true, if_false, Bool.false_eq_true, reduceIte, Bool.not_true, Bool.not_false, Bool.true_eq_false, true_and, decide_eq_true_eq, fit_int, fit_bl, fit_non, deq_int, deq_bl]
            rw [show ((((Int.gcd a b : Nat) : Int)) == 1) = (Int.gcd a b == 1) by rw [Bool.eq_iff_iff]; simp only [beq_iff_eq]; omega]
            simpa [hb] using q
          · refine ite_f (by simp [hb]) ?_
            simpa [hb] using q
    · rw [isFr_len hl] at q
      refine ite_f (by simp; omega) (ite_t (by simp; omega) q)
  | _ =>
    simp only [m_is_fraction, wpB, wpS, wpE, wpI, wpA, wpO, wpC, wpL]
    try simp -implicitDefEqProofs only [m_is_fraction, wpB, wpS, wpE, wpI, wpA, wpO, wpC, wpL, q_ifD, q_ifB, q_ifL, q_ifR, q_ifIs, q_ifBs, q_asI, q_rg0, q_rgs, q_rs0, q_rss, q_add, q_adds, q_addl, q_addt, q_sub, q_mul, q_fdiv, q_mod, q_pow, q_shl, q_trub, q_trui, q_trun, q_trul, q_eq, q_ne, q_lt, q_le, q_gt, q_ge, q_in, q_nin, q_cis, q_cisnt, q_joinl, q_joint, q_split, q_catll, q_catrl, q_catrr, q_catlr, q_setl, q_strs0, q_strsc, q_ifSs, q_clear, q_reverse, q_revl, q_revt, q_revr, q_eqm, q_nem, q_tupr, q_listr, q_lenr, q_lcf, q_lct, q_abs, q_lent, q_lenl, q_lens, q_sum, q_all, q_any, q_tupl, q_tupt, q_listl, q_listt, q_listMl, q_listMt, q_inti, q_intb, q_stri, q_strs, q_strn, q_strb, q_strt, q_strl, q_max, q_min, q_selt, q_sell, q_selr, q_seIt, q_seIl, q_seIr, q_itt, q_itl, q_bn, q_bt, q_btl, q_ba0, q_bas, q_inT, q_ninT, q_frzr, q_frzl, q_slct, q_slcl, q_slcr, q_slcs, q_trut, q_isn, q_isni, q_isnn, q_isnt, q_isnl, q_isne, q_isns, startD, enD, List.map_cons, List.map_nil, List.length_cons, List.length_nil, List.replicate, List.cons_append, List.nil_append, Nat.reduceAdd, Nat.reduceSub, MT.slots, wipeD, isiD, forW, lcW, Option.toList_some, Option.toList_none, List.append_nil, List.getElem?_cons_zero, List.getElem?_cons_succ, Option.bind_some, mset_same, mset_mset, if_true, if_false, Bool.false_eq_true, reduceIte, Bool.not_true, Bool.not_false, Bool.true_eq_false, true_and, decide_eq_true_eq, fit_int, fit_bl, fit_non, deq_int, deq_bl]
    exact q)

/-! cubics -/
def prd (L : List (Rat × Nat)) : Rat := (L.map (·.1)).foldl (· * ·) 1
def szSum (L : List (Rat × Nat)) : Nat := (L.map (·.2)).sum + 1
def S_product_of : DSp := sp1 fun x μ Q _ => ∃ L : List (Rat × Nat), x = .lst (L.map fun p => qD p.1) ∧ (∀ p ∈ L, szQ p.2 p.1) ∧ szSum L ≤ 2000000 ∧ (szQ (szSum L) (prd L) → Q (qD (prd L)) μ)
def N_product_of : List Str := ["fractions", "found", "fraction"]
def m_product_of_2 : MB := (.cons (.ret (.var 1)) .nil)
def m_product_of_1a : MB := (.cons (.asg (.name 1) (.call "frac_times" S_frac_times (.cons (.var 1) (.cons (.var 2) .nil)))) .nil)
def m_product_of_1 : MB := (.cons (.loop (.name 2) (.seq (.var 0)) m_product_of_1a) m_product_of_2)
def m_product_of : MB := (.cons (.asg (.name 1) (.tup (.cons (.int 1) (.cons (.int 1) .nil)))) m_product_of_1)
-- slots: 0=fractions 1=found 2=fraction
theorem w_product_of : ∀ ds μ Q X, S_product_of ds μ Q X → ds.length = 1 ∧ wpB m_product_of (startD 3 ds) μ (enD Q X) := sp1_of (by
  rintro x μ Q X ⟨L, rfl, hs, hb, q⟩
  simp only [m_product_of, wpB, wpS, wpE, wpI, wpA, wpO, wpC, wpL]
  try simp -implicitDefEqProofs only [m_product_of, wpB, wpS, wpE, wpI, wpA, wpO, wpC, wpL, q_ifD, q_ifB, q_ifL, q_ifR, q_ifIs, q_ifBs, q_asI, q_rg0, q_rgs, q_rs0, q_rss, q_add, q_adds, q_addl, q_addt, q_sub, q_mul, q_fdiv, q_mod, q_pow, q_shl, q_trub, q_trui, q_trun, q_trul, q_eq, q_ne, q_lt, q_le, q_gt, q_ge, q_in, q_nin, q_cis, q_cisnt, q_joinl, q_joint, q_split, q_catll, q_catrl, q_catrr, q_catlr, q_setl, q_strs0, q_strsc, q_ifSs, q_clear, q_reverse, q_revl, q_revt, q_revr, q_eqm, q_nem, q_tupr, q_listr, q_lenr, q_lcf, q_lct, q_abs, q_lent, q_lenl, q_lens, q_sum, q_all, q_any, q_tupl, q_tupt, q_listl, q_listt, q_listMl, q_listMt, q_inti, q_intb, q_stri, q_strs, q_strn, q_strb, q_strt, q_strl, q_max, q_min, q_selt, q_sell, q_selr, q_seIt, q_seIl, q_seIr, q_itt, q_itl, q_bn, q_bt, q_btl, q_ba0, q_bas, q_inT, q_ninT, q_frzr, q_frzl, q_slct, q_slcl, q_slcr, q_slcs, q_trut, q_isn, q_isni, q_isnn, q_isnt, q_isnl, q_isne, q_isns, startD, enD, List.map_cons, List.map_nil, List.length_cons, List.length_nil, List.replicate, List.cons_append, List.nil_append, Nat.reduceAdd, Nat.reduceSub, MT.slots, wipeD, isiD, Option.toList_some, Option.toList_none, List.append_nil, List.getElem?_cons_zero, List.getElem?_cons_succ, Option.bind_some, mset_same, mset_mset, if_true, if_false, Bool.false_eq_true, reduceIte, Bool.not_true, Bool.not_false, Bool.true_eq_false, true_and, decide_eq_true_eq, fit_int, fit_bl, fit_non, deq_int, deq_bl]
  simp only [m_product_of_1, wpB, wpS, wpE, wpI, wpA, wpO, wpC, wpL]
  try simp -implicitDefEqProofs only [m_product_of_1, wpB, wpS, wpE, wpI, wpA, wpO, wpC, wpL, q_ifD, q_ifB, q_ifL, q_ifR, q_ifIs, q_ifBs, q_asI, q_rg0, q_rgs, q_rs0, q_rss, q_add, q_adds, q_addl, q_addt, q_sub, q_mul, q_fdiv, q_mod, q_pow, q_shl, q_trub, q_trui, q_trun, q_trul, q_eq, q_ne, q_lt, q_le, q_gt, q_ge, q_in, q_nin, q_cis, q_cisnt, q_joinl, q_joint, q_split, q_catll, q_catrl, q_catrr, q_catlr, q_setl, q_strs0, q_strsc, q_ifSs, q_clear, q_reverse, q_revl, q_revt, q_revr, q_eqm, q_nem, q_tupr, q_listr, q_lenr, q_lcf, q_lct, q_abs, q_lent, q_lenl, q_lens, q_sum, q_all, q_any, q_tupl, q_tupt, q_listl, q_listt, q_listMl, q_listMt, q_inti, q_intb, q_stri, q_strs, q_strn, q_strb, q_strt, q_strl, q_max, q_min, q_selt, q_sell, q_selr, q_seIt, q_seIl, q_seIr, q_itt, q_itl, q_bn, q_bt, q_btl, q_ba0, q_bas, q_inT, q_ninT, q_frzr, q_frzl, q_slct, q_slcl, q_slcr, q_slcs, q_trut, q_isn, q_isni, q_isnn, q_isnt, q_isnl, q_isne, q_isns, startD, enD, List.map_cons, List.map_nil, List.length_cons, List.length_nil, List.replicate, List.cons_append, List.nil_append, Nat.reduceAdd, Nat.reduceSub, MT.slots, wipeD, isiD, Option.toList_some, Option.toList_none, List.append_nil, List.getElem?_cons_zero, List.getElem?_cons_succ, Option.bind_some, mset_same, mset_mset, if_true, if_false, Bool.false_eq_true, reduceIte, Bool.not_true, Bool.not_false, Bool.true_eq_false, true_and, decide_eq_true_eq, fit_int, fit_bl, fit_non, deq_int, deq_bl]
  refine forW_by (fun ds ρ μ' => ∃ (M N : List (Rat × Nat)) (y : Option D), L = M ++ N ∧ ds = N.map (fun p => qD p.1) ∧ μ' = μ ∧ ρ = [some (.lst (L.map fun p => qD p.1)), some (qD (prd M)), y] ∧ szQ (szSum M) (prd M)) ?_ ?_ _ _ _ ⟨[], L, _, rfl, rfl, rfl, rfl, by decide +kernel, by decide +kernel⟩
  · rintro d ds ρ μ' k ⟨M, N, y, e, e2, rfl, rfl, h⟩ hk
    cases N with
    | nil => simp at e2
    | cons p N =>
      simp only [List.map_cons, List.cons.injEq] at e2
      obtain ⟨rfl, rfl⟩ := e2
      have hp := hs p (by rw [e]; simp)
      have hl : szSum M + p.2 ≤ 2000000 := by
        unfold szSum at hb ⊢
        rw [e] at hb
        simp only [List.map_append, List.sum_append, List.map_cons, List.sum_cons] at hb
        omega
      have e3 : prd (M ++ [p]) = prd M * p.1 := by simp [prd]
      have e4 : szSum (M ++ [p]) = szSum M + p.2 := by simp [szSum]; omega
      simp only [m_product_of_1a, wpB, wpS, wpE, wpI, wpA, wpO, wpC, wpL]
      try simp -implicitDefEqProofs only [m_product_of_1a, wpB, wpS, wpE, wpI, wpA, wpO, wpC, wpL, q_ifD, q_ifB, q_ifL, q_ifR, q_ifIs, q_ifBs, q_asI, q_rg0, q_rgs, q_rs0, q_rss, q_add, q_adds, q_addl, q_addt, q_sub, q_mul, q_fdiv, q_mod, q_pow, q_shl, q_trub, q_trui, q_trun, q_trul, q_eq, q_ne, q_lt, q_le, q_gt, q_ge, q_in, q_nin, q_cis, q_cisnt, q_joinl, q_joint, q_split, q_catll, q_catrl, q_catrr, q_catlr, q_setl, q_strs0, q_strsc, q_ifSs, q_clear, q_reverse, q_revl, q_revt, q_revr, q_eqm, q_nem, q_tupr, q_listr, q_lenr, q_lcf, q_lct, q_abs, q_lent, q_lenl, q_lens, q_sum, q_all, q_any, q_tupl, q_tupt, q_listl, q_listt, q_listMl, q_listMt, q_inti, q_intb, q_stri, q_strs, q_strn, q_strb, q_strt, q_strl, q_max, q_min, q_selt, q_sell, q_selr, q_seIt, q_seIl, q_seIr, q_itt, q_itl, q_bn, q_bt, q_btl, q_ba0, q_bas, q_inT, q_ninT, q_frzr, q_frzl, q_slct, q_slcl, q_slcr, q_slcs, q_trut, q_isn, q_isni, q_isnn, q_isnt, q_isnl, q_isne, q_isns, startD, enD, List.map_cons, List.map_nil, List.length_cons, List.length_nil, List.replicate, List.cons_append, List.nil_append, Nat.reduceAdd, Nat.reduceSub, MT.slots, wipeD, isiD, Option.toList_some, Option.toList_none, List.append_nil, List.getElem?_cons_zero, List.getElem?_cons_succ, Option.bind_some, mset_same, mset_mset, if_true, if_false, Bool.false_eq_true, reduceIte, Bool.not_true, Bool.not_false, Bool.true_eq_false, true_and, decide_eq_true_eq, fit_int, fit_bl, fit_non, deq_int, deq_bl]
      refine times_q h hp (by omega) (by omega) fun h2 => ?_
      rw [← e3] at h2 ⊢
      rw [← e4] at h2
      exact hk _ _ ⟨M ++ [p], N, some (qD p.1), by rw [e]; simp, rfl, rfl, rfl, h2⟩
  · rintro ρ μ' ⟨M, N, y, e, e2, rfl, rfl, h⟩
    cases N with
    | cons => simp at e2
    | nil =>
      rw [List.append_nil] at e
      subst e
      simp only [m_product_of_2, wpB, wpS, wpE, wpI, wpA, wpO, wpC, wpL]
      try simp -implicitDefEqProofs only [m_product_of_2, wpB, wpS, wpE, wpI, wpA, wpO, wpC, wpL, q_ifD, q_ifB, q_ifL, q_ifR, q_ifIs, q_ifBs, q_asI, q_rg0, q_rgs, q_rs0, q_rss, q_add, q_adds, q_addl, q_addt, q_sub, q_mul, q_fdiv, q_mod, q_pow, q_shl, q_trub, q_trui, q_trun, q_trul, q_eq, q_ne, q_lt, q_le, q_gt, q_ge, q_in, q_nin, q_cis, q_cisnt, q_joinl, q_joint, q_split, q_catll, q_catrl, q_catrr, q_catlr, q_setl, q_strs0, q_strsc, q_ifSs, q_clear, q_reverse, q_revl, q_revt, q_revr, q_eqm, q_nem, q_tupr, q_listr, q_lenr, q_lcf, q_lct, q_abs, q_lent, q_lenl, q_lens, q_sum, q_all, q_any, q_tupl, q_tupt, q_listl, q_listt, q_listMl, q_listMt, q_inti, q_intb, q_stri, q_strs, q_strn, q_strb, q_strt, q_strl, q_max, q_min, q_selt, q_sell, q_selr, q_seIt, q_seIl, q_seIr, q_itt, q_itl, q_bn, q_bt, q_btl, q_ba0, q_bas, q_inT, q_ninT, q_frzr, q_frzl, q_slct, q_slcl, q_slcr, q_slcs, q_trut, q_isn, q_isni, q_isnn, q_isnt, q_isnl, q_isne, q_isns, startD, enD, List.map_cons, List.map_nil, List.length_cons, List.length_nil, List.replicate, List.cons_append, List.nil_append, Nat.reduceAdd, Nat.reduceSub, MT.slots, wipeD, isiD, Option.toList_some, Option.toList_none, List.append_nil, List.getElem?_cons_zero, List.getElem?_cons_succ, Option.bind_some, mset_same, mset_mset, if_true, if_false, Bool.false_eq_true, reduceIte, Bool.not_true, Bool.not_false, Bool.true_eq_false, true_and, decide_eq_true_eq, fit_int, fit_bl, fit_non, deq_int, deq_bl]
      exact q h)
theorem prod_q {L : List (Rat × Nat)} {ds : List D} {μ : Mu} {Q : Pst} {X : Xst} (e : ds = L.map fun p => qD p.1) (h : ∀ p ∈ L, szQ p.2 p.1) (hb : szSum L ≤ 2000000) (q : szQ (szSum L) (prd L) → Q (qD (prd L)) μ) : S_product_of [.lst ds] μ Q X := ⟨L, by rw [e], h, hb, q⟩
def dsc (g h k : Rat) : Rat := g * h * g * h - 4 * h * h * h - 4 * k * g * g * g - 27 * k * k + 18 * g * h * k
def S_discriminant_of : DSp := sp1 fun x μ Q _ => ∃ (g h k : Rat) (a b c : Nat), x = .tup [qD g, qD h, qD k] ∧ szQ a g ∧ szQ b h ∧ szQ c k ∧ 5 * a + 5 * b + 3 * c + 30 ≤ 2000000 ∧ Q (qD (dsc g h k)) μ
def N_discriminant_of : List Str := ["cubic", "found", "g", "h", "k"]
def m_discriminant_of_4 : MB := (.cons (.ret (.call "frac_sum" S_frac_sum (.cons (.var 1) (.cons (.call "product_of" S_product_of (.cons (.lst (.cons (.tup (.cons (.int 18) (.cons (.int 1) .nil))) (.cons (.var 2) (.cons (.var 3) (.cons (.var 4) .nil))))) .nil)) .nil)))) .nil)
def m_discriminant_of_3 : MB := (.cons (.asg (.name 1) (.call "frac_less" S_frac_less (.cons (.var 1) (.cons (.call "product_of" S_product_of (.cons (.lst (.cons (.tup (.cons (.int 27) (.cons (.int 1) .nil))) (.cons (.var 4) (.cons (.var 4) .nil)))) .nil)) .nil)))) m_discriminant_of_4)
def m_discriminant_of_2 : MB := (.cons (.asg (.name 1) (.call "frac_less" S_frac_less (.cons (.var 1) (.cons (.call "product_of" S_product_of (.cons (.lst (.cons (.tup (.cons (.int 4) (.cons (.int 1) .nil))) (.cons (.var 4) (.cons (.var 2) (.cons (.var 2) (.cons (.var 2) .nil)))))) .nil)) .nil)))) m_discriminant_of_3)
def m_discriminant_of_1 : MB := (.cons (.asg (.name 1) (.call "frac_less" S_frac_less (.cons (.call "product_of" S_product_of (.cons (.lst (.cons (.var 2) (.cons (.var 3) (.cons (.var 2) (.cons (.var 3) .nil))))) .nil)) (.cons (.call "product_of" S_product_of (.cons (.lst (.cons (.tup (.cons (.int 4) (.cons (.int 1) .nil))) (.cons (.var 3) (.cons (.var 3) (.cons (.var 3) .nil))))) .nil)) .nil)))) m_discriminant_of_2)
def m_discriminant_of : MB := (.cons (.asg (.tup [2, 3, 4]) (.var 0)) m_discriminant_of_1)
-- slots: 0=cubic 1=found 2=g 3=h 4=k
theorem w_discriminant_of : ∀ ds μ Q X, S_discriminant_of ds μ Q X → ds.length = 1 ∧ wpB m_discriminant_of (startD 5 ds) μ (enD Q X) := sp1_of (by
  rintro x μ Q X ⟨g, h, k, a, b, c, rfl, sg, sh, sk, hb, q⟩
  have s4 : szQ 3 (4 : Rat) := ⟨by decide +kernel, by decide +kernel⟩
  have s27 : szQ 5 (27 : Rat) := ⟨by decide +kernel, by decide +kernel⟩
  have s18 : szQ 5 (18 : Rat) := ⟨by decide +kernel, by decide +kernel⟩
  simp only [m_discriminant_of, wpB, wpS, wpE, wpI, wpA, wpO, wpC, wpL]
  try simp -implicitDefEqProofs only [m_discriminant_of, wpB, wpS, wpE, wpI, wpA, wpO, wpC, wpL, q_ifD, q_ifB, q_ifL, q_ifR, q_ifIs, q_ifBs, q_asI, q_rg0, q_rgs, q_rs0, q_rss, q_add, q_adds, q_addl, q_addt, q_sub, q_mul, q_fdiv, q_mod, q_pow, q_shl, q_trub, q_trui, q_trun, q_trul, q_eq, q_ne, q_lt, q_le, q_gt, q_ge, q_in, q_nin, q_cis, q_cisnt, q_joinl, q_joint, q_split, q_catll, q_catrl, q_catrr, q_catlr, q_setl, q_strs0, q_strsc, q_ifSs, q_clear, q_reverse, q_revl, q_revt, q_revr, q_eqm, q_nem, q_tupr, q_listr, q_lenr, q_lcf, q_lct, q_abs, q_lent, q_lenl, q_lens, q_sum, q_all, q_any, q_tupl, q_tupt, q_listl, q_listt, q_listMl, q_listMt, q_inti, q_intb, q_stri, q_strs, q_strn, q_strb, q_strt, q_strl, q_max, q_min, q_selt, q_sell, q_selr, q_seIt, q_seIl, q_seIr, q_itt, q_itl, q_bn, q_bt, q_btl, q_ba0, q_bas, q_inT, q_ninT, q_frzr, q_frzl, q_slct, q_slcl, q_slcr, q_slcs, q_trut, q_isn, q_isni, q_isnn, q_isnt, q_isnl, q_isne, q_isns, startD, enD, List.map_cons, List.map_nil, List.length_cons, List.length_nil, List.replicate, List.cons_append, List.nil_append, Nat.reduceAdd, Nat.reduceSub, MT.slots, wipeD, isiD, Option.toList_some, Option.toList_none, List.append_nil, List.getElem?_cons_zero, List.getElem?_cons_succ, Option.bind_some, mset_same, mset_mset, if_true, if_false, Bool.false_eq_true, reduceIte, Bool.not_true, Bool.not_false, Bool.true_eq_false, true_and, decide_eq_true_eq, fit_int, fit_bl, fit_non, deq_int, deq_bl]
  simp only [m_discriminant_of_1, wpB, wpS, wpE, wpI, wpA, wpO, wpC, wpL]
  try simp -implicitDefEqProofs only [m_discriminant_of_1, wpB, wpS, wpE, wpI, wpA, wpO, wpC, wpL, q_ifD, q_ifB, q_ifL, q_ifR, q_ifIs, q_ifBs, q_asI, q_rg0, q_rgs, q_rs0, q_rss, q_add, q_adds, q_addl, q_addt, q_sub, q_mul, q_fdiv, q_mod, q_pow, q_shl, q_trub, q_trui, q_trun, q_trul, q_eq, q_ne, q_lt, q_le, q_gt, q_ge, q_in, q_nin, q_cis, q_cisnt, q_joinl, q_joint, q_split, q_catll, q_catrl, q_catrr, q_catlr, q_setl, q_strs0, q_strsc, q_ifSs, q_clear, q_reverse, q_revl, q_revt, q_revr, q_eqm, q_nem, q_tupr, q_listr, q_lenr, q_lcf, q_lct, q_abs, q_lent, q_lenl, q_lens, q_sum, q_all, q_any, q_tupl, q_tupt, q_listl, q_listt, q_listMl, q_listMt, q_inti, q_intb, q_stri, q_strs, q_strn, q_strb, q_strt, q_strl, q_max, q_min, q_selt, q_sell, q_selr, q_seIt, q_seIl, q_seIr, q_itt, q_itl, q_bn, q_bt, q_btl, q_ba0, q_bas, q_inT, q_ninT, q_frzr, q_frzl, q_slct, q_slcl, q_slcr, q_slcs, q_trut, q_isn, q_isni, q_isnn, q_isnt, q_isnl, q_isne, q_isns, startD, enD, List.map_cons, List.map_nil, List.length_cons, List.length_nil, List.replicate, List.cons_append, List.nil_append, Nat.reduceAdd, Nat.reduceSub, MT.slots, wipeD, isiD, Option.toList_some, Option.toList_none, List.append_nil, List.getElem?_cons_zero, List.getElem?_cons_succ, Option.bind_some, mset_same, mset_mset, if_true, if_false, Bool.false_eq_true, reduceIte, Bool.not_true, Bool.not_false, Bool.true_eq_false, true_and, decide_eq_true_eq, fit_int, fit_bl, fit_non, deq_int, deq_bl]
  refine prod_q (L := [(g, a), (h, b), (g, a), (h, b)]) rfl (by simp only [List.mem_cons, List.not_mem_nil, or_false]; rintro p (rfl | rfl | rfl | rfl) <;> assumption) (by simp [szSum]; omega) fun h1 => ?_
  refine prod_q (L := [(4, 3), (h, b), (h, b), (h, b)]) rfl (by simp only [List.mem_cons, List.not_mem_nil, or_false]; rintro p (rfl | rfl | rfl | rfl) <;> assumption) (by simp [szSum]; omega) fun h2 => ?_
  refine less_q h1 h2 (by simp [szSum]; omega) (by simp [szSum]; omega) fun h3 => ?_
  simp only [m_discriminant_of_2, wpB, wpS, wpE, wpI, wpA, wpO, wpC, wpL]
  try simp -implicitDefEqProofs only [m_discriminant_of_2, wpB, wpS, wpE, wpI, wpA, wpO, wpC, wpL, q_ifD, q_ifB, q_ifL, q_ifR, q_ifIs, q_ifBs, q_asI, q_rg0, q_rgs, q_rs0, q_rss, q_add, q_adds, q_addl, q_addt, q_sub, q_mul, q_fdiv, q_mod, q_pow, q_shl, q_trub, q_trui, q_trun, q_trul, q_eq, q_ne, q_lt, q_le, q_gt, q_ge, q_in, q_nin, q_cis, q_cisnt, q_joinl, q_joint, q_split, q_catll, q_catrl, q_catrr, q_catlr, q_setl, q_strs0, q_strsc, q_ifSs, q_clear, q_reverse, q_revl, q_revt, q_revr, q_eqm, q_nem, q_tupr, q_listr, q_lenr, q_lcf, q_lct, q_abs, q_lent, q_lenl, q_lens, q_sum, q_all, q_any, q_tupl, q_tupt, q_listl, q_listt, q_listMl, q_listMt, q_inti, q_intb, q_stri, q_strs, q_strn, q_strb, q_strt, q_strl, q_max, q_min, q_selt, q_sell, q_selr, q_seIt, q_seIl, q_seIr, q_itt, q_itl, q_bn, q_bt, q_btl, q_ba0, q_bas, q_inT, q_ninT, q_frzr, q_frzl, q_slct, q_slcl, q_slcr, q_slcs, q_trut, q_isn, q_isni, q_isnn, q_isnt, q_isnl, q_isne, q_isns, startD, enD, List.map_cons, List.map_nil, List.length_cons, List.length_nil, List.replicate, List.cons_append, List.nil_append, Nat.reduceAdd, Nat.reduceSub, MT.slots, wipeD, isiD, Option.toList_some, Option.toList_none, List.append_nil, List.getElem?_cons_zero, List.getElem?_cons_succ, Option.bind_some, mset_same, mset_mset, if_true, if_false, Bool.false_eq_true, reduceIte, Bool.not_true, Bool.not_false, Bool.true_eq_false, true_and, decide_eq_true_eq, fit_int, fit_bl, fit_non, deq_int, deq_bl]
  refine prod_q (L := [(4, 3), (k, c), (g, a), (g, a), (g, a)]) rfl (by simp only [List.mem_cons, List.not_mem_nil, or_false]; rintro p (rfl | rfl | rfl | rfl | rfl) <;> assumption) (by simp [szSum]; omega) fun h4 => ?_
  refine less_q h3 h4 (by simp [szSum]; omega) (by simp [szSum]; omega) fun h5 => ?_
  simp only [m_discriminant_of_3, wpB, wpS, wpE, wpI, wpA, wpO, wpC, wpL]
  try simp -implicitDefEqProofs only [m_discriminant_of_3, wpB, wpS, wpE, wpI, wpA, wpO, wpC, wpL, q_ifD, q_ifB, q_ifL, q_ifR, q_ifIs, q_ifBs, q_asI, q_rg0, q_rgs, q_rs0, q_rss, q_add, q_adds, q_addl, q_addt, q_sub, q_mul, q_fdiv, q_mod, q_pow, q_shl, q_trub, q_trui, q_trun, q_trul, q_eq, q_ne, q_lt, q_le, q_gt, q_ge, q_in, q_nin, q_cis, q_cisnt, q_joinl, q_joint, q_split, q_catll, q_catrl, q_catrr, q_catlr, q_setl, q_strs0, q_strsc, q_ifSs, q_clear, q_reverse, q_revl, q_revt, q_revr, q_eqm, q_nem, q_tupr, q_listr, q_lenr, q_lcf, q_lct, q_abs, q_lent, q_lenl, q_lens, q_sum, q_all, q_any, q_tupl, q_tupt, q_listl, q_listt, q_listMl, q_listMt, q_inti, q_intb, q_stri, q_strs, q_strn, q_strb, q_strt, q_strl, q_max, q_min, q_selt, q_sell, q_selr, q_seIt, q_seIl, q_seIr, q_itt, q_itl, q_bn, q_bt, q_btl, q_ba0, q_bas, q_inT, q_ninT, q_frzr, q_frzl, q_slct, q_slcl, q_slcr, q_slcs, q_trut, q_isn, q_isni, q_isnn, q_isnt, q_isnl, q_isne, q_isns, startD, enD, List.map_cons, List.map_nil, List.length_cons, List.length_nil, List.replicate, List.cons_append, List.nil_append, Nat.reduceAdd, Nat.reduceSub, MT.slots, wipeD, isiD, Option.toList_some, Option.toList_none, List.append_nil, List.getElem?_cons_zero, List.getElem?_cons_succ, Option.bind_some, mset_same, mset_mset, if_true, if_false, Bool.false_eq_true, reduceIte, Bool.not_true, Bool.not_false, Bool.true_eq_false, true_and, decide_eq_true_eq, fit_int, fit_bl, fit_non, deq_int, deq_bl]
  refine prod_q (L := [(27, 5), (k, c), (k, c)]) rfl (by simp only [List.mem_cons, List.not_mem_nil, or_false]; rintro p (rfl | rfl | rfl) <;> assumption) (by simp [szSum]; omega) fun h6 => ?_
  refine less_q h5 h6 (by simp [szSum]; omega) (by simp [szSum]; omega) fun h7 => ?_
  simp only [m_discriminant_of_4, wpB, wpS, wpE, wpI, wpA, wpO, wpC, wpL]
  try simp -implicitDefEqProofs only [m_discriminant_of_4, wpB, wpS, wpE, wpI, wpA, wpO, wpC, wpL, q_ifD, q_ifB, q_ifL, q_ifR, q_ifIs, q_ifBs, q_asI, q_rg0, q_rgs, q_rs0, q_rss, q_add, q_adds, q_addl, q_addt, q_sub, q_mul, q_fdiv, q_mod, q_pow, q_shl, q_trub, q_trui, q_trun, q_trul, q_eq, q_ne, q_lt, q_le, q_gt, q_ge, q_in, q_nin, q_cis, q_cisnt, q_joinl, q_joint, q_split, q_catll, q_catrl, q_catrr, q_catlr, q_setl, q_strs0, q_strsc, q_ifSs, q_clear, q_reverse, q_revl, q_revt, q_revr, q_eqm, q_nem, q_tupr, q_listr, q_lenr, q_lcf, q_lct, q_abs, q_lent, q_lenl, q_lens, q_sum, q_all, q_any, q_tupl, q_tupt, q_listl, q_listt, q_listMl, q_listMt, q_inti, q_intb, q_stri, q_strs, q_strn, q_strb, q_strt, q_strl, q_max, q_min, q_selt, q_sell, q_selr, q_seIt, q_seIl, q_seIr, q_itt, q_itl, q_bn, q_bt, q_btl, q_ba0, q_bas, q_inT, q_ninT, q_frzr, q_frzl, q_slct, q_slcl, q_slcr, q_slcs, q_trut, q_isn, q_isni, q_isnn, q_isnt, q_isnl, q_isne, q_isns, startD, enD, List.map_cons, List.map_nil, List.length_cons, List.length_nil, List.replicate, List.cons_append, List.nil_append, Nat.reduceAdd, Nat.reduceSub, MT.slots, wipeD, isiD, Option.toList_some, Option.toList_none, List.append_nil, List.getElem?_cons_zero, List.getElem?_cons_succ, Option.bind_some, mset_same, mset_mset, if_true, if_false, Bool.false_eq_true, reduceIte, Bool.not_true, Bool.not_false, Bool.true_eq_false, true_and, decide_eq_true_eq, fit_int, fit_bl, fit_non, deq_int, deq_bl]
  refine prod_q (L := [(18, 5), (g, a), (h, b), (k, c)]) rfl (by simp only [List.mem_cons, List.not_mem_nil, or_false]; rintro p (rfl | rfl | rfl | rfl) <;> assumption) (by simp [szSum]; omega) fun h8 => ?_
  refine sum_q h7 h8 (by simp [szSum]; omega) (by simp [szSum]; omega) fun _ => ?_
  have e : prd [(g, a), (h, b), (g, a), (h, b)] - prd [(4, 3), (h, b), (h, b), (h, b)] - prd [(4, 3), (k, c), (g, a), (g, a), (g, a)] - prd [(27, 5), (k, c), (k, c)] + prd [(18, 5), (g, a), (h, b), (k, c)] = dsc g h k := by
    simp only [prd, dsc, List.map_cons, List.map_nil, List.foldl_cons, List.foldl_nil]
    grind
  rw [e]
  exact q)
def cD (g h k : Rat) : D := .tup [qD g, qD h, qD k]
def S_look_at_cubic : DSp := sp1 fun x μ Q X => fit 59 x = true ∧ (∀ g h k, x = cD g h k → ∃ a b c, szQ a g ∧ szQ b h ∧ szQ c k ∧ 5 * a + 5 * b + 3 * c + 30 ≤ 2000000 ∧ ((k = 0 ∨ dsc g h k = 0) → X c_NoCubic μ) ∧ (k ≠ 0 → dsc g h k ≠ 0 → Q .non μ)) ∧ ((∀ g h k, x ≠ cD g h k) → X c_NoCubic μ)
def N_look_at_cubic : List Str := ["cubic", "part"]
def m_look_at_cubic_2a : MB := (.cons (.rais 2) .nil)
def m_look_at_cubic_2 : MB := (.cons (.ite (.bop false (.cons (.cmp .eq (.ixc (.ixc (.var 0) 2) 0) (.int 0)) (.cons (.cmp .eq (.ixc (.call "discriminant_of" S_discriminant_of (.cons (.var 0) .nil)) 0) (.int 0)) .nil))) m_look_at_cubic_2a .nil) .nil)
def m_look_at_cubic_1a_0a : MB := (.cons (.rais 2) .nil)
def m_look_at_cubic_1a : MB := (.cons (.ite (.nt (.call "is_fraction" S_is_fraction (.cons (.var 1) .nil))) m_look_at_cubic_1a_0a .nil) .nil)
def m_look_at_cubic_1 : MB := (.cons (.loop (.name 1) (.seq (.var 0)) m_look_at_cubic_1a) m_look_at_cubic_2)
def m_look_at_cubic_0a : MB := (.cons (.rais 2) .nil)
def m_look_at_cubic : MB := (.cons (.ite (.bop false (.cons (.nt (.isi (.var 0) .tuple)) (.cons (.cmp .ne (.bl1 .len (.var 0)) (.int 3)) .nil))) m_look_at_cubic_0a .nil) m_look_at_cubic_1)
-- slots: 0=cubic 1=part
theorem w_look_at_cubic : ∀ ds μ Q X, S_look_at_cubic ds μ Q X → ds.length = 1 ∧ wpB m_look_at_cubic (startD 2 ds) μ (enD Q X) := sp1_of (by
  rintro x μ Q X ⟨f, q1, q0⟩
  cases x with
  | exc c => simp [fit] at f
  | ref c => simp [fit] at f
  | tup ds =>
    simp only [m_look_at_cubic, wpB, wpS, wpE, wpI, wpA, wpO, wpC, wpL]
    try simp -implicitDefEqProofs only [m_look_at_cubic, wpB, wpS, wpE, wpI, wpA, wpO, wpC, wpL, q_ifD, q_ifB, q_ifL, q_ifR, q_ifIs, q_ifBs, q_asI, q_rg0, q_rgs, q_rs0, q_rss, q_add, q_adds, q_addl, q_addt, q_sub, q_mul, q_fdiv, q_mod, q_pow, q_shl, q_trub, q_trui, q_trun, q_trul, q_eq, q_ne, q_lt, q_le, q_gt, q_ge, q_in, q_nin, q_cis, q_cisnt, q_joinl, q_joint, q_split, q_catll, q_catrl, q_catrr, q_catlr, q_setl, q_strs0, q_strsc, q_ifSs, q_clear, q_reverse, q_revl, q_revt, q_revr, q_eqm, q_nem, q_tupr, q_listr, q_lenr, q_lcf, q_lct, q_abs, q_lent, q_lenl, q_lens, q_sum, q_all, q_any, q_tupl, q_tupt, q_listl, q_listt, q_listMl, q_listMt, q_inti, q_intb, q_stri, q_strs, q_strn, q_strb, q_strt, q_strl, q_max, q_min, q_selt, q_sell, q_selr, q_seIt, q_seIl, q_seIr, q_itt, q_itl, q_bn, q_bt, q_btl, q_ba0, q_bas, q_inT, q_ninT, q_frzr, q_frzl, q_slct, q_slcl, q_slcr, q_slcs, q_trut, q_isn, q_isni, q_isnn, q_isnt, q_isnl, q_isne, q_isns, startD, enD, List.map_cons, List.map_nil, List.length_cons, List.length_nil, List.replicate, List.cons_append, List.nil_append, Nat.reduceAdd, Nat.reduceSub, MT.slots, wipeD, isiD, Option.toList_some, Option.toList_none, List.append_nil, List.getElem?_cons_zero, List.getElem?_cons_succ, Option.bind_some, mset_same, mset_mset, if_true, if_false, Bool.false_eq_true, reduceIte, Bool.not_true, Bool.not_false, Bool.true_eq_false, true_and, decide_eq_true_eq, fit_int, fit_bl, fit_non, deq_int, deq_bl]
    by_cases hl : ds.length = 3
    · obtain ⟨x, y, z, rfl⟩ : ∃ x y z, ds = [x, y, z] := by
        match ds, hl with
        | [x, y, z], _ => exact ⟨x, y, z, rfl⟩
      have f1 : fit 59 x = true := fit_up 58 59 x (by decide) (List.all_eq_true.mp f x (by simp))
      have f2 : fit 59 y = true := fit_up 58 59 y (by decide) (List.all_eq_true.mp f y (by simp))
      have f3 : fit 59 z = true := fit_up 58 59 z (by decide) (List.all_eq_true.mp f z (by simp))
      refine ite_f (by simp) ?_
      have bad : ∀ a, (isFr x = false ∨ isFr y = false ∨ isFr z = false) → ∀ E, E.xx = (fun c _ μ => X c μ) → wpB m_look_at_cubic_1a_0a [some (.tup [x, y, z]), a] μ E := by
        intro a h E hE
        simp only [m_look_at_cubic_1a_0a, wpB, wpS, wpE, wpI, wpA, wpO, wpC, wpL]
        try simp -implicitDefEqProofs only [m_look_at_cubic_1a_0a, hE, wpB, wpS, wpE, wpI, wpA, wpO, wpC, wpL, q_ifD, q_ifB, q_ifL, q_ifR, q_ifIs, q_ifBs, q_asI, q_rg0, q_rgs, q_rs0, q_rss, q_add, q_adds, q_addl, q_addt, q_sub, q_mul, q_fdiv, q_mod, q_pow, q_shl, q_trub, q_trui, q_trun, q_trul, q_eq, q_ne, q_lt, q_le, q_gt, q_ge, q_in, q_nin, q_cis, q_cisnt, q_joinl, q_joint, q_split, q_catll, q_catrl, q_catrr, q_catlr, q_setl, q_strs0, q_strsc, q_ifSs, q_clear, q_reverse, q_revl, q_revt, q_revr, q_eqm, q_nem, q_tupr, q_listr, q_lenr, q_lcf, q_lct, q_abs, q_lent, q_lenl, q_lens, q_sum, q_all, q_any, q_tupl, q_tupt, q_listl, q_listt, q_listMl, q_listMt, q_inti, q_intb, q_stri, q_strs, q_strn, q_strb, q_strt, q_strl, q_max, q_min, q_selt, q_sell, q_selr, q_seIt, q_seIl, q_seIr, q_itt, q_itl, q_bn, q_bt, q_btl, q_ba0, q_bas, q_inT, q_ninT, q_frzr, q_frzl, q_slct, q_slcl, q_slcr, q_slcs, q_trut, q_isn, q_isni, q_isnn, q_isnt, q_isnl, q_isne, q_isns, startD, enD, List.map_cons, List.map_nil, List.length_cons, List.length_nil, List.replicate, List.cons_append, List.nil_append, Nat.reduceAdd, Nat.reduceSub, MT.slots, wipeD, isiD, Option.toList_some, Option.toList_none, List.append_nil, List.getElem?_cons_zero, List.getElem?_cons_succ, Option.bind_some, mset_same, mset_mset, if_true, if_false, Bool.false_eq_true, reduceIte, Bool.not_true, Bool.not_false, Bool.true_eq_false, true_and, decide_eq_true_eq, fit_int, fit_bl, fit_non, deq_int, deq_bl]
        refine q0 fun g h' k e => ?_
        cases e
        rcases h with h | h | h <;> (rw [isFr_q] at h; cases h)
      simp only [m_look_at_cubic_1, wpB, wpS, wpE, wpI, wpA, wpO, wpC, wpL]
      try simp -implicitDefEqProofs only [m_look_at_cubic_1, forW, wpB, wpS, wpE, wpI, wpA, wpO, wpC, wpL, q_ifD, q_ifB, q_ifL, q_ifR, q_ifIs, q_ifBs, q_asI, q_rg0, q_rgs, q_rs0, q_rss, q_add, q_adds, q_addl, q_addt, q_sub, q_mul, q_fdiv, q_mod, q_pow, q_shl, q_trub, q_trui, q_trun, q_trul, q_eq, q_ne, q_lt, q_le, q_gt, q_ge, q_in, q_nin, q_cis, q_cisnt, q_joinl, q_joint, q_split, q_catll, q_catrl, q_catrr, q_catlr, q_setl, q_strs0, q_strsc, q_ifSs, q_clear, q_reverse, q_revl, q_revt, q_revr, q_eqm, q_nem, q_tupr, q_listr, q_lenr, q_lcf, q_lct, q_abs, q_lent, q_lenl, q_lens, q_sum, q_all, q_any, q_tupl, q_tupt, q_listl, q_listt, q_listMl, q_listMt, q_inti, q_intb, q_stri, q_strs, q_strn, q_strb, q_strt, q_strl, q_max, q_min, q_selt, q_sell, q_selr, q_seIt, q_seIl, q_seIr, q_itt, q_itl, q_bn, q_bt, q_btl, q_ba0, q_bas, q_inT, q_ninT, q_frzr, q_frzl, q_slct, q_slcl, q_slcr, q_slcs, q_trut, q_isn, q_isni, q_isnn, q_isnt, q_isnl, q_isne, q_isns, startD, enD, List.map_cons, List.map_nil, List.length_cons, List.length_nil, List.replicate, List.cons_append, List.nil_append, Nat.reduceAdd, Nat.reduceSub, MT.slots, wipeD, isiD, Option.toList_some, Option.toList_none, List.append_nil, List.getElem?_cons_zero, List.getElem?_cons_succ, Option.bind_some, mset_same, mset_mset, if_true, if_false, Bool.false_eq_true, reduceIte, Bool.not_true, Bool.not_false, Bool.true_eq_false, true_and, decide_eq_true_eq, fit_int, fit_bl, fit_non, deq_int, deq_bl]
      simp only [m_look_at_cubic_1a, wpB, wpS, wpE, wpI, wpA, wpO, wpC, wpL]
      try simp -implicitDefEqProofs only [m_look_at_cubic_1a, wpB, wpS, wpE, wpI, wpA, wpO, wpC, wpL, q_ifD, q_ifB, q_ifL, q_ifR, q_ifIs, q_ifBs, q_asI, q_rg0, q_rgs, q_rs0, q_rss, q_add, q_adds, q_addl, q_addt, q_sub, q_mul, q_fdiv, q_mod, q_pow, q_shl, q_trub, q_trui, q_trun, q_trul, q_eq, q_ne, q_lt, q_le, q_gt, q_ge, q_in, q_nin, q_cis, q_cisnt, q_joinl, q_joint, q_split, q_catll, q_catrl, q_catrr, q_catlr, q_setl, q_strs0, q_strsc, q_ifSs, q_clear, q_reverse, q_revl, q_revt, q_revr, q_eqm, q_nem, q_tupr, q_listr, q_lenr, q_lcf, q_lct, q_abs, q_lent, q_lenl, q_lens, q_sum, q_all, q_any, q_tupl, q_tupt, q_listl, q_listt, q_listMl, q_listMt, q_inti, q_intb, q_stri, q_strs, q_strn, q_strb, q_strt, q_strl, q_max, q_min, q_selt, q_sell, q_selr, q_seIt, q_seIl, q_seIr, q_itt, q_itl, q_bn, q_bt, q_btl, q_ba0, q_bas, q_inT, q_ninT, q_frzr, q_frzl, q_slct, q_slcl, q_slcr, q_slcs, q_trut, q_isn, q_isni, q_isnn, q_isnt, q_isnl, q_isne, q_isns, startD, enD, List.map_cons, List.map_nil, List.length_cons, List.length_nil, List.replicate, List.cons_append, List.nil_append, Nat.reduceAdd, Nat.reduceSub, MT.slots, wipeD, isiD, Option.toList_some, Option.toList_none, List.append_nil, List.getElem?_cons_zero, List.getElem?_cons_succ, Option.bind_some, mset_same, mset_mset, if_true, if_false, Bool.false_eq_true, reduceIte, Bool.not_true, Bool.not_false, Bool.true_eq_false, true_and, decide_eq_true_eq, fit_int, fit_bl, fit_non, deq_int, deq_bl]
      refine ⟨f1, ?_⟩
      cases h1 : isFr x with
      | false =>
        try simp -implicitDefEqProofs only [wpB, wpS, wpE, wpI, wpA, wpO, wpC, wpL, q_ifD, q_ifB, q_ifL, q_ifR, q_ifIs, q_ifBs, q_asI, q_rg0, q_rgs, q_rs0, q_rss, q_add, q_adds, q_addl, q_addt, q_sub, q_mul, q_fdiv, q_mod, q_pow, q_shl, q_trub, q_trui, q_trun, q_trul, q_eq, q_ne, q_lt, q_le, q_gt, q_ge, q_in, q_nin, q_cis, q_cisnt, q_joinl, q_joint, q_split, q_catll, q_catrl, q_catrr, q_catlr, q_setl, q_strs0, q_strsc, q_ifSs, q_clear, q_reverse, q_revl, q_revt, q_revr, q_eqm, q_nem, q_tupr, q_listr, q_lenr, q_lcf, q_lct, q_abs, q_lent, q_lenl, q_lens, q_sum, q_all, q_any, q_tupl, q_tupt, q_listl, q_listt, q_listMl, q_listMt, q_inti, q_intb, q_stri, q_strs, q_strn, q_strb, q_strt, q_strl, q_max, q_min, q_selt, q_sell, q_selr, q_seIt, q_seIl, q_seIr, q_itt, q_itl, q_bn, q_bt, q_btl, q_ba0, q_bas, q_inT, q_ninT, q_frzr, q_frzl, q_slct, q_slcl, q_slcr, q_slcs, q_trut, q_isn, q_isni, q_isnn, q_isnt, q_isnl, q_isne, q_isns, startD, enD, List.map_cons, List.map_nil, List.length_cons, List.length_nil, List.replicate, List.cons_append, List.nil_append, Nat.reduceAdd, Nat.reduceSub, MT.slots, wipeD, isiD, forW, lcW, Option.toList_some, Option.toList_none, List.append_nil, List.getElem?_cons_zero, List.getElem?_cons_succ, Option.bind_some, mset_same, mset_mset, if_true, if_false, Bool.false_eq_true, reduceIte, Bool.not_true, Bool.not_false, Bool.true_eq_false, true_and, decide_eq_true_eq, fit_int, fit_bl, fit_non, deq_int, deq_bl]
        exact bad _ (.inl h1) _ rfl
      | true =>
        try simp -implicitDefEqProofs only [wpB, wpS, wpE, wpI, wpA, wpO, wpC, wpL, q_ifD, q_ifB, q_ifL, q_ifR, q_ifIs, q_ifBs, q_asI, q_rg0, q_rgs, q_rs0, q_rss, q_add, q_adds, q_addl, q_addt, q_sub, q_mul, q_fdiv, q_mod, q_pow, q_shl, q_trub, q_trui, q_trun, q_trul, q_eq, q_ne, q_lt, q_le, q_gt, q_ge, q_in, q_nin, q_cis, q_cisnt, q_joinl, q_joint, q_split, q_catll, q_catrl, q_catrr, q_catlr, q_setl, q_strs0, q_strsc, q_ifSs, q_clear, q_reverse, q_revl, q_revt, q_revr, q_eqm, q_nem, q_tupr, q_listr, q_lenr, q_lcf, q_lct, q_abs, q_lent, q_lenl, q_lens, q_sum, q_all, q_any, q_tupl, q_tupt, q_listl, q_listt, q_listMl, q_listMt, q_inti, q_intb, q_stri, q_strs, q_strn, q_strb, q_strt, q_strl, q_max, q_min, q_selt, q_sell, q_selr, q_seIt, q_seIl, q_seIr, q_itt, q_itl, q_bn, q_bt, q_btl, q_ba0, q_bas, q_inT, q_ninT, q_frzr, q_frzl, q_slct, q_slcl, q_slcr, q_slcs, q_trut, q_isn, q_isni, q_isnn, q_isnt, q_isnl, q_isne, q_isns, startD, enD, List.map_cons, List.map_nil, List.length_cons, List.length_nil, List.replicate, List.cons_append, List.nil_append, Nat.reduceAdd, Nat.reduceSub, MT.slots, wipeD, isiD, forW, lcW, Option.toList_some, Option.toList_none, List.append_nil, List.getElem?_cons_zero, List.getElem?_cons_succ, Option.bind_some, mset_same, mset_mset, if_true, if_false, Bool.false_eq_true, reduceIte, Bool.not_true, Bool.not_false, Bool.true_eq_false, true_and, decide_eq_true_eq, fit_int, fit_bl, fit_non, deq_int, deq_bl]
        refine ⟨f2, ?_⟩
        cases h2 : isFr y with
        | false =>
          try simp -implicitDefEqProofs only [wpB, wpS, wpE, wpI, wpA, wpO, wpC, wpL, q_ifD, q_ifB, q_ifL, q_ifR, q_ifIs, q_ifBs, q_asI, q_rg0, q_rgs, q_rs0, q_rss, q_add, q_adds, q_addl, q_addt, q_sub, q_mul, q_fdiv, q_mod, q_pow, q_shl, q_trub, q_trui, q_trun, q_trul, q_eq, q_ne, q_lt, q_le, q_gt, q_ge, q_in, q_nin, q_cis, q_cisnt, q_joinl, q_joint, q_split, q_catll, q_catrl, q_catrr, q_catlr, q_setl, q_strs0, q_strsc, q_ifSs, q_clear, q_reverse, q_revl, q_revt, q_revr, q_eqm, q_nem, q_tupr, q_listr, q_lenr, q_lcf, q_lct, q_abs, q_lent, q_lenl, q_lens, q_sum, q_all, q_any, q_tupl, q_tupt, q_listl, q_listt, q_listMl, q_listMt, q_inti, q_intb, q_stri, q_strs, q_strn, q_strb, q_strt, q_strl, q_max, q_min, q_selt, q_sell, q_selr, q_seIt, q_seIl, q_seIr, q_itt, q_itl, q_bn, q_bt, q_btl, q_ba0, q_bas, q_inT, q_ninT, q_frzr, q_frzl, q_slct, q_slcl, q_slcr, q_slcs, q_trut, q_isn, q_isni, q_isnn, q_isnt, q_isnl, q_isne, q_isns, startD, enD, List.map_cons, List.map_nil, List.length_cons, List.length_nil, List.replicate, List.cons_append, List.nil_append, Nat.reduceAdd, Nat.reduceSub, MT.slots, wipeD, isiD, forW, lcW, Option.toList_some, Option.toList_none, List.append_nil, List.getElem?_cons_zero, List.getElem?_cons_succ, Option.bind_some, mset_same, mset_mset, if_true, if_false, Bool.false_eq_true, reduceIte, Bool.not_true, Bool.not_false, Bool.true_eq_false, true_and, decide_eq_true_eq, fit_int, fit_bl, fit_non, deq_int, deq_bl]
          exact bad _ (.inr (.inl h2)) _ rfl
        | true =>
          try simp -implicitDefEqProofs only [wpB, wpS, wpE, wpI, wpA, wpO, wpC, wpL, q_ifD, q_ifB, q_ifL, q_ifR, q_ifIs, q_ifBs, q_asI, q_rg0, q_rgs, q_rs0, q_rss, q_add, q_adds, q_addl, q_addt, q_sub, q_mul, q_fdiv, q_mod, q_pow, q_shl, q_trub, q_trui, q_trun, q_trul, q_eq, q_ne, q_lt, q_le, q_gt, q_ge, q_in, q_nin, q_cis, q_cisnt, q_joinl, q_joint, q_split, q_catll, q_catrl, q_catrr, q_catlr, q_setl, q_strs0, q_strsc, q_ifSs, q_clear, q_reverse, q_revl, q_revt, q_revr, q_eqm, q_nem, q_tupr, q_listr, q_lenr, q_lcf, q_lct, q_abs, q_lent, q_lenl, q_lens, q_sum, q_all, q_any, q_tupl, q_tupt, q_listl, q_listt, q_listMl, q_listMt, q_inti, q_intb, q_stri, q_strs, q_strn, q_strb, q_strt, q_strl, q_max, q_min, q_selt, q_sell, q_selr, q_seIt, q_seIl, q_seIr, q_itt, q_itl, q_bn, q_bt, q_btl, q_ba0, q_bas, q_inT, q_ninT, q_frzr, q_frzl, q_slct, q_slcl, q_slcr, q_slcs, q_trut, q_isn, q_isni, q_isnn, q_isnt, q_isnl, q_isne, q_isns, startD, enD, List.map_cons, List.map_nil, List.length_cons, List.length_nil, List.replicate, List.cons_append, List.nil_append, Nat.reduceAdd, Nat.reduceSub, MT.slots, wipeD, isiD, forW, lcW, Option.toList_some, Option.toList_none, List.append_nil, List.getElem?_cons_zero, List.getElem?_cons_succ, Option.bind_some, mset_same, mset_mset, if_true, if_false, Bool.false_eq_true, reduceIte, Bool.not_true, Bool.not_false, Bool.true_eq_false, true_and, decide_eq_true_eq, fit_int, fit_bl, fit_non, deq_int, deq_bl]
          refine ⟨f3, ?_⟩
          cases h3 : isFr z with
          | false =>
            try simp -implicitDefEqProofs only [wpB, wpS, wpE, wpI, wpA, wpO, wpC, wpL, q_ifD, q_ifB, q_ifL, q_ifR, q_ifIs, q_ifBs, q_asI, q_rg0, q_rgs, q_rs0, q_rss, q_add, q_adds, q_addl, q_addt, q_sub, q_mul, q_fdiv, q_mod, q_pow, q_shl, q_trub, q_trui, q_trun, q_trul, q_eq, q_ne, q_lt, q_le, q_gt, q_ge, q_in, q_nin, q_cis, q_cisnt, q_joinl, q_joint, q_split, q_catll, q_catrl, q_catrr, q_catlr, q_setl, q_strs0, q_strsc, q_ifSs, q_clear, q_reverse, q_revl, q_revt, q_revr, q_eqm, q_nem, q_tupr, q_listr, q_lenr, q_lcf, q_lct, q_abs, q_lent, q_lenl, q_lens, q_sum, q_all, q_any, q_tupl, q_tupt, q_listl, q_listt, q_listMl, q_listMt, q_inti, q_intb, q_stri, q_strs, q_strn, q_strb, q_strt, q_strl, q_max, q_min, q_selt, q_sell, q_selr, q_seIt, q_seIl, q_seIr, q_itt, q_itl, q_bn, q_bt, q_btl, q_ba0, q_bas, q_inT, q_ninT, q_frzr, q_frzl, q_slct, q_slcl, q_slcr, q_slcs, q_trut, q_isn, q_isni, q_isnn, q_isnt, q_isnl, q_isne, q_isns, startD, enD, List.map_cons, List.map_nil, List.length_cons, List.length_nil, List.replicate, List.cons_append, List.nil_append, Nat.reduceAdd, Nat.reduceSub, MT.slots, wipeD, isiD, forW, lcW, Option.toList_some, Option.toList_none, List.append_nil, List.getElem?_cons_zero, List.getElem?_cons_succ, Option.bind_some, mset_same, mset_mset, if_true, if_false, Bool.false_eq_true, reduceIte, Bool.not_true, Bool.not_false, Bool.true_eq_false, true_and, decide_eq_true_eq, fit_int, fit_bl, fit_non, deq_int, deq_bl]
            exact bad _ (.inr (.inr h3)) _ rfl
          | true =>
            obtain ⟨g, rfl⟩ := isFr_isq h1
            obtain ⟨h, rfl⟩ := isFr_isq h2
            obtain ⟨k, rfl⟩ := isFr_isq h3
            obtain ⟨a, b, c, sg, sh, sk, hb, r0, r1⟩ := q1 g h k rfl
            simp only [m_look_at_cubic_2, wpB, wpS, wpE, wpI, wpA, wpO, wpC, wpL]
            try simp -implicitDefEqProofs only [m_look_at_cubic_2, fD, wpB, wpS, wpE, wpI, wpA, wpO, wpC, wpL, q_ifD, q_ifB, q_ifL, q_ifR, q_ifIs, q_ifBs, q_asI, q_rg0, q_rgs, q_rs0, q_rss, q_add, q_adds, q_addl, q_addt, q_sub, q_mul, q_fdiv, q_mod, q_pow, q_shl, q_trub, q_trui, q_trun, q_trul, q_eq, q_ne, q_lt, q_le, q_gt, q_ge, q_in, q_nin, q_cis, q_cisnt, q_joinl, q_joint, q_split, q_catll, q_catrl, q_catrr, q_catlr, q_setl, q_strs0, q_strsc, q_ifSs, q_clear, q_reverse, q_revl, q_revt, q_revr, q_eqm, q_nem, q_tupr, q_listr, q_lenr, q_lcf, q_lct, q_abs, q_lent, q_lenl, q_lens, q_sum, q_all, q_any, q_tupl, q_tupt, q_listl, q_listt, q_listMl, q_listMt, q_inti, q_intb, q_stri, q_strs, q_strn, q_strb, q_strt, q_strl, q_max, q_min, q_selt, q_sell, q_selr, q_seIt, q_seIl, q_seIr, q_itt, q_itl, q_bn, q_bt, q_btl, q_ba0, q_bas, q_inT, q_ninT, q_frzr, q_frzl, q_slct, q_slcl, q_slcr, q_slcs, q_trut, q_isn, q_isni, q_isnn, q_isnt, q_isnl, q_isne, q_isns, startD, enD, List.map_cons, List.map_nil, List.length_cons, List.length_nil, List.replicate, List.cons_append, List.nil_append, Nat.reduceAdd, Nat.reduceSub, MT.slots, wipeD, isiD, Option.toList_some, Option.toList_none, List.append_nil, List.getElem?_cons_zero, List.getElem?_cons_succ, Option.bind_some, mset_same, mset_mset, if_true, if_false, Bool.false_eq_true, reduceIte, Bool.not_true, Bool.not_false, Bool.true_eq_false, true_and, decide_eq_true_eq, fit_int, fit_bl, fit_non, deq_int, deq_bl]
            rw [num0b]
            by_cases hk : k = 0
            · refine ite_f (by simp [hk]) (ite_t (by simp [hk]) ?_)
              simp only [m_look_at_cubic_2a, wpB, wpS, wpE, wpI, wpA, wpO, wpC, wpL]
              try simp -implicitDefEqProofs only [m_look_at_cubic_2a, wpB, wpS, wpE, wpI, wpA, wpO, wpC, wpL, q_ifD, q_ifB, q_ifL, q_ifR, q_ifIs, q_ifBs, q_asI, q_rg0, q_rgs, q_rs0, q_rss, q_add, q_adds, q_addl, q_addt, q_sub, q_mul, q_fdiv, q_mod, q_pow, q_shl, q_trub, q_trui, q_trun, q_trul, q_eq, q_ne, q_lt, q_le, q_gt, q_ge, q_in, q_nin, q_cis, q_cisnt, q_joinl, q_joint, q_split, q_catll, q_catrl, q_catrr, q_catlr, q_setl, q_strs0, q_strsc, q_ifSs, q_clear, q_reverse, q_revl, q_revt, q_revr, q_eqm, q_nem, q_tupr, q_listr, q_lenr, q_lcf, q_lct, q_abs, q_lent, q_lenl, q_lens, q_sum, q_all, q_any, q_tupl, q_tupt, q_listl, q_listt, q_listMl, q_listMt, q_inti, q_intb, q_stri, q_strs, q_strn, q_strb, q_strt, q_strl, q_max, q_min, q_selt, q_sell, q_selr, q_seIt, q_seIl, q_seIr, q_itt, q_itl, q_bn, q_bt, q_btl, q_ba0, q_bas, q_inT, q_ninT, q_frzr, q_frzl, q_slct, q_slcl, q_slcr, q_slcs, q_trut, q_isn, q_isni, q_isnn, q_isnt, q_isnl, q_isne, q_isns, startD, enD, List.map_cons, List.map_nil, List.length_cons, List.length_nil, List.replicate, List.cons_append, List.nil_append, Nat.reduceAdd, Nat.reduceSub, MT.slots, wipeD, isiD, Option.toList_some, Option.toList_none, List.append_nil, List.getElem?_cons_zero, List.getElem?_cons_succ, Option.bind_some, mset_same, mset_mset, if_true, if_false, Bool.false_eq_true, reduceIte, Bool.not_true, Bool.not_false, Bool.true_eq_false, true_and, decide_eq_true_eq, fit_int, fit_bl, fit_non, deq_int, deq_bl]
              exact r0 (.inl hk)
            · refine ite_t (by simp [hk]) ⟨g, h, k, a, b, c, rfl, sg, sh, sk, hb, ?_⟩
              simp -implicitDefEqProofs only [fD, wpB, wpS, wpE, wpI, wpA, wpO, wpC, wpL, q_ifD, q_ifB, q_ifL, q_ifR, q_ifIs, q_ifBs, q_asI, q_rg0, q_rgs, q_rs0, q_rss, q_add, q_adds, q_addl, q_addt, q_sub, q_mul, q_fdiv, q_mod, q_pow, q_shl, q_trub, q_trui, q_trun, q_trul, q_eq, q_ne, q_lt, q_le, q_gt, q_ge, q_in, q_nin, q_cis, q_cisnt, q_joinl, q_joint, q_split, q_catll, q_catrl, q_catrr, q_catlr, q_setl, q_strs0, q_strsc, q_ifSs, q_clear, q_reverse, q_revl, q_revt, q_revr, q_eqm, q_nem, q_tupr, q_listr, q_lenr, q_lcf, q_lct, q_abs, q_lent, q_lenl, q_lens, q_sum, q_all, q_any, q_tupl, q_tupt, q_listl, q_listt, q_listMl, q_listMt, q_inti, q_intb, q_stri, q_strs, q_strn, q_strb, q_strt, q_strl, q_max, q_min, q_selt, q_sell, q_selr, q_seIt, q_seIl, q_seIr, q_itt, q_itl, q_bn, q_bt, q_btl, q_ba0, q_bas, q_inT, q_ninT, q_frzr, q_frzl, q_slct, q_slcl, q_slcr, q_slcs, q_trut, q_isn, q_isni, q_isnn, q_isnt, q_isnl, q_isne, q_isns, startD, enD, List.map_cons, List.map_nil, List.length_cons, List.length_nil, List.replicate, List.cons_append, List.nil_append, Nat.reduceAdd, Nat.reduceSub, MT.slots, wipeD, isiD, Option.toList_some, Option.toList_none, List.append_nil, List.getElem?_cons_zero, List.getElem?_cons_succ, Option.bind_some, mset_same, mset_mset, if_true, if_false, Bool.false_eq_true, reduceIte, Bool.not_true, Bool.not_false, Bool.true_eq_false, true_and, decide_eq_true_eq, fit_int, fit_bl, fit_non, deq_int, deq_bl]
              rw [num0b]
              by_cases hd : dsc g h k = 0
              · refine ite_t (by simp [hd]) ?_
                simp only [m_look_at_cubic_2a, wpB, wpS, wpE, wpI, wpA, wpO, wpC, wpL]
                try simp -implicitDefEqProofs only [m_look_at_cubic_2a, wpB, wpS, wpE, wpI, wpA, wpO, wpC, wpL, q_ifD, q_ifB, q_ifL, q_ifR, q_ifIs, q_ifBs, q_asI, q_rg0, q_rgs, q_rs0, q_rss, q_add, q_adds, q_addl, q_addt, q_sub, q_mul, q_fdiv, q_mod, q_pow, q_shl, q_trub, q_trui, q_trun, q_trul, q_eq, q_ne, q_lt, q_le, q_gt, q_ge, q_in, q_nin, q_cis, q_cisnt, q_joinl, q_joint, q_split, q_catll, q_catrl, q_catrr, q_catlr, q_setl, q_strs0, q_strsc, q_ifSs, q_clear, q_reverse, q_revl, q_revt, q_revr, q_eqm, q_nem, q_tupr, q_listr, q_lenr, q_lcf, q_lct, q_abs, q_lent, q_lenl, q_lens, q_sum, q_all, q_any, q_tupl, q_tupt, q_listl, q_listt, q_listMl, q_listMt, q_inti, q_intb, q_stri, q_strs, q_strn, q_strb, q_strt, q_strl, q_max, q_min, q_selt, q_sell, q_selr, q_seIt, q_seIl, q_seIr, q_itt, q_itl, q_bn, q_bt, q_btl, q_ba0, q_bas, q_inT, q_ninT, q_frzr, q_frzl, q_slct, q_slcl, q_slcr, q_slcs, q_trut, q_isn, q_isni, q_isnn, q_isnt, q_isnl, q_isne, q_isns, startD, enD, List.map_cons, List.map_nil, List.length_cons, List.length_nil, List.replicate, List.cons_append, List.nil_append, Nat.reduceAdd, Nat.reduceSub, MT.slots, wipeD, isiD, Option.toList_some, Option.toList_none, List.append_nil, List.getElem?_cons_zero, List.getElem?_cons_succ, Option.bind_some, mset_same, mset_mset, if_true, if_false, Bool.false_eq_true, reduceIte, Bool.not_true, Bool.not_false, Bool.true_eq_false, true_and, decide_eq_true_eq, fit_int, fit_bl, fit_non, deq_int, deq_bl]
                exact r0 (.inr hd)
              · exact ite_f (by simp [hd]) (r1 hk hd)
    · refine ite_t (by simp; omega) ?_
      simp only [m_look_at_cubic_0a, wpB, wpS, wpE, wpI, wpA, wpO, wpC, wpL]
      try simp -implicitDefEqProofs only [m_look_at_cubic_0a, wpB, wpS, wpE, wpI, wpA, wpO, wpC, wpL, q_ifD, q_ifB, q_ifL, q_ifR, q_ifIs, q_ifBs, q_asI, q_rg0, q_rgs, q_rs0, q_rss, q_add, q_adds, q_addl, q_addt, q_sub, q_mul, q_fdiv, q_mod, q_pow, q_shl, q_trub, q_trui, q_trun, q_trul, q_eq, q_ne, q_lt, q_le, q_gt, q_ge, q_in, q_nin, q_cis, q_cisnt, q_joinl, q_joint, q_split, q_catll, q_catrl, q_catrr, q_catlr, q_setl, q_strs0, q_strsc, q_ifSs, q_clear, q_reverse, q_revl, q_revt, q_revr, q_eqm, q_nem, q_tupr, q_listr, q_lenr, q_lcf, q_lct, q_abs, q_lent, q_lenl, q_lens, q_sum, q_all, q_any, q_tupl, q_tupt, q_listl, q_listt, q_listMl, q_listMt, q_inti, q_intb, q_stri, q_strs, q_strn, q_strb, q_strt, q_strl, q_max, q_min, q_selt, q_sell, q_selr, q_seIt, q_seIl, q_seIr, q_itt, q_itl, q_bn, q_bt, q_btl, q_ba0, q_bas, q_inT, q_ninT, q_frzr, q_frzl, q_slct, q_slcl, q_slcr, q_slcs, q_trut, q_isn, q_isni, q_isnn, q_isnt, q_isnl, q_isne, q_isns, startD, enD, List.map_cons, List.map_nil, List.length_cons, List.length_nil, List.replicate, List.cons_append, List.nil_append, Nat.reduceAdd, Nat.reduceSub, MT.slots, wipeD, isiD, Option.toList_some, Option.toList_none, List.append_nil, List.getElem?_cons_zero, List.getElem?_cons_succ, Option.bind_some, mset_same, mset_mset, if_true, if_false, Bool.false_eq_true, reduceIte, Bool.not_true, Bool.not_false, Bool.true_eq_false, true_and, decide_eq_true_eq, fit_int, fit_bl, fit_non, deq_int, deq_bl]
      exact q0 fun g h k e => by cases e; exact hl rfl
  | _ =>
    simp only [m_look_at_cubic, m_look_at_cubic_0a, wpB, wpS, wpE, wpI, wpA, wpO, wpC, wpL]
    try simp -implicitDefEqProofs only [m_look_at_cubic, m_look_at_cubic_0a, wpB, wpS, wpE, wpI, wpA, wpO, wpC, wpL, q_ifD, q_ifB, q_ifL, q_ifR, q_ifIs, q_ifBs, q_asI, q_rg0, q_rgs, q_rs0, q_rss, q_add, q_adds, q_addl, q_addt, q_sub, q_mul, q_fdiv, q_mod, q_pow, q_shl, q_trub, q_trui, q_trun, q_trul, q_eq, q_ne, q_lt, q_le, q_gt, q_ge, q_in, q_nin, q_cis, q_cisnt, q_joinl, q_joint, q_split, q_catll, q_catrl, q_catrr, q_catlr, q_setl, q_strs0, q_strsc, q_ifSs, q_clear, q_reverse, q_revl, q_revt, q_revr, q_eqm, q_nem, q_tupr, q_listr, q_lenr, q_lcf, q_lct, q_abs, q_lent, q_lenl, q_lens, q_sum, q_all, q_any, q_tupl, q_tupt, q_listl, q_listt, q_listMl, q_listMt, q_inti, q_intb, q_stri, q_strs, q_strn, q_strb, q_strt, q_strl, q_max, q_min, q_selt, q_sell, q_selr, q_seIt, q_seIl, q_seIr, q_itt, q_itl, q_bn, q_bt, q_btl, q_ba0, q_bas, q_inT, q_ninT, q_frzr, q_frzl, q_slct, q_slcl, q_slcr, q_slcs, q_trut, q_isn, q_isni, q_isnn, q_isnt, q_isnl, q_isne, q_isns, startD, enD, List.map_cons, List.map_nil, List.length_cons, List.length_nil, List.replicate, List.cons_append, List.nil_append, Nat.reduceAdd, Nat.reduceSub, MT.slots, wipeD, isiD, Option.toList_some, Option.toList_none, List.append_nil, List.getElem?_cons_zero, List.getElem?_cons_succ, Option.bind_some, mset_same, mset_mset, if_true, if_false, Bool.false_eq_true, reduceIte, Bool.not_true, Bool.not_false, Bool.true_eq_false, true_and, decide_eq_true_eq, fit_int, fit_bl, fit_non, deq_int, deq_bl]
    exact q0 fun g h k e => by cases e)
theorem cub_q {g h k : Rat} {a b c : Nat} {μ : Mu} {Q : Pst} {X : Xst} (sg : szQ a g) (sh : szQ b h) (sk : szQ c k) (hb : 5 * a + 5 * b + 3 * c + 30 ≤ 2000000) (r0 : (k = 0 ∨ dsc g h k = 0) → X c_NoCubic μ) (r1 : k ≠ 0 → dsc g h k ≠ 0 → Q .non μ) : S_look_at_cubic [.tup [qD g, qD h, qD k]] μ Q X :=
  ⟨by simp [fit_tup, fit_int], fun g' h' k' e => by
    injection e with e
    simp only [List.cons.injEq, and_true] at e
    cases qD_inj e.1; cases qD_inj e.2.1; cases qD_inj e.2.2
    exact ⟨a, b, c, sg, sh, sk, hb, r0, r1⟩, fun h => absurd rfl (h g _ k)⟩

/-! the law's own fractions and cubics (dialect C) -/
def sm8 (t : Rat) : Bool := decide (t.num.natAbs < 2 ^ 8) && decide (t.den < 2 ^ 8)
theorem sm8_sz {t : Rat} (h : sm8 t = true) : szQ 8 t := by
  simp only [sm8, Bool.and_eq_true, decide_eq_true_eq] at h
  exact ⟨h.1, by show ((t.den : Nat) : Int).natAbs < 2 ^ 8; omega⟩
theorem s1q : szQ 1 (1 : Rat) := ⟨by decide +kernel, by decide +kernel⟩
theorem s3q : szQ 2 (3 : Rat) := ⟨by decide +kernel, by decide +kernel⟩
theorem s4q : szQ 3 (4 : Rat) := ⟨by decide +kernel, by decide +kernel⟩
theorem s2q : szQ 2 (-2 : Rat) := ⟨by decide +kernel, by decide +kernel⟩
theorem q_three : D.tup [.int 3, .int 1] = qD 3 := rfl
theorem q_four : D.tup [.int 4, .int 1] = qD 4 := rfl
theorem q_mtwo : D.tup [.int (-2), .int 1] = qD (-2) := rfl
abbrev cuD (c : Rat × Rat × Rat) : D := .tup [qD c.1, qD c.2.1, qD c.2.2]
def szC (n : Nat) (c : Rat × Rat × Rat) : Prop := szQ n c.1 ∧ szQ n c.2.1 ∧ szQ n c.2.2
def dsL (g h k : Rat) : Rat := g * h * g * h - 4 * h * h * h - 4 * k * g * g * g - 27 * k * k + 18 * g * h * k
def goodC (c : Rat × Rat × Rat) : Prop := c.2.2 ≠ 0 ∧ dsL c.1 c.2.1 c.2.2 ≠ 0
instance (c : Rat × Rat × Rat) : Decidable (goodC c) := by unfold goodC; exact inferInstance
def S_law_cell : DSp := sp2 fun a b μ Q _ => ∃ (ns : List Int) (k : Int), a = .lst (ns.map .int) ∧ b = .int k ∧ 0 ≤ k ∧ k ≤ 100 ∧ ∀ n : Int, 0 ≤ n → n.natAbs < 2 ^ 200 → Q (.int n) μ
def N_law_cell : List Str := ["_law_script", "_law_k", "_law_cell_here", "_law_number"]
def m_law_cell_5 : MB := (.cons (.ret (.bin .add (.bin .mul (.var 3) (.int 2147483563)) (.bin .mod (.bin .mul (.var 3) (.var 3)) (.int 2147483563)))) .nil)
def m_law_cell_4 : MB := (.cons (.asg (.name 3) (.bin .mod (.bin .mul (.var 3) (.var 3)) (.int 2147483587))) m_law_cell_5)
def m_law_cell_3 : MB := (.cons (.asg (.name 3) (.bin .mod (.bin .add (.bin .add (.bin .mul (.bin .mod (.var 2) (.int 2147483629)) (.int 48271)) (.bin .mul (.var 1) (.int 69621))) (.int 11)) (.int 2147483629))) m_law_cell_4)
def m_law_cell_2a : MB := (.cons (.ret (.bin .mod (.bin .sub (.var 2) (.bin .pow (.int 10) (.int 18))) (.bin .pow (.int 10) (.int 60)))) .nil)
def m_law_cell_2 : MB := (.cons (.ite (.cmp .ge (.var 2) (.bin .pow (.int 10) (.int 18))) m_law_cell_2a .nil) m_law_cell_3)
def m_law_cell_1a : MB := (.cons (.asg (.name 2) (.ix (.var 0) (.var 1))) .nil)
def m_law_cell_1 : MB := (.cons (.ite (.cmp .lt (.var 1) (.bl1 .len (.var 0))) m_law_cell_1a .nil) m_law_cell_2)
def m_law_cell : MB := (.cons (.asg (.name 2) (.int 0)) m_law_cell_1)
-- slots: 0=_law_script 1=_law_k 2=_law_cell_here 3=_law_number
theorem w_law_cell : ∀ ds μ Q X, S_law_cell ds μ Q X → ds.length = 2 ∧ wpB m_law_cell (startD 4 ds) μ (enD Q X) := sp2_of (by
  rintro a b μ Q X ⟨ns, k, rfl, rfl, h0, h1, q⟩
  have rest : ∀ z : Int, wpB m_law_cell_2 [some (.lst (ns.map .int)), some (.int k), some (.int z), none] μ (enD Q X) := by
    intro z
    simp only [m_law_cell_2, wpB, wpS, wpE, wpI, wpA, wpO, wpC, wpL]
    try simp -implicitDefEqProofs only [m_law_cell_2, wpB, wpS, wpE, wpI, wpA, wpO, wpC, wpL, q_ifD, q_ifB, q_ifL, q_ifR, q_ifIs, q_ifBs, q_asI, q_rg0, q_rgs, q_rs0, q_rss, q_add, q_adds, q_addl, q_addt, q_sub, q_mul, q_fdiv, q_mod, q_pow, q_shl, q_trub, q_trui, q_trun, q_trul, q_eq, q_ne, q_lt, q_le, q_gt, q_ge, q_in, q_nin, q_cis, q_cisnt, q_joinl, q_joint, q_split, q_catll, q_catrl, q_catrr, q_catlr, q_setl, q_strs0, q_strsc, q_ifSs, q_clear, q_reverse, q_revl, q_revt, q_revr, q_eqm, q_nem, q_tupr, q_listr, q_lenr, q_lcf, q_lct, q_abs, q_lent, q_lenl, q_lens, q_sum, q_all, q_any, q_tupl, q_tupt, q_listl, q_listt, q_listMl, q_listMt, q_inti, q_intb, q_stri, q_strs, q_strn, q_strb, q_strt, q_strl, q_max, q_min, q_selt, q_sell, q_selr, q_seIt, q_seIl, q_seIr, q_itt, q_itl, q_bn, q_bt, q_btl, q_ba0, q_bas, q_inT, q_ninT, q_frzr, q_frzl, q_slct, q_slcl, q_slcr, q_slcs, q_trut, q_isn, q_isni, q_isnn, q_isnt, q_isnl, q_isne, q_isns, startD, enD, List.map_cons, List.map_nil, List.length_cons, List.length_nil, List.replicate, List.cons_append, List.nil_append, Nat.reduceAdd, Nat.reduceSub, MT.slots, wipeD, isiD, Option.toList_some, Option.toList_none, List.append_nil, List.getElem?_cons_zero, List.getElem?_cons_succ, Option.bind_some, mset_same, mset_mset, if_true, if_false, Bool.false_eq_true, reduceIte, Bool.not_true, Bool.not_false, Bool.true_eq_false, true_and, decide_eq_true_eq, fit_int, fit_bl, fit_non, deq_int, deq_bl]
    refine ⟨pow10_18, ?_⟩
    by_cases hz : (10 : Int) ^ Int.toNat 18 ≤ z
    · refine ite_t (by simpa using hz) ?_
      simp only [m_law_cell_2a, wpB, wpS, wpE, wpI, wpA, wpO, wpC, wpL]
      try simp -implicitDefEqProofs only [m_law_cell_2a, wpB, wpS, wpE, wpI, wpA, wpO, wpC, wpL, q_ifD, q_ifB, q_ifL, q_ifR, q_ifIs, q_ifBs, q_asI, q_rg0, q_rgs, q_rs0, q_rss, q_add, q_adds, q_addl, q_addt, q_sub, q_mul, q_fdiv, q_mod, q_pow, q_shl, q_trub, q_trui, q_trun, q_trul, q_eq, q_ne, q_lt, q_le, q_gt, q_ge, q_in, q_nin, q_cis, q_cisnt, q_joinl, q_joint, q_split, q_catll, q_catrl, q_catrr, q_catlr, q_setl, q_strs0, q_strsc, q_ifSs, q_clear, q_reverse, q_revl, q_revt, q_revr, q_eqm, q_nem, q_tupr, q_listr, q_lenr, q_lcf, q_lct, q_abs, q_lent, q_lenl, q_lens, q_sum, q_all, q_any, q_tupl, q_tupt, q_listl, q_listt, q_listMl, q_listMt, q_inti, q_intb, q_stri, q_strs, q_strn, q_strb, q_strt, q_strl, q_max, q_min, q_selt, q_sell, q_selr, q_seIt, q_seIl, q_seIr, q_itt, q_itl, q_bn, q_bt, q_btl, q_ba0, q_bas, q_inT, q_ninT, q_frzr, q_frzl, q_slct, q_slcl, q_slcr, q_slcs, q_trut, q_isn, q_isni, q_isnn, q_isnt, q_isnl, q_isne, q_isns, startD, enD, List.map_cons, List.map_nil, List.length_cons, List.length_nil, List.replicate, List.cons_append, List.nil_append, Nat.reduceAdd, Nat.reduceSub, MT.slots, wipeD, isiD, Option.toList_some, Option.toList_none, List.append_nil, List.getElem?_cons_zero, List.getElem?_cons_succ, Option.bind_some, mset_same, mset_mset, if_true, if_false, Bool.false_eq_true, reduceIte, Bool.not_true, Bool.not_false, Bool.true_eq_false, true_and, decide_eq_true_eq, fit_int, fit_bl, fit_non, deq_int, deq_bl]
      have p60 : powOk 10 60 := ⟨by decide, by decide, by decide⟩
      refine ⟨pow10_18, p60, by decide +kernel, ?_⟩
      obtain ⟨a0, a1⟩ := fmod_pos (x := z - 10 ^ Int.toNat 18) (m := 10 ^ Int.toNat 60) (by decide +kernel)
      refine q _ a0 (Nat.lt_trans (nab a0 (n := 10 ^ 60) (by simpa using a1)) (by decide +kernel))
    · refine ite_f (by simpa using hz) ?_
      simp only [m_law_cell_3, wpB, wpS, wpE, wpI, wpA, wpO, wpC, wpL]
      try simp -implicitDefEqProofs only [m_law_cell_3, wpB, wpS, wpE, wpI, wpA, wpO, wpC, wpL, q_ifD, q_ifB, q_ifL, q_ifR, q_ifIs, q_ifBs, q_asI, q_rg0, q_rgs, q_rs0, q_rss, q_add, q_adds, q_addl, q_addt, q_sub, q_mul, q_fdiv, q_mod, q_pow, q_shl, q_trub, q_trui, q_trun, q_trul, q_eq, q_ne, q_lt, q_le, q_gt, q_ge, q_in, q_nin, q_cis, q_cisnt, q_joinl, q_joint, q_split, q_catll, q_catrl, q_catrr, q_catlr, q_setl, q_strs0, q_strsc, q_ifSs, q_clear, q_reverse, q_revl, q_revt, q_revr, q_eqm, q_nem, q_tupr, q_listr, q_lenr, q_lcf, q_lct, q_abs, q_lent, q_lenl, q_lens, q_sum, q_all, q_any, q_tupl, q_tupt, q_listl, q_listt, q_listMl, q_listMt, q_inti, q_intb, q_stri, q_strs, q_strn, q_strb, q_strt, q_strl, q_max, q_min, q_selt, q_sell, q_selr, q_seIt, q_seIl, q_seIr, q_itt, q_itl, q_bn, q_bt, q_btl, q_ba0, q_bas, q_inT, q_ninT, q_frzr, q_frzl, q_slct, q_slcl, q_slcr, q_slcs, q_trut, q_isn, q_isni, q_isnn, q_isnt, q_isnl, q_isne, q_isns, startD, enD, List.map_cons, List.map_nil, List.length_cons, List.length_nil, List.replicate, List.cons_append, List.nil_append, Nat.reduceAdd, Nat.reduceSub, MT.slots, wipeD, isiD, Option.toList_some, Option.toList_none, List.append_nil, List.getElem?_cons_zero, List.getElem?_cons_succ, Option.bind_some, mset_same, mset_mset, if_true, if_false, Bool.false_eq_true, reduceIte, Bool.not_true, Bool.not_false, Bool.true_eq_false, true_and, decide_eq_true_eq, fit_int, fit_bl, fit_non, deq_int, deq_bl]
      obtain ⟨a0, a1⟩ := fmod_pos (x := z) (m := 2147483629) (by decide)
      generalize z.fmod 2147483629 = y at *
      refine ⟨by decide, mul_ok 31 16 (by omega) (by decide) (by decide), mul_ok 7 17 (by omega) (by decide) (by decide), by decide, ?_⟩
      obtain ⟨b0, b1⟩ := fmod_pos (x := y * 48271 + k * 69621 + 11) (m := 2147483629) (by decide)
      generalize (y * 48271 + k * 69621 + 11).fmod 2147483629 = u at *
      simp only [m_law_cell_4, wpB, wpS, wpE, wpI, wpA, wpO, wpC, wpL]
      try simp -implicitDefEqProofs only [m_law_cell_4, wpB, wpS, wpE, wpI, wpA, wpO, wpC, wpL, q_ifD, q_ifB, q_ifL, q_ifR, q_ifIs, q_ifBs, q_asI, q_rg0, q_rgs, q_rs0, q_rss, q_add, q_adds, q_addl, q_addt, q_sub, q_mul, q_fdiv, q_mod, q_pow, q_shl, q_trub, q_trui, q_trun, q_trul, q_eq, q_ne, q_lt, q_le, q_gt, q_ge, q_in, q_nin, q_cis, q_cisnt, q_joinl, q_joint, q_split, q_catll, q_catrl, q_catrr, q_catlr, q_setl, q_strs0, q_strsc, q_ifSs, q_clear, q_reverse, q_revl, q_revt, q_revr, q_eqm, q_nem, q_tupr, q_listr, q_lenr, q_lcf, q_lct, q_abs, q_lent, q_lenl, q_lens, q_sum, q_all, q_any, q_tupl, q_tupt, q_listl, q_listt, q_listMl, q_listMt, q_inti, q_intb, q_stri, q_strs, q_strn, q_strb, q_strt, q_strl, q_max, q_min, q_selt, q_sell, q_selr, q_seIt, q_seIl, q_seIr, q_itt, q_itl, q_bn, q_bt, q_btl, q_ba0, q_bas, q_inT, q_ninT, q_frzr, q_frzl, q_slct, q_slcl, q_slcr, q_slcs, q_trut, q_isn, q_isni, q_isnn, q_isnt, q_isnl, q_isne, q_isns, startD, enD, List.map_cons, List.map_nil, List.length_cons, List.length_nil, List.replicate, List.cons_append, List.nil_append, Nat.reduceAdd, Nat.reduceSub, MT.slots, wipeD, isiD, Option.toList_some, Option.toList_none, List.append_nil, List.getElem?_cons_zero, List.getElem?_cons_succ, Option.bind_some, mset_same, mset_mset, if_true, if_false, Bool.false_eq_true, reduceIte, Bool.not_true, Bool.not_false, Bool.true_eq_false, true_and, decide_eq_true_eq, fit_int, fit_bl, fit_non, deq_int, deq_bl]
      refine ⟨mul_ok 31 31 (by omega) (by omega) (by decide), by decide, ?_⟩
      obtain ⟨c0, c1⟩ := fmod_pos (x := u * u) (m := 2147483587) (by decide)
      generalize (u * u).fmod 2147483587 = v at *
      simp only [m_law_cell_5, wpB, wpS, wpE, wpI, wpA, wpO, wpC, wpL]
      try simp -implicitDefEqProofs only [m_law_cell_5, wpB, wpS, wpE, wpI, wpA, wpO, wpC, wpL, q_ifD, q_ifB, q_ifL, q_ifR, q_ifIs, q_ifBs, q_asI, q_rg0, q_rgs, q_rs0, q_rss, q_add, q_adds, q_addl, q_addt, q_sub, q_mul, q_fdiv, q_mod, q_pow, q_shl, q_trub, q_trui, q_trun, q_trul, q_eq, q_ne, q_lt, q_le, q_gt, q_ge, q_in, q_nin, q_cis, q_cisnt, q_joinl, q_joint, q_split, q_catll, q_catrl, q_catrr, q_catlr, q_setl, q_strs0, q_strsc, q_ifSs, q_clear, q_reverse, q_revl, q_revt, q_revr, q_eqm, q_nem, q_tupr, q_listr, q_lenr, q_lcf, q_lct, q_abs, q_lent, q_lenl, q_lens, q_sum, q_all, q_any, q_tupl, q_tupt, q_listl, q_listt, q_listMl, q_listMt, q_inti, q_intb, q_stri, q_strs, q_strn, q_strb, q_strt, q_strl, q_max, q_min, q_selt, q_sell, q_selr, q_seIt, q_seIl, q_seIr, q_itt, q_itl, q_bn, q_bt, q_btl, q_ba0, q_bas, q_inT, q_ninT, q_frzr, q_frzl, q_slct, q_slcl, q_slcr, q_slcs, q_trut, q_isn, q_isni, q_isnn, q_isnt, q_isnl, q_isne, q_isns, startD, enD, List.map_cons, List.map_nil, List.length_cons, List.length_nil, List.replicate, List.cons_append, List.nil_append, Nat.reduceAdd, Nat.reduceSub, MT.slots, wipeD, isiD, Option.toList_some, Option.toList_none, List.append_nil, List.getElem?_cons_zero, List.getElem?_cons_succ, Option.bind_some, mset_same, mset_mset, if_true, if_false, Bool.false_eq_true, reduceIte, Bool.not_true, Bool.not_false, Bool.true_eq_false, true_and, decide_eq_true_eq, fit_int, fit_bl, fit_non, deq_int, deq_bl]
      obtain ⟨d0, d1⟩ := fmod_pos (x := v * v) (m := 2147483563) (by decide)
      refine ⟨mul_ok 31 31 (by omega) (by decide) (by decide), mul_ok 31 31 (by omega) (by omega) (by decide), by decide, ?_⟩
      generalize (v * v).fmod 2147483563 = t at *
      refine q _ (by omega) (Nat.lt_of_lt_of_le (show _ < 2 ^ 64 by omega) (Nat.pow_le_pow_right (by decide) (by decide)))
  simp -implicitDefEqProofs only [wpB, wpS, wpE, wpI, wpA, wpO, wpC, wpL, q_ifD, q_ifB, q_ifL, q_ifR, q_ifIs, q_ifBs, q_asI, q_rg0, q_rgs, q_rs0, q_rss, q_add, q_adds, q_addl, q_addt, q_sub, q_mul, q_fdiv, q_mod, q_pow, q_shl, q_trub, q_trui, q_trun, q_trul, q_eq, q_ne, q_lt, q_le, q_gt, q_ge, q_in, q_nin, q_cis, q_cisnt, q_joinl, q_joint, q_split, q_catll, q_catrl, q_catrr, q_catlr, q_setl, q_strs0, q_strsc, q_ifSs, q_clear, q_reverse, q_revl, q_revt, q_revr, q_eqm, q_nem, q_tupr, q_listr, q_lenr, q_lcf, q_lct, q_abs, q_lent, q_lenl, q_lens, q_sum, q_all, q_any, q_tupl, q_tupt, q_listl, q_listt, q_listMl, q_listMt, q_inti, q_intb, q_stri, q_strs, q_strn, q_strb, q_strt, q_strl, q_max, q_min, q_selt, q_sell, q_selr, q_seIt, q_seIl, q_seIr, q_itt, q_itl, q_bn, q_bt, q_btl, q_ba0, q_bas, q_inT, q_ninT, q_frzr, q_frzl, q_slct, q_slcl, q_slcr, q_slcs, q_trut, q_isn, q_isni, q_isnn, q_isnt, q_isnl, q_isne, q_isns, startD, enD, List.map_cons, List.map_nil, List.length_cons, List.length_nil, List.replicate, List.cons_append, List.nil_append, Nat.reduceAdd, Nat.reduceSub, MT.slots, wipeD, isiD, Option.toList_some, Option.toList_none, List.append_nil, List.getElem?_cons_zero, List.getElem?_cons_succ, Option.bind_some, mset_same, mset_mset, if_true, if_false, Bool.false_eq_true, reduceIte, Bool.not_true, Bool.not_false, Bool.true_eq_false, true_and, decide_eq_true_eq, fit_int, fit_bl, fit_non, deq_int, deq_bl] at rest
  simp only [m_law_cell, wpB, wpS, wpE, wpI, wpA, wpO, wpC, wpL]
  try simp -implicitDefEqProofs only [m_law_cell, wpB, wpS, wpE, wpI, wpA, wpO, wpC, wpL, q_ifD, q_ifB, q_ifL, q_ifR, q_ifIs, q_ifBs, q_asI, q_rg0, q_rgs, q_rs0, q_rss, q_add, q_adds, q_addl, q_addt, q_sub, q_mul, q_fdiv, q_mod, q_pow, q_shl, q_trub, q_trui, q_trun, q_trul, q_eq, q_ne, q_lt, q_le, q_gt, q_ge, q_in, q_nin, q_cis, q_cisnt, q_joinl, q_joint, q_split, q_catll, q_catrl, q_catrr, q_catlr, q_setl, q_strs0, q_strsc, q_ifSs, q_clear, q_reverse, q_revl, q_revt, q_revr, q_eqm, q_nem, q_tupr, q_listr, q_lenr, q_lcf, q_lct, q_abs, q_lent, q_lenl, q_lens, q_sum, q_all, q_any, q_tupl, q_tupt, q_listl, q_listt, q_listMl, q_listMt, q_inti, q_intb, q_stri, q_strs, q_strn, q_strb, q_strt, q_strl, q_max, q_min, q_selt, q_sell, q_selr, q_seIt, q_seIl, q_seIr, q_itt, q_itl, q_bn, q_bt, q_btl, q_ba0, q_bas, q_inT, q_ninT, q_frzr, q_frzl, q_slct, q_slcl, q_slcr, q_slcs, q_trut, q_isn, q_isni, q_isnn, q_isnt, q_isnl, q_isne, q_isns, startD, enD, List.map_cons, List.map_nil, List.length_cons, List.length_nil, List.replicate, List.cons_append, List.nil_append, Nat.reduceAdd, Nat.reduceSub, MT.slots, wipeD, isiD, Option.toList_some, Option.toList_none, List.append_nil, List.getElem?_cons_zero, List.getElem?_cons_succ, Option.bind_some, mset_same, mset_mset, if_true, if_false, Bool.false_eq_true, reduceIte, Bool.not_true, Bool.not_false, Bool.true_eq_false, true_and, decide_eq_true_eq, fit_int, fit_bl, fit_non, deq_int, deq_bl]
  simp only [m_law_cell_1, wpB, wpS, wpE, wpI, wpA, wpO, wpC, wpL]
  try simp -implicitDefEqProofs only [m_law_cell_1, wpB, wpS, wpE, wpI, wpA, wpO, wpC, wpL, q_ifD, q_ifB, q_ifL, q_ifR, q_ifIs, q_ifBs, q_asI, q_rg0, q_rgs, q_rs0, q_rss, q_add, q_adds, q_addl, q_addt, q_sub, q_mul, q_fdiv, q_mod, q_pow, q_shl, q_trub, q_trui, q_trun, q_trul, q_eq, q_ne, q_lt, q_le, q_gt, q_ge, q_in, q_nin, q_cis, q_cisnt, q_joinl, q_joint, q_split, q_catll, q_catrl, q_catrr, q_catlr, q_setl, q_strs0, q_strsc, q_ifSs, q_clear, q_reverse, q_revl, q_revt, q_revr, q_eqm, q_nem, q_tupr, q_listr, q_lenr, q_lcf, q_lct, q_abs, q_lent, q_lenl, q_lens, q_sum, q_all, q_any, q_tupl, q_tupt, q_listl, q_listt, q_listMl, q_listMt, q_inti, q_intb, q_stri, q_strs, q_strn, q_strb, q_strt, q_strl, q_max, q_min, q_selt, q_sell, q_selr, q_seIt, q_seIl, q_seIr, q_itt, q_itl, q_bn, q_bt, q_btl, q_ba0, q_bas, q_inT, q_ninT, q_frzr, q_frzl, q_slct, q_slcl, q_slcr, q_slcs, q_trut, q_isn, q_isni, q_isnn, q_isnt, q_isnl, q_isne, q_isns, startD, enD, List.map_cons, List.map_nil, List.length_cons, List.length_nil, List.replicate, List.cons_append, List.nil_append, Nat.reduceAdd, Nat.reduceSub, MT.slots, wipeD, isiD, Option.toList_some, Option.toList_none, List.append_nil, List.getElem?_cons_zero, List.getElem?_cons_succ, Option.bind_some, mset_same, mset_mset, if_true, if_false, Bool.false_eq_true, reduceIte, Bool.not_true, Bool.not_false, Bool.true_eq_false, true_and, decide_eq_true_eq, fit_int, fit_bl, fit_non, deq_int, deq_bl]
  by_cases hk : k < ((ns.map D.int).length : Int)
  · refine ite_t (by simpa using hk) ?_
    obtain ⟨z, hz⟩ := at_ints ns k h0 (by simpa using hk)
    simp only [m_law_cell_1a, wpB, wpS, wpE, wpI, wpA, wpO, wpC, wpL]
    try simp -implicitDefEqProofs only [m_law_cell_1a, wpB, wpS, wpE, wpI, wpA, wpO, wpC, wpL, q_ifD, q_ifB, q_ifL, q_ifR, q_ifIs, q_ifBs, q_asI, q_rg0, q_rgs, q_rs0, q_rss, q_add, q_adds, q_addl, q_addt, q_sub, q_mul, q_fdiv, q_mod, q_pow, q_shl, q_trub, q_trui, q_trun, q_trul, q_eq, q_ne, q_lt, q_le, q_gt, q_ge, q_in, q_nin, q_cis, q_cisnt, q_joinl, q_joint, q_split, q_catll, q_catrl, q_catrr, q_catlr, q_setl, q_strs0, q_strsc, q_ifSs, q_clear, q_reverse, q_revl, q_revt, q_revr, q_eqm, q_nem, q_tupr, q_listr, q_lenr, q_lcf, q_lct, q_abs, q_lent, q_lenl, q_lens, q_sum, q_all, q_any, q_tupl, q_tupt, q_listl, q_listt, q_listMl, q_listMt, q_inti, q_intb, q_stri, q_strs, q_strn, q_strb, q_strt, q_strl, q_max, q_min, q_selt, q_sell, q_selr, q_seIt, q_seIl, q_seIr, q_itt, q_itl, q_bn, q_bt, q_btl, q_ba0, q_bas, q_inT, q_ninT, q_frzr, q_frzl, q_slct, q_slcl, q_slcr, q_slcs, q_trut, q_isn, q_isni, q_isnn, q_isnt, q_isnl, q_isne, q_isns, startD, enD, List.map_cons, List.map_nil, List.length_cons, List.length_nil, List.replicate, List.cons_append, List.nil_append, Nat.reduceAdd, Nat.reduceSub, MT.slots, wipeD, isiD, Option.toList_some, Option.toList_none, List.append_nil, List.getElem?_cons_zero, List.getElem?_cons_succ, Option.bind_some, mset_same, mset_mset, if_true, if_false, Bool.false_eq_true, reduceIte, Bool.not_true, Bool.not_false, Bool.true_eq_false, true_and, decide_eq_true_eq, fit_int, fit_bl, fit_non, deq_int, deq_bl]
    rw [hz]
    try simp -implicitDefEqProofs only [wpB, wpS, wpE, wpI, wpA, wpO, wpC, wpL, q_ifD, q_ifB, q_ifL, q_ifR, q_ifIs, q_ifBs, q_asI, q_rg0, q_rgs, q_rs0, q_rss, q_add, q_adds, q_addl, q_addt, q_sub, q_mul, q_fdiv, q_mod, q_pow, q_shl, q_trub, q_trui, q_trun, q_trul, q_eq, q_ne, q_lt, q_le, q_gt, q_ge, q_in, q_nin, q_cis, q_cisnt, q_joinl, q_joint, q_split, q_catll, q_catrl, q_catrr, q_catlr, q_setl, q_strs0, q_strsc, q_ifSs, q_clear, q_reverse, q_revl, q_revt, q_revr, q_eqm, q_nem, q_tupr, q_listr, q_lenr, q_lcf, q_lct, q_abs, q_lent, q_lenl, q_lens, q_sum, q_all, q_any, q_tupl, q_tupt, q_listl, q_listt, q_listMl, q_listMt, q_inti, q_intb, q_stri, q_strs, q_strn, q_strb, q_strt, q_strl, q_max, q_min, q_selt, q_sell, q_selr, q_seIt, q_seIl, q_seIr, q_itt, q_itl, q_bn, q_bt, q_btl, q_ba0, q_bas, q_inT, q_ninT, q_frzr, q_frzl, q_slct, q_slcl, q_slcr, q_slcs, q_trut, q_isn, q_isni, q_isnn, q_isnt, q_isnl, q_isne, q_isns, startD, enD, List.map_cons, List.map_nil, List.length_cons, List.length_nil, List.replicate, List.cons_append, List.nil_append, Nat.reduceAdd, Nat.reduceSub, MT.slots, wipeD, isiD, Option.toList_some, Option.toList_none, List.append_nil, List.getElem?_cons_zero, List.getElem?_cons_succ, Option.bind_some, mset_same, mset_mset, if_true, if_false, Bool.false_eq_true, reduceIte, Bool.not_true, Bool.not_false, Bool.true_eq_false, true_and, decide_eq_true_eq, fit_int, fit_bl, fit_non, deq_int, deq_bl]
    exact rest z
  · exact ite_f (by simpa using hk) (rest 0))
theorem cell_of {ns : List Int} {k : Int} {μ : Mu} {Q : Pst} {X : Xst} (h0 : 0 ≤ k) (h1 : k ≤ 100) (q : ∀ n : Int, 0 ≤ n → n.natAbs < 2 ^ 200 → Q (.int n) μ) : S_law_cell [.lst (ns.map .int), .int k] μ Q X := ⟨ns, k, rfl, rfl, h0, h1, q⟩
def S_law_frac : DSp := sp2 fun x y μ Q _ => ∃ t b : Int, x = .int t ∧ y = .int b ∧ b ≠ 0 ∧ Q (frD t b) μ
def N_law_frac : List Str := ["_law_top", "_law_bottom", "_law_one", "_law_other"]
def m_law_frac_4 : MB := (.cons (.ret (.tup (.cons (.bin .fdiv (.var 0) (.var 2)) (.cons (.bin .fdiv (.var 1) (.var 2)) .nil)))) .nil)
def m_law_frac_3a : MB := (.cons (.asg (.name 2) (.bin .sub (.int 0) (.var 2))) .nil)
def m_law_frac_3 : MB := (.cons (.ite (.cmp .lt (.var 1) (.int 0)) m_law_frac_3a .nil) m_law_frac_4)
def m_law_frac_2a : MB := (.cons (.par 2 3 (.var 3) (.bin .mod (.var 2) (.var 3))) .nil)
def m_law_frac_2 : MB := (.cons (.whl (.cmp .gt (.var 3) (.int 0)) m_law_frac_2a) m_law_frac_3)
def m_law_frac_1 : MB := (.cons (.asg (.name 3) (.bl1 .abs (.var 1))) m_law_frac_2)
def m_law_frac : MB := (.cons (.asg (.name 2) (.bl1 .abs (.var 0))) m_law_frac_1)
-- slots: 0=_law_top 1=_law_bottom 2=_law_one 3=_law_other
theorem w_law_frac : ∀ ds μ Q X, S_law_frac ds μ Q X → ds.length = 2 ∧ wpB m_law_frac (startD 4 ds) μ (enD Q X) := sp2_of (by
  rintro x y μ Q X ⟨t, b, rfl, rfl, hb, q⟩
  simp only [m_law_frac, wpB, wpS, wpE, wpI, wpA, wpO, wpC, wpL]
  try simp -implicitDefEqProofs only [m_law_frac, wpB, wpS, wpE, wpI, wpA, wpO, wpC, wpL, q_ifD, q_ifB, q_ifL, q_ifR, q_ifIs, q_ifBs, q_asI, q_rg0, q_rgs, q_rs0, q_rss, q_add, q_adds, q_addl, q_addt, q_sub, q_mul, q_fdiv, q_mod, q_pow, q_shl, q_trub, q_trui, q_trun, q_trul, q_eq, q_ne, q_lt, q_le, q_gt, q_ge, q_in, q_nin, q_cis, q_cisnt, q_joinl, q_joint, q_split, q_catll, q_catrl, q_catrr, q_catlr, q_setl, q_strs0, q_strsc, q_ifSs, q_clear, q_reverse, q_revl, q_revt, q_revr, q_eqm, q_nem, q_tupr, q_listr, q_lenr, q_lcf, q_lct, q_abs, q_lent, q_lenl, q_lens, q_sum, q_all, q_any, q_tupl, q_tupt, q_listl, q_listt, q_listMl, q_listMt, q_inti, q_intb, q_stri, q_strs, q_strn, q_strb, q_strt, q_strl, q_max, q_min, q_selt, q_sell, q_selr, q_seIt, q_seIl, q_seIr, q_itt, q_itl, q_bn, q_bt, q_btl, q_ba0, q_bas, q_inT, q_ninT, q_frzr, q_frzl, q_slct, q_slcl, q_slcr, q_slcs, q_trut, q_isn, q_isni, q_isnn, q_isnt, q_isnl, q_isne, q_isns, startD, enD, List.map_cons, List.map_nil, List.length_cons, List.length_nil, List.replicate, List.cons_append, List.nil_append, Nat.reduceAdd, Nat.reduceSub, MT.slots, wipeD, isiD, Option.toList_some, Option.toList_none, List.append_nil, List.getElem?_cons_zero, List.getElem?_cons_succ, Option.bind_some, mset_same, mset_mset, if_true, if_false, Bool.false_eq_true, reduceIte, Bool.not_true, Bool.not_false, Bool.true_eq_false, true_and, decide_eq_true_eq, fit_int, fit_bl, fit_non, deq_int, deq_bl]
  simp only [m_law_frac_1, wpB, wpS, wpE, wpI, wpA, wpO, wpC, wpL]
  try simp -implicitDefEqProofs only [m_law_frac_1, wpB, wpS, wpE, wpI, wpA, wpO, wpC, wpL, q_ifD, q_ifB, q_ifL, q_ifR, q_ifIs, q_ifBs, q_asI, q_rg0, q_rgs, q_rs0, q_rss, q_add, q_adds, q_addl, q_addt, q_sub, q_mul, q_fdiv, q_mod, q_pow, q_shl, q_trub, q_trui, q_trun, q_trul, q_eq, q_ne, q_lt, q_le, q_gt, q_ge, q_in, q_nin, q_cis, q_cisnt, q_joinl, q_joint, q_split, q_catll, q_catrl, q_catrr, q_catlr, q_setl, q_strs0, q_strsc, q_ifSs, q_clear, q_reverse, q_revl, q_revt, q_revr, q_eqm, q_nem, q_tupr, q_listr, q_lenr, q_lcf, q_lct, q_abs, q_lent, q_lenl, q_lens, q_sum, q_all, q_any, q_tupl, q_tupt, q_listl, q_listt, q_listMl, q_listMt, q_inti, q_intb, q_stri, q_strs, q_strn, q_strb, q_strt, q_strl, q_max, q_min, q_selt, q_sell, q_selr, q_seIt, q_seIl, q_seIr, q_itt, q_itl, q_bn, q_bt, q_btl, q_ba0, q_bas, q_inT, q_ninT, q_frzr, q_frzl, q_slct, q_slcl, q_slcr, q_slcs, q_trut, q_isn, q_isni, q_isnn, q_isnt, q_isnl, q_isne, q_isns, startD, enD, List.map_cons, List.map_nil, List.length_cons, List.length_nil, List.replicate, List.cons_append, List.nil_append, Nat.reduceAdd, Nat.reduceSub, MT.slots, wipeD, isiD, Option.toList_some, Option.toList_none, List.append_nil, List.getElem?_cons_zero, List.getElem?_cons_succ, Option.bind_some, mset_same, mset_mset, if_true, if_false, Bool.false_eq_true, reduceIte, Bool.not_true, Bool.not_false, Bool.true_eq_false, true_and, decide_eq_true_eq, fit_int, fit_bl, fit_non, deq_int, deq_bl]
  simp only [m_law_frac_2, wpB, wpS, wpE, wpI, wpA, wpO, wpC, wpL]
  try simp -implicitDefEqProofs only [m_law_frac_2, wpB, wpS, wpE, wpI, wpA, wpO, wpC, wpL, q_ifD, q_ifB, q_ifL, q_ifR, q_ifIs, q_ifBs, q_asI, q_rg0, q_rgs, q_rs0, q_rss, q_add, q_adds, q_addl, q_addt, q_sub, q_mul, q_fdiv, q_mod, q_pow, q_shl, q_trub, q_trui, q_trun, q_trul, q_eq, q_ne, q_lt, q_le, q_gt, q_ge, q_in, q_nin, q_cis, q_cisnt, q_joinl, q_joint, q_split, q_catll, q_catrl, q_catrr, q_catlr, q_setl, q_strs0, q_strsc, q_ifSs, q_clear, q_reverse, q_revl, q_revt, q_revr, q_eqm, q_nem, q_tupr, q_listr, q_lenr, q_lcf, q_lct, q_abs, q_lent, q_lenl, q_lens, q_sum, q_all, q_any, q_tupl, q_tupt, q_listl, q_listt, q_listMl, q_listMt, q_inti, q_intb, q_stri, q_strs, q_strn, q_strb, q_strt, q_strl, q_max, q_min, q_selt, q_sell, q_selr, q_seIt, q_seIl, q_seIr, q_itt, q_itl, q_bn, q_bt, q_btl, q_ba0, q_bas, q_inT, q_ninT, q_frzr, q_frzl, q_slct, q_slcl, q_slcr, q_slcs, q_trut, q_isn, q_isni, q_isnn, q_isnt, q_isnl, q_isne, q_isns, startD, enD, List.map_cons, List.map_nil, List.length_cons, List.length_nil, List.replicate, List.cons_append, List.nil_append, Nat.reduceAdd, Nat.reduceSub, MT.slots, wipeD, isiD, Option.toList_some, Option.toList_none, List.append_nil, List.getElem?_cons_zero, List.getElem?_cons_succ, Option.bind_some, mset_same, mset_mset, if_true, if_false, Bool.false_eq_true, reduceIte, Bool.not_true, Bool.not_false, Bool.true_eq_false, true_and, decide_eq_true_eq, fit_int, fit_bl, fit_non, deq_int, deq_bl]
  have fin : ∀ s : Int, s = byI t b → wpB m_law_frac_4 [some (.int t), some (.int b), some (.int s), some (.int 0)] μ (enD Q X) := by
    intro s hs
    have s0 : s ≠ 0 := by rw [hs]; exact byI_ne hb
    simp only [m_law_frac_4, wpB, wpS, wpE, wpI, wpA, wpO, wpC, wpL]
    try simp -implicitDefEqProofs only [m_law_frac_4, wpB, wpS, wpE, wpI, wpA, wpO, wpC, wpL, q_ifD, q_ifB, q_ifL, q_ifR, q_ifIs, q_ifBs, q_asI, q_rg0, q_rgs, q_rs0, q_rss, q_add, q_adds, q_addl, q_addt, q_sub, q_mul, q_fdiv, q_mod, q_pow, q_shl, q_trub, q_trui, q_trun, q_trul, q_eq, q_ne, q_lt, q_le, q_gt, q_ge, q_in, q_nin, q_cis, q_cisnt, q_joinl, q_joint, q_split, q_catll, q_catrl, q_catrr, q_catlr, q_setl, q_strs0, q_strsc, q_ifSs, q_clear, q_reverse, q_revl, q_revt, q_revr, q_eqm, q_nem, q_tupr, q_listr, q_lenr, q_lcf, q_lct, q_abs, q_lent, q_lenl, q_lens, q_sum, q_all, q_any, q_tupl, q_tupt, q_listl, q_listt, q_listMl, q_listMt, q_inti, q_intb, q_stri, q_strs, q_strn, q_strb, q_strt, q_strl, q_max, q_min, q_selt, q_sell, q_selr, q_seIt, q_seIl, q_seIr, q_itt, q_itl, q_bn, q_bt, q_btl, q_ba0, q_bas, q_inT, q_ninT, q_frzr, q_frzl, q_slct, q_slcl, q_slcr, q_slcs, q_trut, q_isn, q_isni, q_isnn, q_isnt, q_isnl, q_isne, q_isns, startD, enD, List.map_cons, List.map_nil, List.length_cons, List.length_nil, List.replicate, List.cons_append, List.nil_append, Nat.reduceAdd, Nat.reduceSub, MT.slots, wipeD, isiD, Option.toList_some, Option.toList_none, List.append_nil, List.getElem?_cons_zero, List.getElem?_cons_succ, Option.bind_some, mset_same, mset_mset, if_true, if_false, Bool.false_eq_true, reduceIte, Bool.not_true, Bool.not_false, Bool.true_eq_false, true_and, decide_eq_true_eq, fit_int, fit_bl, fit_non, deq_int, deq_bl]
    refine ⟨s0, s0, ?_⟩
    rw [hs]
    exact q
  refine whW_by (fun m ρ μ' => ∃ u v : Nat, v = m ∧ ρ = [some (.int t), some (.int b), some (.int u), some (.int v)] ∧ μ = μ' ∧ Nat.gcd u v = Int.gcd t b) ?_ (m := b.natAbs) ⟨t.natAbs, b.natAbs, rfl, rfl, rfl, rfl⟩
  rintro m ρ μ' k ⟨u, v, hm, rfl, rfl, hg⟩ hk
  subst hm
  try simp -implicitDefEqProofs only [wpB, wpS, wpE, wpI, wpA, wpO, wpC, wpL, q_ifD, q_ifB, q_ifL, q_ifR, q_ifIs, q_ifBs, q_asI, q_rg0, q_rgs, q_rs0, q_rss, q_add, q_adds, q_addl, q_addt, q_sub, q_mul, q_fdiv, q_mod, q_pow, q_shl, q_trub, q_trui, q_trun, q_trul, q_eq, q_ne, q_lt, q_le, q_gt, q_ge, q_in, q_nin, q_cis, q_cisnt, q_joinl, q_joint, q_split, q_catll, q_catrl, q_catrr, q_catlr, q_setl, q_strs0, q_strsc, q_ifSs, q_clear, q_reverse, q_revl, q_revt, q_revr, q_eqm, q_nem, q_tupr, q_listr, q_lenr, q_lcf, q_lct, q_abs, q_lent, q_lenl, q_lens, q_sum, q_all, q_any, q_tupl, q_tupt, q_listl, q_listt, q_listMl, q_listMt, q_inti, q_intb, q_stri, q_strs, q_strn, q_strb, q_strt, q_strl, q_max, q_min, q_selt, q_sell, q_selr, q_seIt, q_seIl, q_seIr, q_itt, q_itl, q_bn, q_bt, q_btl, q_ba0, q_bas, q_inT, q_ninT, q_frzr, q_frzl, q_slct, q_slcl, q_slcr, q_slcs, q_trut, q_isn, q_isni, q_isnn, q_isnt, q_isnl, q_isne, q_isns, startD, enD, List.map_cons, List.map_nil, List.length_cons, List.length_nil, List.replicate, List.cons_append, List.nil_append, Nat.reduceAdd, Nat.reduceSub, MT.slots, wipeD, isiD, Option.toList_some, Option.toList_none, List.append_nil, List.getElem?_cons_zero, List.getElem?_cons_succ, Option.bind_some, mset_same, mset_mset, if_true, if_false, Bool.false_eq_true, reduceIte, Bool.not_true, Bool.not_false, Bool.true_eq_false, true_and, decide_eq_true_eq, fit_int, fit_bl, fit_non, deq_int, deq_bl]
  by_cases hv : v = 0
  · subst hv
    refine ite_f (by simp) ?_
    rw [Nat.gcd_zero_right] at hg
    subst hg
    simp only [m_law_frac_3, m_law_frac_3a, wpB, wpS, wpE, wpI, wpA, wpO, wpC, wpL]
    try simp -implicitDefEqProofs only [m_law_frac_3, m_law_frac_3a, wpB, wpS, wpE, wpI, wpA, wpO, wpC, wpL, q_ifD, q_ifB, q_ifL, q_ifR, q_ifIs, q_ifBs, q_asI, q_rg0, q_rgs, q_rs0, q_rss, q_add, q_adds, q_addl, q_addt, q_sub, q_mul, q_fdiv, q_mod, q_pow, q_shl, q_trub, q_trui, q_trun, q_trul, q_eq, q_ne, q_lt, q_le, q_gt, q_ge, q_in, q_nin, q_cis, q_cisnt, q_joinl, q_joint, q_split, q_catll, q_catrl, q_catrr, q_catlr, q_setl, q_strs0, q_strsc, q_ifSs, q_clear, q_reverse, q_revl, q_revt, q_revr, q_eqm, q_nem, q_tupr, q_listr, q_lenr, q_lcf, q_lct, q_abs, q_lent, q_lenl, q_lens, q_sum, q_all, q_any, q_tupl, q_tupt, q_listl, q_listt, q_listMl, q_listMt, q_inti, q_intb, q_stri, q_strs, q_strn, q_strb, q_strt, q_strl, q_max, q_min, q_selt, q_sell, q_selr, q_seIt, q_seIl, q_seIr, q_itt, q_itl, q_bn, q_bt, q_btl, q_ba0, q_bas, q_inT, q_ninT, q_frzr, q_frzl, q_slct, q_slcl, q_slcr, q_slcs, q_trut, q_isn, q_isni, q_isnn, q_isnt, q_isnl, q_isne, q_isns, startD, enD, List.map_cons, List.map_nil, List.length_cons, List.length_nil, List.replicate, List.cons_append, List.nil_append, Nat.reduceAdd, Nat.reduceSub, MT.slots, wipeD, isiD, Option.toList_some, Option.toList_none, List.append_nil, List.getElem?_cons_zero, List.getElem?_cons_succ, Option.bind_some, mset_same, mset_mset, if_true, if_false, Bool.false_eq_true, reduceIte, Bool.not_true, Bool.not_false, Bool.true_eq_false, true_and, decide_eq_true_eq, fit_int, fit_bl, fit_non, deq_int, deq_bl]
    by_cases h0 : b < 0
    · refine ite_t (by simpa using h0) (fin _ ?_)
      unfold byI; rw [if_pos h0]
    · refine ite_f (by simpa using h0) (fin _ ?_)
      unfold byI; rw [if_neg h0]
  · refine ite_t (by simp; omega) ?_
    simp only [m_law_frac_2a, wpB, wpS, wpE, wpI, wpA, wpO, wpC, wpL]
    try simp -implicitDefEqProofs only [m_law_frac_2a, wpB, wpS, wpE, wpI, wpA, wpO, wpC, wpL, q_ifD, q_ifB, q_ifL, q_ifR, q_ifIs, q_ifBs, q_asI, q_rg0, q_rgs, q_rs0, q_rss, q_add, q_adds, q_addl, q_addt, q_sub, q_mul, q_fdiv, q_mod, q_pow, q_shl, q_trub, q_trui, q_trun, q_trul, q_eq, q_ne, q_lt, q_le, q_gt, q_ge, q_in, q_nin, q_cis, q_cisnt, q_joinl, q_joint, q_split, q_catll, q_catrl, q_catrr, q_catlr, q_setl, q_strs0, q_strsc, q_ifSs, q_clear, q_reverse, q_revl, q_revt, q_revr, q_eqm, q_nem, q_tupr, q_listr, q_lenr, q_lcf, q_lct, q_abs, q_lent, q_lenl, q_lens, q_sum, q_all, q_any, q_tupl, q_tupt, q_listl, q_listt, q_listMl, q_listMt, q_inti, q_intb, q_stri, q_strs, q_strn, q_strb, q_strt, q_strl, q_max, q_min, q_selt, q_sell, q_selr, q_seIt, q_seIl, q_seIr, q_itt, q_itl, q_bn, q_bt, q_btl, q_ba0, q_bas, q_inT, q_ninT, q_frzr, q_frzl, q_slct, q_slcl, q_slcr, q_slcs, q_trut, q_isn, q_isni, q_isnn, q_isnt, q_isnl, q_isne, q_isns, startD, enD, List.map_cons, List.map_nil, List.length_cons, List.length_nil, List.replicate, List.cons_append, List.nil_append, Nat.reduceAdd, Nat.reduceSub, MT.slots, wipeD, isiD, Option.toList_some, Option.toList_none, List.append_nil, List.getElem?_cons_zero, List.getElem?_cons_succ, Option.bind_some, mset_same, mset_mset, if_true, if_false, Bool.false_eq_true, reduceIte, Bool.not_true, Bool.not_false, Bool.true_eq_false, true_and, decide_eq_true_eq, fit_int, fit_bl, fit_non, deq_int, deq_bl]
    refine ⟨by omega, ?_⟩
    rw [fmod_nat]
    exact hk _ _ _ (Nat.mod_lt _ (Nat.pos_of_ne_zero hv)) ⟨v, u % v, rfl, rfl, rfl, by rw [← hg, Nat.gcd_comm u v, Nat.gcd_rec v u, Nat.gcd_comm]⟩)
def S_law_add : DSp := sp2 fun x y μ Q _ => ∃ (a b : Rat) (m n : Nat), x = qD a ∧ y = qD b ∧ szQ m a ∧ szQ n b ∧ m + n ≤ 100000000 ∧ Q (qD (a + b)) μ
def N_law_add : List Str := ["_law_one", "_law_other"]
def m_law_add : MB := (.cons (.ret (.call "_law_frac" S_law_frac (.cons (.bin .add (.bin .mul (.ixc (.var 0) 0) (.ixc (.var 1) 1)) (.bin .mul (.ixc (.var 1) 0) (.ixc (.var 0) 1))) (.cons (.bin .mul (.ixc (.var 0) 1) (.ixc (.var 1) 1)) .nil)))) .nil)
theorem w_law_add : ∀ ds μ Q X, S_law_add ds μ Q X → ds.length = 2 ∧ wpB m_law_add (startD 2 ds) μ (enD Q X) := sp2_of (by
  rintro x y μ Q X ⟨a, b, m, n, rfl, rfl, h1, h2, hb, q⟩
  obtain ⟨k1, k2, k3, k4, k5⟩ := mulq h1 h2 (by omega)
  simp only [m_law_add, wpB, wpS, wpE, wpI, wpA, wpO, wpC, wpL]
  try simp -implicitDefEqProofs only [m_law_add, fD, wpB, wpS, wpE, wpI, wpA, wpO, wpC, wpL, q_ifD, q_ifB, q_ifL, q_ifR, q_ifIs, q_ifBs, q_asI, q_rg0, q_rgs, q_rs0, q_rss, q_add, q_adds, q_addl, q_addt, q_sub, q_mul, q_fdiv, q_mod, q_pow, q_shl, q_trub, q_trui, q_trun, q_trul, q_eq, q_ne, q_lt, q_le, q_gt, q_ge, q_in, q_nin, q_cis, q_cisnt, q_joinl, q_joint, q_split, q_catll, q_catrl, q_catrr, q_catlr, q_setl, q_strs0, q_strsc, q_ifSs, q_clear, q_reverse, q_revl, q_revt, q_revr, q_eqm, q_nem, q_tupr, q_listr, q_lenr, q_lcf, q_lct, q_abs, q_lent, q_lenl, q_lens, q_sum, q_all, q_any, q_tupl, q_tupt, q_listl, q_listt, q_listMl, q_listMt, q_inti, q_intb, q_stri, q_strs, q_strn, q_strb, q_strt, q_strl, q_max, q_min, q_selt, q_sell, q_selr, q_seIt, q_seIl, q_seIr, q_itt, q_itl, q_bn, q_bt, q_btl, q_ba0, q_bas, q_inT, q_ninT, q_frzr, q_frzl, q_slct, q_slcl, q_slcr, q_slcs, q_trut, q_isn, q_isni, q_isnn, q_isnt, q_isnl, q_isne, q_isns, startD, enD, List.map_cons, List.map_nil, List.length_cons, List.length_nil, List.replicate, List.cons_append, List.nil_append, Nat.reduceAdd, Nat.reduceSub, MT.slots, wipeD, isiD, forW, lcW, Option.toList_some, Option.toList_none, List.append_nil, List.getElem?_cons_zero, List.getElem?_cons_succ, Option.bind_some, mset_same, mset_mset, if_true, if_false, Bool.false_eq_true, reduceIte, Bool.not_true, Bool.not_false, Bool.true_eq_false, true_and, decide_eq_true_eq, fit_int, fit_bl, fit_non, deq_int, deq_bl]
  refine ⟨k2, k3, k4, _, _, rfl, rfl, mul_ne0 (den_ne a) (den_ne b), ?_⟩
  have e := sumF_q a b
  unfold sumF at e
  rw [frD_eq, e]
  exact q)
theorem ladd_q {a b : Rat} {m n : Nat} {μ : Mu} {Q : Pst} {X : Xst} (h1 : szQ m a) (h2 : szQ n b) (hb : m + n ≤ 100000000) (q : szQ (m + n + 1) (a + b) → Q (qD (a + b)) μ) : S_law_add [qD a, qD b] μ Q X := ⟨a, b, m, n, rfl, rfl, h1, h2, hb, q (szQ_add h1 h2)⟩
def S_law_mul : DSp := sp2 fun x y μ Q _ => ∃ (a b : Rat) (m n : Nat), x = qD a ∧ y = qD b ∧ szQ m a ∧ szQ n b ∧ m + n ≤ 100000000 ∧ Q (qD (a * b)) μ
def N_law_mul : List Str := ["_law_one", "_law_other"]
def m_law_mul : MB := (.cons (.ret (.call "_law_frac" S_law_frac (.cons (.bin .mul (.ixc (.var 0) 0) (.ixc (.var 1) 0)) (.cons (.bin .mul (.ixc (.var 0) 1) (.ixc (.var 1) 1)) .nil)))) .nil)
theorem w_law_mul : ∀ ds μ Q X, S_law_mul ds μ Q X → ds.length = 2 ∧ wpB m_law_mul (startD 2 ds) μ (enD Q X) := sp2_of (by
  rintro x y μ Q X ⟨a, b, m, n, rfl, rfl, h1, h2, hb, q⟩
  obtain ⟨k1, k2, k3, k4, k5⟩ := mulq h1 h2 (by omega)
  simp only [m_law_mul, wpB, wpS, wpE, wpI, wpA, wpO, wpC, wpL]
  try simp -implicitDefEqProofs only [m_law_mul, fD, wpB, wpS, wpE, wpI, wpA, wpO, wpC, wpL, q_ifD, q_ifB, q_ifL, q_ifR, q_ifIs, q_ifBs, q_asI, q_rg0, q_rgs, q_rs0, q_rss, q_add, q_adds, q_addl, q_addt, q_sub, q_mul, q_fdiv, q_mod, q_pow, q_shl, q_trub, q_trui, q_trun, q_trul, q_eq, q_ne, q_lt, q_le, q_gt, q_ge, q_in, q_nin, q_cis, q_cisnt, q_joinl, q_joint, q_split, q_catll, q_catrl, q_catrr, q_catlr, q_setl, q_strs0, q_strsc, q_ifSs, q_clear, q_reverse, q_revl, q_revt, q_revr, q_eqm, q_nem, q_tupr, q_listr, q_lenr, q_lcf, q_lct, q_abs, q_lent, q_lenl, q_lens, q_sum, q_all, q_any, q_tupl, q_tupt, q_listl, q_listt, q_listMl, q_listMt, q_inti, q_intb, q_stri, q_strs, q_strn, q_strb, q_strt, q_strl, q_max, q_min, q_selt, q_sell, q_selr, q_seIt, q_seIl, q_seIr, q_itt, q_itl, q_bn, q_bt, q_btl, q_ba0, q_bas, q_inT, q_ninT, q_frzr, q_frzl, q_slct, q_slcl, q_slcr, q_slcs, q_trut, q_isn, q_isni, q_isnn, q_isnt, q_isnl, q_isne, q_isns, startD, enD, List.map_cons, List.map_nil, List.length_cons, List.length_nil, List.replicate, List.cons_append, List.nil_append, Nat.reduceAdd, Nat.reduceSub, MT.slots, wipeD, isiD, forW, lcW, Option.toList_some, Option.toList_none, List.append_nil, List.getElem?_cons_zero, List.getElem?_cons_succ, Option.bind_some, mset_same, mset_mset, if_true, if_false, Bool.false_eq_true, reduceIte, Bool.not_true, Bool.not_false, Bool.true_eq_false, true_and, decide_eq_true_eq, fit_int, fit_bl, fit_non, deq_int, deq_bl]
  refine ⟨k1, k4, _, _, rfl, rfl, mul_ne0 (den_ne a) (den_ne b), ?_⟩
  have e := timesF_q a b
  unfold timesF at e
  rw [frD_eq, e]
  exact q)
theorem lmul_q {a b : Rat} {m n : Nat} {μ : Mu} {Q : Pst} {X : Xst} (h1 : szQ m a) (h2 : szQ n b) (hb : m + n ≤ 100000000) (q : szQ (m + n) (a * b) → Q (qD (a * b)) μ) : S_law_mul [qD a, qD b] μ Q X := ⟨a, b, m, n, rfl, rfl, h1, h2, hb, q (szQ_mul h1 h2)⟩
def S_law_sub : DSp := sp2 fun x y μ Q _ => ∃ (a b : Rat) (m n : Nat), x = qD a ∧ y = qD b ∧ szQ m a ∧ szQ n b ∧ m + n ≤ 100000000 ∧ Q (qD (a - b)) μ
def N_law_sub : List Str := ["_law_one", "_law_other"]
def m_law_sub : MB := (.cons (.ret (.call "_law_frac" S_law_frac (.cons (.bin .sub (.bin .mul (.ixc (.var 0) 0) (.ixc (.var 1) 1)) (.bin .mul (.ixc (.var 1) 0) (.ixc (.var 0) 1))) (.cons (.bin .mul (.ixc (.var 0) 1) (.ixc (.var 1) 1)) .nil)))) .nil)
theorem w_law_sub : ∀ ds μ Q X, S_law_sub ds μ Q X → ds.length = 2 ∧ wpB m_law_sub (startD 2 ds) μ (enD Q X) := sp2_of (by
  rintro x y μ Q X ⟨a, b, m, n, rfl, rfl, h1, h2, hb, q⟩
  obtain ⟨k1, k2, k3, k4, k5⟩ := mulq h1 h2 (by omega)
  simp only [m_law_sub, wpB, wpS, wpE, wpI, wpA, wpO, wpC, wpL]
  try simp -implicitDefEqProofs only [m_law_sub, fD, wpB, wpS, wpE, wpI, wpA, wpO, wpC, wpL, q_ifD, q_ifB, q_ifL, q_ifR, q_ifIs, q_ifBs, q_asI, q_rg0, q_rgs, q_rs0, q_rss, q_add, q_adds, q_addl, q_addt, q_sub, q_mul, q_fdiv, q_mod, q_pow, q_shl, q_trub, q_trui, q_trun, q_trul, q_eq, q_ne, q_lt, q_le, q_gt, q_ge, q_in, q_nin, q_cis, q_cisnt, q_joinl, q_joint, q_split, q_catll, q_catrl, q_catrr, q_catlr, q_setl, q_strs0, q_strsc, q_ifSs, q_clear, q_reverse, q_revl, q_revt, q_revr, q_eqm, q_nem, q_tupr, q_listr, q_lenr, q_lcf, q_lct, q_abs, q_lent, q_lenl, q_lens, q_sum, q_all, q_any, q_tupl, q_tupt, q_listl, q_listt, q_listMl, q_listMt, q_inti, q_intb, q_stri, q_strs, q_strn, q_strb, q_strt, q_strl, q_max, q_min, q_selt, q_sell, q_selr, q_seIt, q_seIl, q_seIr, q_itt, q_itl, q_bn, q_bt, q_btl, q_ba0, q_bas, q_inT, q_ninT, q_frzr, q_frzl, q_slct, q_slcl, q_slcr, q_slcs, q_trut, q_isn, q_isni, q_isnn, q_isnt, q_isnl, q_isne, q_isns, startD, enD, List.map_cons, List.map_nil, List.length_cons, List.length_nil, List.replicate, List.cons_append, List.nil_append, Nat.reduceAdd, Nat.reduceSub, MT.slots, wipeD, isiD, forW, lcW, Option.toList_some, Option.toList_none, List.append_nil, List.getElem?_cons_zero, List.getElem?_cons_succ, Option.bind_some, mset_same, mset_mset, if_true, if_false, Bool.false_eq_true, reduceIte, Bool.not_true, Bool.not_false, Bool.true_eq_false, true_and, decide_eq_true_eq, fit_int, fit_bl, fit_non, deq_int, deq_bl]
  refine ⟨k2, k3, k4, _, _, rfl, rfl, mul_ne0 (den_ne a) (den_ne b), ?_⟩
  have e := lessF_q a b
  unfold lessF at e
  rw [frD_eq, e]
  exact q)
theorem lsub_q {a b : Rat} {m n : Nat} {μ : Mu} {Q : Pst} {X : Xst} (h1 : szQ m a) (h2 : szQ n b) (hb : m + n ≤ 100000000) (q : szQ (m + n + 1) (a - b) → Q (qD (a - b)) μ) : S_law_sub [qD a, qD b] μ Q X := ⟨a, b, m, n, rfl, rfl, h1, h2, hb, q (szQ_sub h1 h2)⟩
def S_law_by : DSp := sp2 fun x y μ Q _ => ∃ (a b : Rat) (m n : Nat), x = qD a ∧ y = qD b ∧ szQ m a ∧ szQ n b ∧ m + n ≤ 100000000 ∧ b ≠ 0 ∧ Q (qD (a / b)) μ
def N_law_by : List Str := ["_law_one", "_law_other"]
def m_law_by : MB := (.cons (.ret (.call "_law_frac" S_law_frac (.cons (.bin .mul (.ixc (.var 0) 0) (.ixc (.var 1) 1)) (.cons (.bin .mul (.ixc (.var 0) 1) (.ixc (.var 1) 0)) .nil)))) .nil)
theorem w_law_by : ∀ ds μ Q X, S_law_by ds μ Q X → ds.length = 2 ∧ wpB m_law_by (startD 2 ds) μ (enD Q X) := sp2_of (by
  rintro x y μ Q X ⟨a, b, m, n, rfl, rfl, h1, h2, hb, hn, q⟩
  have hn' : b.num ≠ 0 := fun e => hn (num0.mp e)
  obtain ⟨k1, k2, k3, k4, k5⟩ := mulq h1 h2 (by omega)
  simp only [m_law_by, wpB, wpS, wpE, wpI, wpA, wpO, wpC, wpL]
  try simp -implicitDefEqProofs only [m_law_by, fD, wpB, wpS, wpE, wpI, wpA, wpO, wpC, wpL, q_ifD, q_ifB, q_ifL, q_ifR, q_ifIs, q_ifBs, q_asI, q_rg0, q_rgs, q_rs0, q_rss, q_add, q_adds, q_addl, q_addt, q_sub, q_mul, q_fdiv, q_mod, q_pow, q_shl, q_trub, q_trui, q_trun, q_trul, q_eq, q_ne, q_lt, q_le, q_gt, q_ge, q_in, q_nin, q_cis, q_cisnt, q_joinl, q_joint, q_split, q_catll, q_catrl, q_catrr, q_catlr, q_setl, q_strs0, q_strsc, q_ifSs, q_clear, q_reverse, q_revl, q_revt, q_revr, q_eqm, q_nem, q_tupr, q_listr, q_lenr, q_lcf, q_lct, q_abs, q_lent, q_lenl, q_lens, q_sum, q_all, q_any, q_tupl, q_tupt, q_listl, q_listt, q_listMl, q_listMt, q_inti, q_intb, q_stri, q_strs, q_strn, q_strb, q_strt, q_strl, q_max, q_min, q_selt, q_sell, q_selr, q_seIt, q_seIl, q_seIr, q_itt, q_itl, q_bn, q_bt, q_btl, q_ba0, q_bas, q_inT, q_ninT, q_frzr, q_frzl, q_slct, q_slcl, q_slcr, q_slcs, q_trut, q_isn, q_isni, q_isnn, q_isnt, q_isnl, q_isne, q_isns, startD, enD, List.map_cons, List.map_nil, List.length_cons, List.length_nil, List.replicate, List.cons_append, List.nil_append, Nat.reduceAdd, Nat.reduceSub, MT.slots, wipeD, isiD, forW, lcW, Option.toList_some, Option.toList_none, List.append_nil, List.getElem?_cons_zero, List.getElem?_cons_succ, Option.bind_some, mset_same, mset_mset, if_true, if_false, Bool.false_eq_true, reduceIte, Bool.not_true, Bool.not_false, Bool.true_eq_false, true_and, decide_eq_true_eq, fit_int, fit_bl, fit_non, deq_int, deq_bl]
  refine ⟨k2, k5, _, _, rfl, rfl, mul_ne0 (den_ne a) hn', ?_⟩
  have e := byF_q a b hn
  unfold byF at e
  rw [frD_eq, e]
  exact q)
theorem lby_q {a b : Rat} {m n : Nat} {μ : Mu} {Q : Pst} {X : Xst} (h1 : szQ m a) (h2 : szQ n b) (hb : m + n ≤ 100000000) (hn : b ≠ 0) (q : szQ (m + n) (a / b) → Q (qD (a / b)) μ) : S_law_by [qD a, qD b] μ Q X := ⟨a, b, m, n, rfl, rfl, h1, h2, hb, hn, q (szQ_div h1 h2 hn)⟩
def prL (L : List (Rat × Nat)) : Rat := (L.map (·.1)).foldl (· * ·) 1
def szT (L : List (Rat × Nat)) : Nat := (L.map (·.2)).sum + 1
def S_law_all : DSp := sp1 fun x μ Q _ => ∃ L : List (Rat × Nat), x = .lst (L.map fun p => qD p.1) ∧ (∀ p ∈ L, szQ p.2 p.1) ∧ szT L ≤ 50000000 ∧ (szQ (szT L) (prL L) → Q (qD (prL L)) μ)
def N_law_all : List Str := ["_law_fractions", "_law_found", "_law_fraction"]
def m_law_all_2 : MB := (.cons (.ret (.var 1)) .nil)
def m_law_all_1a : MB := (.cons (.asg (.name 1) (.call "_law_mul" S_law_mul (.cons (.var 1) (.cons (.var 2) .nil)))) .nil)
def m_law_all_1 : MB := (.cons (.loop (.name 2) (.seq (.var 0)) m_law_all_1a) m_law_all_2)
def m_law_all : MB := (.cons (.asg (.name 1) (.tup (.cons (.int 1) (.cons (.int 1) .nil)))) m_law_all_1)
-- slots: 0=_law_fractions 1=_law_found 2=_law_fraction
theorem w_law_all : ∀ ds μ Q X, S_law_all ds μ Q X → ds.length = 1 ∧ wpB m_law_all (startD 3 ds) μ (enD Q X) := sp1_of (by
  rintro x μ Q X ⟨L, rfl, hs, hb, q⟩
  simp only [m_law_all, wpB, wpS, wpE, wpI, wpA, wpO, wpC, wpL]
  try simp -implicitDefEqProofs only [m_law_all, wpB, wpS, wpE, wpI, wpA, wpO, wpC, wpL, q_ifD, q_ifB, q_ifL, q_ifR, q_ifIs, q_ifBs, q_asI, q_rg0, q_rgs, q_rs0, q_rss, q_add, q_adds, q_addl, q_addt, q_sub, q_mul, q_fdiv, q_mod, q_pow, q_shl, q_trub, q_trui, q_trun, q_trul, q_eq, q_ne, q_lt, q_le, q_gt, q_ge, q_in, q_nin, q_cis, q_cisnt, q_joinl, q_joint, q_split, q_catll, q_catrl, q_catrr, q_catlr, q_setl, q_strs0, q_strsc, q_ifSs, q_clear, q_reverse, q_revl, q_revt, q_revr, q_eqm, q_nem, q_tupr, q_listr, q_lenr, q_lcf, q_lct, q_abs, q_lent, q_lenl, q_lens, q_sum, q_all, q_any, q_tupl, q_tupt, q_listl, q_listt, q_listMl, q_listMt, q_inti, q_intb, q_stri, q_strs, q_strn, q_strb, q_strt, q_strl, q_max, q_min, q_selt, q_sell, q_selr, q_seIt, q_seIl, q_seIr, q_itt, q_itl, q_bn, q_bt, q_btl, q_ba0, q_bas, q_inT, q_ninT, q_frzr, q_frzl, q_slct, q_slcl, q_slcr, q_slcs, q_trut, q_isn, q_isni, q_isnn, q_isnt, q_isnl, q_isne, q_isns, startD, enD, List.map_cons, List.map_nil, List.length_cons, List.length_nil, List.replicate, List.cons_append, List.nil_append, Nat.reduceAdd, Nat.reduceSub, MT.slots, wipeD, isiD, Option.toList_some, Option.toList_none, List.append_nil, List.getElem?_cons_zero, List.getElem?_cons_succ, Option.bind_some, mset_same, mset_mset, if_true, if_false, Bool.false_eq_true, reduceIte, Bool.not_true, Bool.not_false, Bool.true_eq_false, true_and, decide_eq_true_eq, fit_int, fit_bl, fit_non, deq_int, deq_bl]
  simp only [m_law_all_1, wpB, wpS, wpE, wpI, wpA, wpO, wpC, wpL]
  try simp -implicitDefEqProofs only [m_law_all_1, wpB, wpS, wpE, wpI, wpA, wpO, wpC, wpL, q_ifD, q_ifB, q_ifL, q_ifR, q_ifIs, q_ifBs, q_asI, q_rg0, q_rgs, q_rs0, q_rss, q_add, q_adds, q_addl, q_addt, q_sub, q_mul, q_fdiv, q_mod, q_pow, q_shl, q_trub, q_trui, q_trun, q_trul, q_eq, q_ne, q_lt, q_le, q_gt, q_ge, q_in, q_nin, q_cis, q_cisnt, q_joinl, q_joint, q_split, q_catll, q_catrl, q_catrr, q_catlr, q_setl, q_strs0, q_strsc, q_ifSs, q_clear, q_reverse, q_revl, q_revt, q_revr, q_eqm, q_nem, q_tupr, q_listr, q_lenr, q_lcf, q_lct, q_abs, q_lent, q_lenl, q_lens, q_sum, q_all, q_any, q_tupl, q_tupt, q_listl, q_listt, q_listMl, q_listMt, q_inti, q_intb, q_stri, q_strs, q_strn, q_strb, q_strt, q_strl, q_max, q_min, q_selt, q_sell, q_selr, q_seIt, q_seIl, q_seIr, q_itt, q_itl, q_bn, q_bt, q_btl, q_ba0, q_bas, q_inT, q_ninT, q_frzr, q_frzl, q_slct, q_slcl, q_slcr, q_slcs, q_trut, q_isn, q_isni, q_isnn, q_isnt, q_isnl, q_isne, q_isns, startD, enD, List.map_cons, List.map_nil, List.length_cons, List.length_nil, List.replicate, List.cons_append, List.nil_append, Nat.reduceAdd, Nat.reduceSub, MT.slots, wipeD, isiD, Option.toList_some, Option.toList_none, List.append_nil, List.getElem?_cons_zero, List.getElem?_cons_succ, Option.bind_some, mset_same, mset_mset, if_true, if_false, Bool.false_eq_true, reduceIte, Bool.not_true, Bool.not_false, Bool.true_eq_false, true_and, decide_eq_true_eq, fit_int, fit_bl, fit_non, deq_int, deq_bl]
  refine forW_by (fun ds ρ μ' => ∃ (M N : List (Rat × Nat)) (y : Option D), L = M ++ N ∧ ds = N.map (fun p => qD p.1) ∧ μ' = μ ∧ ρ = [some (.lst (L.map fun p => qD p.1)), some (qD (prL M)), y] ∧ szQ (szT M) (prL M)) ?_ ?_ _ _ _ ⟨[], L, _, rfl, rfl, rfl, rfl, by decide +kernel, by decide +kernel⟩
  · rintro d ds ρ μ' k ⟨M, N, y, e, e2, rfl, rfl, h⟩ hk
    cases N with
    | nil => simp at e2
    | cons p N =>
      simp only [List.map_cons, List.cons.injEq] at e2
      obtain ⟨rfl, rfl⟩ := e2
      have hp := hs p (by rw [e]; simp)
      have hl : szT M + p.2 ≤ 50000000 := by
        unfold szT at hb ⊢
        rw [e] at hb
        simp only [List.map_append, List.sum_append, List.map_cons, List.sum_cons] at hb
        omega
      have e3 : prL (M ++ [p]) = prL M * p.1 := by simp [prL]
      have e4 : szT (M ++ [p]) = szT M + p.2 := by simp [szT]; omega
      simp only [m_law_all_1a, wpB, wpS, wpE, wpI, wpA, wpO, wpC, wpL]
      try simp -implicitDefEqProofs only [m_law_all_1a, wpB, wpS, wpE, wpI, wpA, wpO, wpC, wpL, q_ifD, q_ifB, q_ifL, q_ifR, q_ifIs, q_ifBs, q_asI, q_rg0, q_rgs, q_rs0, q_rss, q_add, q_adds, q_addl, q_addt, q_sub, q_mul, q_fdiv, q_mod, q_pow, q_shl, q_trub, q_trui, q_trun, q_trul, q_eq, q_ne, q_lt, q_le, q_gt, q_ge, q_in, q_nin, q_cis, q_cisnt, q_joinl, q_joint, q_split, q_catll, q_catrl, q_catrr, q_catlr, q_setl, q_strs0, q_strsc, q_ifSs, q_clear, q_reverse, q_revl, q_revt, q_revr, q_eqm, q_nem, q_tupr, q_listr, q_lenr, q_lcf, q_lct, q_abs, q_lent, q_lenl, q_lens, q_sum, q_all, q_any, q_tupl, q_tupt, q_listl, q_listt, q_listMl, q_listMt, q_inti, q_intb, q_stri, q_strs, q_strn, q_strb, q_strt, q_strl, q_max, q_min, q_selt, q_sell, q_selr, q_seIt, q_seIl, q_seIr, q_itt, q_itl, q_bn, q_bt, q_btl, q_ba0, q_bas, q_inT, q_ninT, q_frzr, q_frzl, q_slct, q_slcl, q_slcr, q_slcs, q_trut, q_isn, q_isni, q_isnn, q_isnt, q_isnl, q_isne, q_isns, startD, enD, List.map_cons, List.map_nil, List.length_cons, List.length_nil, List.replicate, List.cons_append, List.nil_append, Nat.reduceAdd, Nat.reduceSub, MT.slots, wipeD, isiD, Option.toList_some, Option.toList_none, List.append_nil, List.getElem?_cons_zero, List.getElem?_cons_succ, Option.bind_some, mset_same, mset_mset, if_true, if_false, Bool.false_eq_true, reduceIte, Bool.not_true, Bool.not_false, Bool.true_eq_false, true_and, decide_eq_true_eq, fit_int, fit_bl, fit_non, deq_int, deq_bl]
      refine lmul_q h hp (by omega) fun h2 => ?_
      rw [← e3] at h2 ⊢
      rw [← e4] at h2
      exact hk _ _ ⟨M ++ [p], N, some (qD p.1), by rw [e]; simp, rfl, rfl, rfl, h2⟩
  · rintro ρ μ' ⟨M, N, y, e, e2, rfl, rfl, h⟩
    cases N with
    | cons => simp at e2
    | nil =>
      rw [List.append_nil] at e
      subst e
      simp only [m_law_all_2, wpB, wpS, wpE, wpI, wpA, wpO, wpC, wpL]
      try simp -implicitDefEqProofs only [m_law_all_2, wpB, wpS, wpE, wpI, wpA, wpO, wpC, wpL, q_ifD, q_ifB, q_ifL, q_ifR, q_ifIs, q_ifBs, q_asI, q_rg0, q_rgs, q_rs0, q_rss, q_add, q_adds, q_addl, q_addt, q_sub, q_mul, q_fdiv, q_mod, q_pow, q_shl, q_trub, q_trui, q_trun, q_trul, q_eq, q_ne, q_lt, q_le, q_gt, q_ge, q_in, q_nin, q_cis, q_cisnt, q_joinl, q_joint, q_split, q_catll, q_catrl, q_catrr, q_catlr, q_setl, q_strs0, q_strsc, q_ifSs, q_clear, q_reverse, q_revl, q_revt, q_revr, q_eqm, q_nem, q_tupr, q_listr, q_lenr, q_lcf, q_lct, q_abs, q_lent, q_lenl, q_lens, q_sum, q_all, q_any, q_tupl, q_tupt, q_listl, q_listt, q_listMl, q_listMt, q_inti, q_intb, q_stri, q_strs, q_strn, q_strb, q_strt, q_strl, q_max, q_min, q_selt, q_sell, q_selr, q_seIt, q_seIl, q_seIr, q_itt, q_itl, q_bn, q_bt, q_btl, q_ba0, q_bas, q_inT, q_ninT, q_frzr, q_frzl, q_slct, q_slcl, q_slcr, q_slcs, q_trut, q_isn, q_isni, q_isnn, q_isnt, q_isnl, q_isne, q_isns, startD, enD, List.map_cons, List.map_nil, List.length_cons, List.length_nil, List.replicate, List.cons_append, List.nil_append, Nat.reduceAdd, Nat.reduceSub, MT.slots, wipeD, isiD, Option.toList_some, Option.toList_none, List.append_nil, List.getElem?_cons_zero, List.getElem?_cons_succ, Option.bind_some, mset_same, mset_mset, if_true, if_false, Bool.false_eq_true, reduceIte, Bool.not_true, Bool.not_false, Bool.true_eq_false, true_and, decide_eq_true_eq, fit_int, fit_bl, fit_non, deq_int, deq_bl]
      exact q h)
theorem lall_q {L : List (Rat × Nat)} {ds : List D} {μ : Mu} {Q : Pst} {X : Xst} (e : ds = L.map fun p => qD p.1) (h : ∀ p ∈ L, szQ p.2 p.1) (hb : szT L ≤ 50000000) (q : szQ (szT L) (prL L) → Q (qD (prL L)) μ) : S_law_all [.lst ds] μ Q X := ⟨L, by rw [e], h, hb, q⟩
def S_law_discriminant : DSp := sp1 fun x μ Q _ => ∃ (c : Rat × Rat × Rat) (n : Nat), x = cuD c ∧ szC n c ∧ n ≤ 1000000 ∧ Q (qD (dsL c.1 c.2.1 c.2.2)) μ
def N_law_discriminant : List Str := ["_law_cubic_here", "_law_found", "_law_g", "_law_h", "_law_k"]
def m_law_discriminant_4 : MB := (.cons (.ret (.call "_law_sub" S_law_sub (.cons (.var 1) (.cons (.call "_law_all" S_law_all (.cons (.lst (.cons (.tup (.cons (.int 27) (.cons (.int 1) .nil))) (.cons (.var 4) (.cons (.var 4) .nil)))) .nil)) .nil)))) .nil)
def m_law_discriminant_3 : MB := (.cons (.asg (.name 1) (.call "_law_add" S_law_add (.cons (.var 1) (.cons (.call "_law_all" S_law_all (.cons (.lst (.cons (.tup (.cons (.int 18) (.cons (.int 1) .nil))) (.cons (.var 2) (.cons (.var 3) (.cons (.var 4) .nil))))) .nil)) .nil)))) m_law_discriminant_4)
def m_law_discriminant_2 : MB := (.cons (.asg (.name 1) (.call "_law_sub" S_law_sub (.cons (.var 1) (.cons (.call "_law_all" S_law_all (.cons (.lst (.cons (.tup (.cons (.int 4) (.cons (.int 1) .nil))) (.cons (.var 4) (.cons (.var 2) (.cons (.var 2) (.cons (.var 2) .nil)))))) .nil)) .nil)))) m_law_discriminant_3)
def m_law_discriminant_1 : MB := (.cons (.asg (.name 1) (.call "_law_sub" S_law_sub (.cons (.call "_law_all" S_law_all (.cons (.lst (.cons (.var 2) (.cons (.var 2) (.cons (.var 3) (.cons (.var 3) .nil))))) .nil)) (.cons (.call "_law_all" S_law_all (.cons (.lst (.cons (.tup (.cons (.int 4) (.cons (.int 1) .nil))) (.cons (.var 3) (.cons (.var 3) (.cons (.var 3) .nil))))) .nil)) .nil)))) m_law_discriminant_2)
def m_law_discriminant : MB := (.cons (.asg (.tup [2, 3, 4]) (.var 0)) m_law_discriminant_1)
-- slots: 0=_law_cubic_here 1=_law_found 2=_law_g 3=_law_h 4=_law_k
theorem w_law_discriminant : ∀ ds μ Q X, S_law_discriminant ds μ Q X → ds.length = 1 ∧ wpB m_law_discriminant (startD 5 ds) μ (enD Q X) := sp1_of (by
  rintro x μ Q X ⟨⟨g, h, k⟩, n, rfl, ⟨sg, sh, sk⟩, hb, q⟩
  have s27 : szQ 5 (27 : Rat) := ⟨by decide +kernel, by decide +kernel⟩
  have s18 : szQ 5 (18 : Rat) := ⟨by decide +kernel, by decide +kernel⟩
  simp only at sg sh sk
  simp only [m_law_discriminant, wpB, wpS, wpE, wpI, wpA, wpO, wpC, wpL]
  try simp -implicitDefEqProofs only [m_law_discriminant, wpB, wpS, wpE, wpI, wpA, wpO, wpC, wpL, q_ifD, q_ifB, q_ifL, q_ifR, q_ifIs, q_ifBs, q_asI, q_rg0, q_rgs, q_rs0, q_rss, q_add, q_adds, q_addl, q_addt, q_sub, q_mul, q_fdiv, q_mod, q_pow, q_shl, q_trub, q_trui, q_trun, q_trul, q_eq, q_ne, q_lt, q_le, q_gt, q_ge, q_in, q_nin, q_cis, q_cisnt, q_joinl, q_joint, q_split, q_catll, q_catrl, q_catrr, q_catlr, q_setl, q_strs0, q_strsc, q_ifSs, q_clear, q_reverse, q_revl, q_revt, q_revr, q_eqm, q_nem, q_tupr, q_listr, q_lenr, q_lcf, q_lct, q_abs, q_lent, q_lenl, q_lens, q_sum, q_all, q_any, q_tupl, q_tupt, q_listl, q_listt, q_listMl, q_listMt, q_inti, q_intb, q_stri, q_strs, q_strn, q_strb, q_strt, q_strl, q_max, q_min, q_selt, q_sell, q_selr, q_seIt, q_seIl, q_seIr, q_itt, q_itl, q_bn, q_bt, q_btl, q_ba0, q_bas, q_inT, q_ninT, q_frzr, q_frzl, q_slct, q_slcl, q_slcr, q_slcs, q_trut, q_isn, q_isni, q_isnn, q_isnt, q_isnl, q_isne, q_isns, startD, enD, List.map_cons, List.map_nil, List.length_cons, List.length_nil, List.replicate, List.cons_append, List.nil_append, Nat.reduceAdd, Nat.reduceSub, MT.slots, wipeD, isiD, Option.toList_some, Option.toList_none, List.append_nil, List.getElem?_cons_zero, List.getElem?_cons_succ, Option.bind_some, mset_same, mset_mset, if_true, if_false, Bool.false_eq_true, reduceIte, Bool.not_true, Bool.not_false, Bool.true_eq_false, true_and, decide_eq_true_eq, fit_int, fit_bl, fit_non, deq_int, deq_bl]
  simp only [m_law_discriminant_1, wpB, wpS, wpE, wpI, wpA, wpO, wpC, wpL]
  try simp -implicitDefEqProofs only [m_law_discriminant_1, wpB, wpS, wpE, wpI, wpA, wpO, wpC, wpL, q_ifD, q_ifB, q_ifL, q_ifR, q_ifIs, q_ifBs, q_asI, q_rg0, q_rgs, q_rs0, q_rss, q_add, q_adds, q_addl, q_addt, q_sub, q_mul, q_fdiv, q_mod, q_pow, q_shl, q_trub, q_trui, q_trun, q_trul, q_eq, q_ne, q_lt, q_le, q_gt, q_ge, q_in, q_nin, q_cis, q_cisnt, q_joinl, q_joint, q_split, q_catll, q_catrl, q_catrr, q_catlr, q_setl, q_strs0, q_strsc, q_ifSs, q_clear, q_reverse, q_revl, q_revt, q_revr, q_eqm, q_nem, q_tupr, q_listr, q_lenr, q_lcf, q_lct, q_abs, q_lent, q_lenl, q_lens, q_sum, q_all, q_any, q_tupl, q_tupt, q_listl, q_listt, q_listMl, q_listMt, q_inti, q_intb, q_stri, q_strs, q_strn, q_strb, q_strt, q_strl, q_max, q_min, q_selt, q_sell, q_selr, q_seIt, q_seIl, q_seIr, q_itt, q_itl, q_bn, q_bt, q_btl, q_ba0, q_bas, q_inT, q_ninT, q_frzr, q_frzl, q_slct, q_slcl, q_slcr, q_slcs, q_trut, q_isn, q_isni, q_isnn, q_isnt, q_isnl, q_isne, q_isns, startD, enD, List.map_cons, List.map_nil, List.length_cons, List.length_nil, List.replicate, List.cons_append, List.nil_append, Nat.reduceAdd, Nat.reduceSub, MT.slots, wipeD, isiD, Option.toList_some, Option.toList_none, List.append_nil, List.getElem?_cons_zero, List.getElem?_cons_succ, Option.bind_some, mset_same, mset_mset, if_true, if_false, Bool.false_eq_true, reduceIte, Bool.not_true, Bool.not_false, Bool.true_eq_false, true_and, decide_eq_true_eq, fit_int, fit_bl, fit_non, deq_int, deq_bl]
  refine lall_q (L := [(g, n), (g, n), (h, n), (h, n)]) rfl (by simp only [List.mem_cons, List.not_mem_nil, or_false]; rintro p (rfl | rfl | rfl | rfl) <;> assumption) (by simp [szT]; omega) fun h1 => ?_
  refine lall_q (L := [(4, 3), (h, n), (h, n), (h, n)]) rfl (by simp only [List.mem_cons, List.not_mem_nil, or_false]; rintro p (rfl | rfl | rfl | rfl) <;> first | assumption | exact s4q) (by simp [szT]; omega) fun h2 => ?_
  refine lsub_q h1 h2 (by simp [szT]; omega) fun h3 => ?_
  simp only [m_law_discriminant_2, wpB, wpS, wpE, wpI, wpA, wpO, wpC, wpL]
  try simp -implicitDefEqProofs only [m_law_discriminant_2, wpB, wpS, wpE, wpI, wpA, wpO, wpC, wpL, q_ifD, q_ifB, q_ifL, q_ifR, q_ifIs, q_ifBs, q_asI, q_rg0, q_rgs, q_rs0, q_rss, q_add, q_adds, q_addl, q_addt, q_sub, q_mul, q_fdiv, q_mod, q_pow, q_shl, q_trub, q_trui, q_trun, q_trul, q_eq, q_ne, q_lt, q_le, q_gt, q_ge, q_in, q_nin, q_cis, q_cisnt, q_joinl, q_joint, q_split, q_catll, q_catrl, q_catrr, q_catlr, q_setl, q_strs0, q_strsc, q_ifSs, q_clear, q_reverse, q_revl, q_revt, q_revr, q_eqm, q_nem, q_tupr, q_listr, q_lenr, q_lcf, q_lct, q_abs, q_lent, q_lenl, q_lens, q_sum, q_all, q_any, q_tupl, q_tupt, q_listl, q_listt, q_listMl, q_listMt, q_inti, q_intb, q_stri, q_strs, q_strn, q_strb, q_strt, q_strl, q_max, q_min, q_selt, q_sell, q_selr, q_seIt, q_seIl, q_seIr, q_itt, q_itl, q_bn, q_bt, q_btl, q_ba0, q_bas, q_inT, q_ninT, q_frzr, q_frzl, q_slct, q_slcl, q_slcr, q_slcs, q_trut, q_isn, q_isni, q_isnn, q_isnt, q_isnl, q_isne, q_isns, startD, enD, List.map_cons, List.map_nil, List.length_cons, List.length_nil, List.replicate, List.cons_append, List.nil_append, Nat.reduceAdd, Nat.reduceSub, MT.slots, wipeD, isiD, Option.toList_some, Option.toList_none, List.append_nil, List.getElem?_cons_zero, List.getElem?_cons_succ, Option.bind_some, mset_same, mset_mset, if_true, if_false, Bool.false_eq_true, reduceIte, Bool.not_true, Bool.not_false, Bool.true_eq_false, true_and, decide_eq_true_eq, fit_int, fit_bl, fit_non, deq_int, deq_bl]
  refine lall_q (L := [(4, 3), (k, n), (g, n), (g, n), (g, n)]) rfl (by simp only [List.mem_cons, List.not_mem_nil, or_false]; rintro p (rfl | rfl | rfl | rfl | rfl) <;> first | assumption | exact s4q) (by simp [szT]; omega) fun h4 => ?_
  refine lsub_q h3 h4 (by simp [szT]; omega) fun h5 => ?_
  simp only [m_law_discriminant_3, wpB, wpS, wpE, wpI, wpA, wpO, wpC, wpL]
  try simp -implicitDefEqProofs only [m_law_discriminant_3, wpB, wpS, wpE, wpI, wpA, wpO, wpC, wpL, q_ifD, q_ifB, q_ifL, q_ifR, q_ifIs, q_ifBs, q_asI, q_rg0, q_rgs, q_rs0, q_rss, q_add, q_adds, q_addl, q_addt, q_sub, q_mul, q_fdiv, q_mod, q_pow, q_shl, q_trub, q_trui, q_trun, q_trul, q_eq, q_ne, q_lt, q_le, q_gt, q_ge, q_in, q_nin, q_cis, q_cisnt, q_joinl, q_joint, q_split, q_catll, q_catrl, q_catrr, q_catlr, q_setl, q_strs0, q_strsc, q_ifSs, q_clear, q_reverse, q_revl, q_revt, q_revr, q_eqm, q_nem, q_tupr, q_listr, q_lenr, q_lcf, q_lct, q_abs, q_lent, q_lenl, q_lens, q_sum, q_all, q_any, q_tupl, q_tupt, q_listl, q_listt, q_listMl, q_listMt, q_inti, q_intb, q_stri, q_strs, q_strn, q_strb, q_strt, q_strl, q_max, q_min, q_selt, q_sell, q_selr, q_seIt, q_seIl, q_seIr, q_itt, q_itl, q_bn, q_bt, q_btl, q_ba0, q_bas, q_inT, q_ninT, q_frzr, q_frzl, q_slct, q_slcl, q_slcr, q_slcs, q_trut, q_isn, q_isni, q_isnn, q_isnt, q_isnl, q_isne, q_isns, startD, enD, List.map_cons, List.map_nil, List.length_cons, List.length_nil, List.replicate, List.cons_append, List.nil_append, Nat.reduceAdd, Nat.reduceSub, MT.slots, wipeD, isiD, Option.toList_some, Option.toList_none, List.append_nil, List.getElem?_cons_zero, List.getElem?_cons_succ, Option.bind_some, mset_same, mset_mset, if_true, if_false, Bool.false_eq_true, reduceIte, Bool.not_true, Bool.not_false, Bool.true_eq_false, true_and, decide_eq_true_eq, fit_int, fit_bl, fit_non, deq_int, deq_bl]
  refine lall_q (L := [(18, 5), (g, n), (h, n), (k, n)]) rfl (by simp only [List.mem_cons, List.not_mem_nil, or_false]; rintro p (rfl | rfl | rfl | rfl) <;> assumption) (by simp [szT]; omega) fun h8 => ?_
  refine ladd_q h5 h8 (by simp [szT]; omega) fun h9 => ?_
  simp only [m_law_discriminant_4, wpB, wpS, wpE, wpI, wpA, wpO, wpC, wpL]
  try simp -implicitDefEqProofs only [m_law_discriminant_4, wpB, wpS, wpE, wpI, wpA, wpO, wpC, wpL, q_ifD, q_ifB, q_ifL, q_ifR, q_ifIs, q_ifBs, q_asI, q_rg0, q_rgs, q_rs0, q_rss, q_add, q_adds, q_addl, q_addt, q_sub, q_mul, q_fdiv, q_mod, q_pow, q_shl, q_trub, q_trui, q_trun, q_trul, q_eq, q_ne, q_lt, q_le, q_gt, q_ge, q_in, q_nin, q_cis, q_cisnt, q_joinl, q_joint, q_split, q_catll, q_catrl, q_catrr, q_catlr, q_setl, q_strs0, q_strsc, q_ifSs, q_clear, q_reverse, q_revl, q_revt, q_revr, q_eqm, q_nem, q_tupr, q_listr, q_lenr, q_lcf, q_lct, q_abs, q_lent, q_lenl, q_lens, q_sum, q_all, q_any, q_tupl, q_tupt, q_listl, q_listt, q_listMl, q_listMt, q_inti, q_intb, q_stri, q_strs, q_strn, q_strb, q_strt, q_strl, q_max, q_min, q_selt, q_sell, q_selr, q_seIt, q_seIl, q_seIr, q_itt, q_itl, q_bn, q_bt, q_btl, q_ba0, q_bas, q_inT, q_ninT, q_frzr, q_frzl, q_slct, q_slcl, q_slcr, q_slcs, q_trut, q_isn, q_isni, q_isnn, q_isnt, q_isnl, q_isne, q_isns, startD, enD, List.map_cons, List.map_nil, List.length_cons, List.length_nil, List.replicate, List.cons_append, List.nil_append, Nat.reduceAdd, Nat.reduceSub, MT.slots, wipeD, isiD, Option.toList_some, Option.toList_none, List.append_nil, List.getElem?_cons_zero, List.getElem?_cons_succ, Option.bind_some, mset_same, mset_mset, if_true, if_false, Bool.false_eq_true, reduceIte, Bool.not_true, Bool.not_false, Bool.true_eq_false, true_and, decide_eq_true_eq, fit_int, fit_bl, fit_non, deq_int, deq_bl]
  refine lall_q (L := [(27, 5), (k, n), (k, n)]) rfl (by simp only [List.mem_cons, List.not_mem_nil, or_false]; rintro p (rfl | rfl | rfl) <;> assumption) (by simp [szT]; omega) fun h6 => ?_
  refine lsub_q h9 h6 (by simp [szT]; omega) fun _ => ?_
  have e : prL [(g, n), (g, n), (h, n), (h, n)] - prL [(4, 3), (h, n), (h, n), (h, n)] - prL [(4, 3), (k, n), (g, n), (g, n), (g, n)] + prL [(18, 5), (g, n), (h, n), (k, n)] - prL [(27, 5), (k, n), (k, n)] = dsL g h k := by
    simp only [prL, dsL, List.map_cons, List.map_nil, List.foldl_cons, List.foldl_nil]
    grind
  rw [e]
  exact q)
theorem ldis_q {c : Rat × Rat × Rat} {n : Nat} {μ : Mu} {Q : Pst} {X : Xst} (s : szC n c) (hb : n ≤ 1000000) (q : Q (qD (dsL c.1 c.2.1 c.2.2)) μ) : S_law_discriminant [cuD c] μ Q X := ⟨c, n, rfl, s, hb, q⟩

theorem dsc_dsL (g h k : Rat) : dsc g h k = dsL g h k := rfl
theorem cubic_by {c : Rat × Rat × Rat} {n : Nat} {μ : Mu} {Q : Pst} {X : Xst} (g : goodC c) (s : szC n c) (hn : n ≤ 100000) (q : Q .non μ) : S_look_at_cubic [cuD c] μ Q X :=
  cub_q s.1 s.2.1 s.2.2 (by omega) (fun h => absurd h (by rw [dsc_dsL]; exact fun h => h.elim g.1 g.2)) fun _ _ => q

/-! spots and their sums -/
def spD : Option Sp → D
  | none => .non
  | some P => .tup [qD P.1, qD P.2]
abbrev spS (P : Sp) : D := .tup [qD P.1, qD P.2]
def szP (n : Nat) (P : Sp) : Prop := szQ n P.1 ∧ szQ n P.2
def szO (n : Nat) : Option Sp → Prop
  | none => True
  | some P => szP n P
theorem szP.up {m n : Nat} {P : Sp} (h : szP m P) (l : m ≤ n) : szP n P := ⟨h.1.up l, h.2.up l⟩
theorem szO.up {m n : Nat} {P : Option Sp} (h : szO m P) (l : m ≤ n) : szO n P := by
  cases P with
  | none => trivial
  | some P => exact szP.up h l
theorem deq_sp (P Q : Sp) : deq (spS P) (spS Q) = decide (P = Q) := by
  rw [deq_tup, ea_cons, ea_cons, ea_nil, deq_q, deq_q]
  by_cases h : P = Q
  · subst h; simp
  · by_cases h1 : P.1 = Q.1
    · have h2 : P.2 ≠ Q.2 := fun e => h (Prod.ext h1 e)
      simp [h, h2]
    · simp [h, h1]
theorem fit_sp (n : Nat) (P : Sp) : fit (n + 2) (spS P) = true := by simp [fit_tup, fit_int]
theorem fit_spD (n : Nat) (P : Option Sp) : fit (n + 2) (spD P) = true := by
  cases P with
  | none => rfl
  | some P => exact fit_sp n P
theorem deq_spD (P Q : Option Sp) : deq (spD P) (spD Q) = decide (P = Q) := by
  cases P with
  | none =>
    cases Q with
    | none => simp [spD, deq_non]
    | some Q => rfl
  | some P =>
    cases Q with
    | none => rfl
    | some Q =>
      show deq (spS P) (spS Q) = _
      rw [deq_sp]
      by_cases h : P = Q <;> simp [h]
theorem spS_inj {P Q : Sp} (e : spS P = spS Q) : P = Q := by
  injection e with e
  simp only [List.cons.injEq, and_true] at e
  exact Prod.ext (qD_inj e.1) (qD_inj e.2)
theorem q_two : D.tup [.int 2, .int 1] = qD 2 := rfl
theorem q_3 : D.tup [.int 3, .int 1] = qD 3 := rfl
theorem sq0 : szQ 1 (0 : Rat) := ⟨by decide +kernel, by decide +kernel⟩
theorem sq1 : szQ 1 (1 : Rat) := ⟨by decide +kernel, by decide +kernel⟩
theorem sq2 : szQ 2 (2 : Rat) := ⟨by decide +kernel, by decide +kernel⟩
theorem sq3 : szQ 2 (3 : Rat) := ⟨by decide +kernel, by decide +kernel⟩
def S_height_at : DSp := sp2 fun x y μ Q _ => ∃ (c : Cub) (t : Rat) (m n : Nat), x = cuD c ∧ y = qD t ∧ szC m c ∧ szQ n t ∧ 10 * n + 10 * m + 40 ≤ 50000000 ∧ (szQ (3 * n + 3 * m + 4) (hgt c t) → Q (qD (hgt c t)) μ)
def N_height_at : List Str := ["cubic", "t", "found", "g", "h", "k"]
def m_height_at_3 : MB := (.cons (.ret (.call "frac_sum" S_frac_sum (.cons (.tup (.cons (.int 1) (.cons (.int 1) .nil))) (.cons (.call "frac_times" S_frac_times (.cons (.var 1) (.cons (.var 2) .nil))) .nil)))) .nil)
def m_height_at_2 : MB := (.cons (.asg (.name 2) (.call "frac_sum" S_frac_sum (.cons (.var 3) (.cons (.call "frac_times" S_frac_times (.cons (.var 1) (.cons (.var 2) .nil))) .nil)))) m_height_at_3)
def m_height_at_1 : MB := (.cons (.asg (.name 2) (.call "frac_sum" S_frac_sum (.cons (.var 4) (.cons (.call "frac_times" S_frac_times (.cons (.var 1) (.cons (.var 5) .nil))) .nil)))) m_height_at_2)
def m_height_at : MB := (.cons (.asg (.tup [3, 4, 5]) (.var 0)) m_height_at_1)
-- slots: 0=cubic 1=t 2=found 3=g 4=h 5=k
theorem w_height_at : ∀ ds μ Q X, S_height_at ds μ Q X → ds.length = 2 ∧ wpB m_height_at (startD 6 ds) μ (enD Q X) := sp2_of (by
  rintro x y μ Q X ⟨c, t, m, n, rfl, rfl, ⟨sg, sh, sk⟩, st, hb, q⟩
  simp only [m_height_at, wpB, wpS, wpE, wpI, wpA, wpO, wpC, wpL]
  try simp -implicitDefEqProofs only [m_height_at, wpB, wpS, wpE, wpI, wpA, wpO, wpC, wpL, q_ifD, q_ifB, q_ifL, q_ifR, q_ifIs, q_ifBs, q_asI, q_rg0, q_rgs, q_rs0, q_rss, q_add, q_adds, q_addl, q_addt, q_sub, q_mul, q_fdiv, q_mod, q_pow, q_shl, q_trub, q_trui, q_trun, q_trul, q_eq, q_ne, q_lt, q_le, q_gt, q_ge, q_in, q_nin, q_cis, q_cisnt, q_joinl, q_joint, q_split, q_catll, q_catrl, q_catrr, q_catlr, q_setl, q_strs0, q_strsc, q_ifSs, q_clear, q_reverse, q_revl, q_revt, q_revr, q_eqm, q_nem, q_tupr, q_listr, q_lenr, q_lcf, q_lct, q_abs, q_lent, q_lenl, q_lens, q_sum, q_all, q_any, q_tupl, q_tupt, q_listl, q_listt, q_listMl, q_listMt, q_inti, q_intb, q_stri, q_strs, q_strn, q_strb, q_strt, q_strl, q_max, q_min, q_selt, q_sell, q_selr, q_seIt, q_seIl, q_seIr, q_itt, q_itl, q_bn, q_bt, q_btl, q_ba0, q_bas, q_inT, q_ninT, q_frzr, q_frzl, q_slct, q_slcl, q_slcr, q_slcs, q_trut, q_isn, q_isni, q_isnn, q_isnt, q_isnl, q_isne, q_isns, startD, enD, List.map_cons, List.map_nil, List.length_cons, List.length_nil, List.replicate, List.cons_append, List.nil_append, Nat.reduceAdd, Nat.reduceSub, MT.slots, wipeD, isiD, Option.toList_some, Option.toList_none, List.append_nil, List.getElem?_cons_zero, List.getElem?_cons_succ, Option.bind_some, mset_same, mset_mset, if_true, if_false, Bool.false_eq_true, reduceIte, Bool.not_true, Bool.not_false, Bool.true_eq_false, true_and, decide_eq_true_eq, fit_int, fit_bl, fit_non, deq_int, deq_bl]
  simp only [m_height_at_1, wpB, wpS, wpE, wpI, wpA, wpO, wpC, wpL]
  try simp -implicitDefEqProofs only [m_height_at_1, wpB, wpS, wpE, wpI, wpA, wpO, wpC, wpL, q_ifD, q_ifB, q_ifL, q_ifR, q_ifIs, q_ifBs, q_asI, q_rg0, q_rgs, q_rs0, q_rss, q_add, q_adds, q_addl, q_addt, q_sub, q_mul, q_fdiv, q_mod, q_pow, q_shl, q_trub, q_trui, q_trun, q_trul, q_eq, q_ne, q_lt, q_le, q_gt, q_ge, q_in, q_nin, q_cis, q_cisnt, q_joinl, q_joint, q_split, q_catll, q_catrl, q_catrr, q_catlr, q_setl, q_strs0, q_strsc, q_ifSs, q_clear, q_reverse, q_revl, q_revt, q_revr, q_eqm, q_nem, q_tupr, q_listr, q_lenr, q_lcf, q_lct, q_abs, q_lent, q_lenl, q_lens, q_sum, q_all, q_any, q_tupl, q_tupt, q_listl, q_listt, q_listMl, q_listMt, q_inti, q_intb, q_stri, q_strs, q_strn, q_strb, q_strt, q_strl, q_max, q_min, q_selt, q_sell, q_selr, q_seIt, q_seIl, q_seIr, q_itt, q_itl, q_bn, q_bt, q_btl, q_ba0, q_bas, q_inT, q_ninT, q_frzr, q_frzl, q_slct, q_slcl, q_slcr, q_slcs, q_trut, q_isn, q_isni, q_isnn, q_isnt, q_isnl, q_isne, q_isns, startD, enD, List.map_cons, List.map_nil, List.length_cons, List.length_nil, List.replicate, List.cons_append, List.nil_append, Nat.reduceAdd, Nat.reduceSub, MT.slots, wipeD, isiD, Option.toList_some, Option.toList_none, List.append_nil, List.getElem?_cons_zero, List.getElem?_cons_succ, Option.bind_some, mset_same, mset_mset, if_true, if_false, Bool.false_eq_true, reduceIte, Bool.not_true, Bool.not_false, Bool.true_eq_false, true_and, decide_eq_true_eq, fit_int, fit_bl, fit_non, deq_int, deq_bl]
  refine times_q st sk (by omega) (by omega) fun z1 => ?_
  refine sum_q sh z1 (by omega) (by omega) fun z2 => ?_
  simp only [m_height_at_2, wpB, wpS, wpE, wpI, wpA, wpO, wpC, wpL]
  try simp -implicitDefEqProofs only [m_height_at_2, wpB, wpS, wpE, wpI, wpA, wpO, wpC, wpL, q_ifD, q_ifB, q_ifL, q_ifR, q_ifIs, q_ifBs, q_asI, q_rg0, q_rgs, q_rs0, q_rss, q_add, q_adds, q_addl, q_addt, q_sub, q_mul, q_fdiv, q_mod, q_pow, q_shl, q_trub, q_trui, q_trun, q_trul, q_eq, q_ne, q_lt, q_le, q_gt, q_ge, q_in, q_nin, q_cis, q_cisnt, q_joinl, q_joint, q_split, q_catll, q_catrl, q_catrr, q_catlr, q_setl, q_strs0, q_strsc, q_ifSs, q_clear, q_reverse, q_revl, q_revt, q_revr, q_eqm, q_nem, q_tupr, q_listr, q_lenr, q_lcf, q_lct, q_abs, q_lent, q_lenl, q_lens, q_sum, q_all, q_any, q_tupl, q_tupt, q_listl, q_listt, q_listMl, q_listMt, q_inti, q_intb, q_stri, q_strs, q_strn, q_strb, q_strt, q_strl, q_max, q_min, q_selt, q_sell, q_selr, q_seIt, q_seIl, q_seIr, q_itt, q_itl, q_bn, q_bt, q_btl, q_ba0, q_bas, q_inT, q_ninT, q_frzr, q_frzl, q_slct, q_slcl, q_slcr, q_slcs, q_trut, q_isn, q_isni, q_isnn, q_isnt, q_isnl, q_isne, q_isns, startD, enD, List.map_cons, List.map_nil, List.length_cons, List.length_nil, List.replicate, List.cons_append, List.nil_append, Nat.reduceAdd, Nat.reduceSub, MT.slots, wipeD, isiD, Option.toList_some, Option.toList_none, List.append_nil, List.getElem?_cons_zero, List.getElem?_cons_succ, Option.bind_some, mset_same, mset_mset, if_true, if_false, Bool.false_eq_true, reduceIte, Bool.not_true, Bool.not_false, Bool.true_eq_false, true_and, decide_eq_true_eq, fit_int, fit_bl, fit_non, deq_int, deq_bl]
  refine times_q st z2 (by omega) (by omega) fun z3 => ?_
  refine sum_q sg z3 (by omega) (by omega) fun z4 => ?_
  simp only [m_height_at_3, wpB, wpS, wpE, wpI, wpA, wpO, wpC, wpL]
  try simp -implicitDefEqProofs only [m_height_at_3, wpB, wpS, wpE, wpI, wpA, wpO, wpC, wpL, q_ifD, q_ifB, q_ifL, q_ifR, q_ifIs, q_ifBs, q_asI, q_rg0, q_rgs, q_rs0, q_rss, q_add, q_adds, q_addl, q_addt, q_sub, q_mul, q_fdiv, q_mod, q_pow, q_shl, q_trub, q_trui, q_trun, q_trul, q_eq, q_ne, q_lt, q_le, q_gt, q_ge, q_in, q_nin, q_cis, q_cisnt, q_joinl, q_joint, q_split, q_catll, q_catrl, q_catrr, q_catlr, q_setl, q_strs0, q_strsc, q_ifSs, q_clear, q_reverse, q_revl, q_revt, q_revr, q_eqm, q_nem, q_tupr, q_listr, q_lenr, q_lcf, q_lct, q_abs, q_lent, q_lenl, q_lens, q_sum, q_all, q_any, q_tupl, q_tupt, q_listl, q_listt, q_listMl, q_listMt, q_inti, q_intb, q_stri, q_strs, q_strn, q_strb, q_strt, q_strl, q_max, q_min, q_selt, q_sell, q_selr, q_seIt, q_seIl, q_seIr, q_itt, q_itl, q_bn, q_bt, q_btl, q_ba0, q_bas, q_inT, q_ninT, q_frzr, q_frzl, q_slct, q_slcl, q_slcr, q_slcs, q_trut, q_isn, q_isni, q_isnn, q_isnt, q_isnl, q_isne, q_isns, startD, enD, List.map_cons, List.map_nil, List.length_cons, List.length_nil, List.replicate, List.cons_append, List.nil_append, Nat.reduceAdd, Nat.reduceSub, MT.slots, wipeD, isiD, Option.toList_some, Option.toList_none, List.append_nil, List.getElem?_cons_zero, List.getElem?_cons_succ, Option.bind_some, mset_same, mset_mset, if_true, if_false, Bool.false_eq_true, reduceIte, Bool.not_true, Bool.not_false, Bool.true_eq_false, true_and, decide_eq_true_eq, fit_int, fit_bl, fit_non, deq_int, deq_bl]
  rw [q_one]
  refine times_q st z4 (by omega) (by omega) fun z5 => ?_
  refine sum_q sq1 z5 (by omega) (by omega) fun z6 => ?_
  exact q (z6.up (by omega)))
def S_are_spot : DSp := sp2 fun x y μ Q _ => ∃ (c : Cub) (m : Nat), x = cuD c ∧ szC m c ∧ fit 59 y = true ∧ (y = .non → Q (.bl true) μ) ∧
  (∀ P, y = spS P → ∃ n, szP n P ∧ 20 * n + 20 * m + 80 ≤ 50000000 ∧ (OnC c P → Q (.bl true) μ) ∧ (¬ OnC c P → Q (.bl false) μ)) ∧ (y ≠ .non → (∀ P, y ≠ spS P) → Q (.bl false) μ)
def N_are_spot : List Str := ["cubic", "thing"]
def m_are_spot_2 : MB := (.cons (.ret (.cmp .eq (.call "frac_times" S_frac_times (.cons (.ixc (.var 1) 1) (.cons (.ixc (.var 1) 1) .nil))) (.call "height_at" S_height_at (.cons (.var 0) (.cons (.ixc (.var 1) 0) .nil))))) .nil)
def m_are_spot_1a : MB := (.cons (.ret (.bl false)) .nil)
def m_are_spot_1 : MB := (.cons (.ite (.bop false (.cons (.nt (.isi (.var 1) .tuple)) (.cons (.cmp .ne (.bl1 .len (.var 1)) (.int 2)) (.cons (.nt (.call "is_fraction" S_is_fraction (.cons (.ixc (.var 1) 0) .nil))) (.cons (.nt (.call "is_fraction" S_is_fraction (.cons (.ixc (.var 1) 1) .nil))) .nil))))) m_are_spot_1a .nil) m_are_spot_2)
def m_are_spot_0a : MB := (.cons (.ret (.bl true)) .nil)
def m_are_spot : MB := (.cons (.ite (.isN true (.var 1)) m_are_spot_0a .nil) m_are_spot_1)
-- slots: 0=cubic 1=thing
theorem w_are_spot : ∀ ds μ Q X, S_are_spot ds μ Q X → ds.length = 2 ∧ wpB m_are_spot (startD 2 ds) μ (enD Q X) := sp2_of (by
  rintro x y μ Q X ⟨c, m, rfl, sc, f, q0, q1, q2⟩
  cases y with
  | exc c => simp [fit] at f
  | ref c => simp [fit] at f
  | non =>
    simp only [m_are_spot, m_are_spot_0a, wpB, wpS, wpE, wpI, wpA, wpO, wpC, wpL]
    try simp -implicitDefEqProofs only [m_are_spot, m_are_spot_0a, wpB, wpS, wpE, wpI, wpA, wpO, wpC, wpL, q_ifD, q_ifB, q_ifL, q_ifR, q_ifIs, q_ifBs, q_asI, q_rg0, q_rgs, q_rs0, q_rss, q_add, q_adds, q_addl, q_addt, q_sub, q_mul, q_fdiv, q_mod, q_pow, q_shl, q_trub, q_trui, q_trun, q_trul, q_eq, q_ne, q_lt, q_le, q_gt, q_ge, q_in, q_nin, q_cis, q_cisnt, q_joinl, q_joint, q_split, q_catll, q_catrl, q_catrr, q_catlr, q_setl, q_strs0, q_strsc, q_ifSs, q_clear, q_reverse, q_revl, q_revt, q_revr, q_eqm, q_nem, q_tupr, q_listr, q_lenr, q_lcf, q_lct, q_abs, q_lent, q_lenl, q_lens, q_sum, q_all, q_any, q_tupl, q_tupt, q_listl, q_listt, q_listMl, q_listMt, q_inti, q_intb, q_stri, q_strs, q_strn, q_strb, q_strt, q_strl, q_max, q_min, q_selt, q_sell, q_selr, q_seIt, q_seIl, q_seIr, q_itt, q_itl, q_bn, q_bt, q_btl, q_ba0, q_bas, q_inT, q_ninT, q_frzr, q_frzl, q_slct, q_slcl, q_slcr, q_slcs, q_trut, q_isn, q_isni, q_isnn, q_isnt, q_isnl, q_isne, q_isns, startD, enD, List.map_cons, List.map_nil, List.length_cons, List.length_nil, List.replicate, List.cons_append, List.nil_append, Nat.reduceAdd, Nat.reduceSub, MT.slots, wipeD, isiD, Option.toList_some, Option.toList_none, List.append_nil, List.getElem?_cons_zero, List.getElem?_cons_succ, Option.bind_some, mset_same, mset_mset, if_true, if_false, Bool.false_eq_true, reduceIte, Bool.not_true, Bool.not_false, Bool.true_eq_false, true_and, decide_eq_true_eq, fit_int, fit_bl, fit_non, deq_int, deq_bl]
    exact q0 rfl
  | tup ds =>
    simp only [m_are_spot, wpB, wpS, wpE, wpI, wpA, wpO, wpC, wpL]
    try simp -implicitDefEqProofs only [m_are_spot, wpB, wpS, wpE, wpI, wpA, wpO, wpC, wpL, q_ifD, q_ifB, q_ifL, q_ifR, q_ifIs, q_ifBs, q_asI, q_rg0, q_rgs, q_rs0, q_rss, q_add, q_adds, q_addl, q_addt, q_sub, q_mul, q_fdiv, q_mod, q_pow, q_shl, q_trub, q_trui, q_trun, q_trul, q_eq, q_ne, q_lt, q_le, q_gt, q_ge, q_in, q_nin, q_cis, q_cisnt, q_joinl, q_joint, q_split, q_catll, q_catrl, q_catrr, q_catlr, q_setl, q_strs0, q_strsc, q_ifSs, q_clear, q_reverse, q_revl, q_revt, q_revr, q_eqm, q_nem, q_tupr, q_listr, q_lenr, q_lcf, q_lct, q_abs, q_lent, q_lenl, q_lens, q_sum, q_all, q_any, q_tupl, q_tupt, q_listl, q_listt, q_listMl, q_listMt, q_inti, q_intb, q_stri, q_strs, q_strn, q_strb, q_strt, q_strl, q_max, q_min, q_selt, q_sell, q_selr, q_seIt, q_seIl, q_seIr, q_itt, q_itl, q_bn, q_bt, q_btl, q_ba0, q_bas, q_inT, q_ninT, q_frzr, q_frzl, q_slct, q_slcl, q_slcr, q_slcs, q_trut, q_isn, q_isni, q_isnn, q_isnt, q_isnl, q_isne, q_isns, startD, enD, List.map_cons, List.map_nil, List.length_cons, List.length_nil, List.replicate, List.cons_append, List.nil_append, Nat.reduceAdd, Nat.reduceSub, MT.slots, wipeD, isiD, Option.toList_some, Option.toList_none, List.append_nil, List.getElem?_cons_zero, List.getElem?_cons_succ, Option.bind_some, mset_same, mset_mset, if_true, if_false, Bool.false_eq_true, reduceIte, Bool.not_true, Bool.not_false, Bool.true_eq_false, true_and, decide_eq_true_eq, fit_int, fit_bl, fit_non, deq_int, deq_bl]
    refine ite_f (by simp) ?_
    simp only [m_are_spot_1, m_are_spot_1a, wpB, wpS, wpE, wpI, wpA, wpO, wpC, wpL]
    try simp -implicitDefEqProofs only [m_are_spot_1, m_are_spot_1a, wpB, wpS, wpE, wpI, wpA, wpO, wpC, wpL, q_ifD, q_ifB, q_ifL, q_ifR, q_ifIs, q_ifBs, q_asI, q_rg0, q_rgs, q_rs0, q_rss, q_add, q_adds, q_addl, q_addt, q_sub, q_mul, q_fdiv, q_mod, q_pow, q_shl, q_trub, q_trui, q_trun, q_trul, q_eq, q_ne, q_lt, q_le, q_gt, q_ge, q_in, q_nin, q_cis, q_cisnt, q_joinl, q_joint, q_split, q_catll, q_catrl, q_catrr, q_catlr, q_setl, q_strs0, q_strsc, q_ifSs, q_clear, q_reverse, q_revl, q_revt, q_revr, q_eqm, q_nem, q_tupr, q_listr, q_lenr, q_lcf, q_lct, q_abs, q_lent, q_lenl, q_lens, q_sum, q_all, q_any, q_tupl, q_tupt, q_listl, q_listt, q_listMl, q_listMt, q_inti, q_intb, q_stri, q_strs, q_strn, q_strb, q_strt, q_strl, q_max, q_min, q_selt, q_sell, q_selr, q_seIt, q_seIl, q_seIr, q_itt, q_itl, q_bn, q_bt, q_btl, q_ba0, q_bas, q_inT, q_ninT, q_frzr, q_frzl, q_slct, q_slcl, q_slcr, q_slcs, q_trut, q_isn, q_isni, q_isnn, q_isnt, q_isnl, q_isne, q_isns, startD, enD, List.map_cons, List.map_nil, List.length_cons, List.length_nil, List.replicate, List.cons_append, List.nil_append, Nat.reduceAdd, Nat.reduceSub, MT.slots, wipeD, isiD, Option.toList_some, Option.toList_none, List.append_nil, List.getElem?_cons_zero, List.getElem?_cons_succ, Option.bind_some, mset_same, mset_mset, if_true, if_false, Bool.false_eq_true, reduceIte, Bool.not_true, Bool.not_false, Bool.true_eq_false, true_and, decide_eq_true_eq, fit_int, fit_bl, fit_non, deq_int, deq_bl]
    by_cases hl : ds.length = 2
    · obtain ⟨x, y, rfl⟩ : ∃ x y, ds = [x, y] := by
        match ds, hl with
        | [x, y], _ => exact ⟨x, y, rfl⟩
      have f1 : fit 59 x = true := fit_up 58 59 x (by decide) (List.all_eq_true.mp f x (by simp))
      have f2 : fit 59 y = true := fit_up 58 59 y (by decide) (List.all_eq_true.mp f y (by simp))
      refine ite_t (by simp) ⟨f1, ?_⟩
      cases h1 : isFr x with
      | false =>
        try simp -implicitDefEqProofs only [wpB, wpS, wpE, wpI, wpA, wpO, wpC, wpL, q_ifD, q_ifB, q_ifL, q_ifR, q_ifIs, q_ifBs, q_asI, q_rg0, q_rgs, q_rs0, q_rss, q_add, q_adds, q_addl, q_addt, q_sub, q_mul, q_fdiv, q_mod, q_pow, q_shl, q_trub, q_trui, q_trun, q_trul, q_eq, q_ne, q_lt, q_le, q_gt, q_ge, q_in, q_nin, q_cis, q_cisnt, q_joinl, q_joint, q_split, q_catll, q_catrl, q_catrr, q_catlr, q_setl, q_strs0, q_strsc, q_ifSs, q_clear, q_reverse, q_revl, q_revt, q_revr, q_eqm, q_nem, q_tupr, q_listr, q_lenr, q_lcf, q_lct, q_abs, q_lent, q_lenl, q_lens, q_sum, q_all, q_any, q_tupl, q_tupt, q_listl, q_listt, q_listMl, q_listMt, q_inti, q_intb, q_stri, q_strs, q_strn, q_strb, q_strt, q_strl, q_max, q_min, q_selt, q_sell, q_selr, q_seIt, q_seIl, q_seIr, q_itt, q_itl, q_bn, q_bt, q_btl, q_ba0, q_bas, q_inT, q_ninT, q_frzr, q_frzl, q_slct, q_slcl, q_slcr, q_slcs, q_trut, q_isn, q_isni, q_isnn, q_isnt, q_isnl, q_isne, q_isns, startD, enD, List.map_cons, List.map_nil, List.length_cons, List.length_nil, List.replicate, List.cons_append, List.nil_append, Nat.reduceAdd, Nat.reduceSub, MT.slots, wipeD, isiD, Option.toList_some, Option.toList_none, List.append_nil, List.getElem?_cons_zero, List.getElem?_cons_succ, Option.bind_some, mset_same, mset_mset, if_true, if_false, Bool.false_eq_true, reduceIte, Bool.not_true, Bool.not_false, Bool.true_eq_false, true_and, decide_eq_true_eq, fit_int, fit_bl, fit_non, deq_int, deq_bl]
        refine q2 (fun e => nomatch e) fun P e => ?_
        injection e with e
        simp only [List.cons.injEq, and_true] at e
        rw [e.1, isFr_q] at h1; cases h1
      | true =>
        try simp -implicitDefEqProofs only [wpB, wpS, wpE, wpI, wpA, wpO, wpC, wpL, q_ifD, q_ifB, q_ifL, q_ifR, q_ifIs, q_ifBs, q_asI, q_rg0, q_rgs, q_rs0, q_rss, q_add, q_adds, q_addl, q_addt, q_sub, q_mul, q_fdiv, q_mod, q_pow, q_shl, q_trub, q_trui, q_trun, q_trul, q_eq, q_ne, q_lt, q_le, q_gt, q_ge, q_in, q_nin, q_cis, q_cisnt, q_joinl, q_joint, q_split, q_catll, q_catrl, q_catrr, q_catlr, q_setl, q_strs0, q_strsc, q_ifSs, q_clear, q_reverse, q_revl, q_revt, q_revr, q_eqm, q_nem, q_tupr, q_listr, q_lenr, q_lcf, q_lct, q_abs, q_lent, q_lenl, q_lens, q_sum, q_all, q_any, q_tupl, q_tupt, q_listl, q_listt, q_listMl, q_listMt, q_inti, q_intb, q_stri, q_strs, q_strn, q_strb, q_strt, q_strl, q_max, q_min, q_selt, q_sell, q_selr, q_seIt, q_seIl, q_seIr, q_itt, q_itl, q_bn, q_bt, q_btl, q_ba0, q_bas, q_inT, q_ninT, q_frzr, q_frzl, q_slct, q_slcl, q_slcr, q_slcs, q_trut, q_isn, q_isni, q_isnn, q_isnt, q_isnl, q_isne, q_isns, startD, enD, List.map_cons, List.map_nil, List.length_cons, List.length_nil, List.replicate, List.cons_append, List.nil_append, Nat.reduceAdd, Nat.reduceSub, MT.slots, wipeD, isiD, Option.toList_some, Option.toList_none, List.append_nil, List.getElem?_cons_zero, List.getElem?_cons_succ, Option.bind_some, mset_same, mset_mset, if_true, if_false, Bool.false_eq_true, reduceIte, Bool.not_true, Bool.not_false, Bool.true_eq_false, true_and, decide_eq_true_eq, fit_int, fit_bl, fit_non, deq_int, deq_bl]
        refine ⟨f2, ?_⟩
        cases h2 : isFr y with
        | false =>
          try simp -implicitDefEqProofs only [wpB, wpS, wpE, wpI, wpA, wpO, wpC, wpL, q_ifD, q_ifB, q_ifL, q_ifR, q_ifIs, q_ifBs, q_asI, q_rg0, q_rgs, q_rs0, q_rss, q_add, q_adds, q_addl, q_addt, q_sub, q_mul, q_fdiv, q_mod, q_pow, q_shl, q_trub, q_trui, q_trun, q_trul, q_eq, q_ne, q_lt, q_le, q_gt, q_ge, q_in, q_nin, q_cis, q_cisnt, q_joinl, q_joint, q_split, q_catll, q_catrl, q_catrr, q_catlr, q_setl, q_strs0, q_strsc, q_ifSs, q_clear, q_reverse, q_revl, q_revt, q_revr, q_eqm, q_nem, q_tupr, q_listr, q_lenr, q_lcf, q_lct, q_abs, q_lent, q_lenl, q_lens, q_sum, q_all, q_any, q_tupl, q_tupt, q_listl, q_listt, q_listMl, q_listMt, q_inti, q_intb, q_stri, q_strs, q_strn, q_strb, q_strt, q_strl, q_max, q_min, q_selt, q_sell, q_selr, q_seIt, q_seIl, q_seIr, q_itt, q_itl, q_bn, q_bt, q_btl, q_ba0, q_bas, q_inT, q_ninT, q_frzr, q_frzl, q_slct, q_slcl, q_slcr, q_slcs, q_trut, q_isn, q_isni, q_isnn, q_isnt, q_isnl, q_isne, q_isns, startD, enD, List.map_cons, List.map_nil, List.length_cons, List.length_nil, List.replicate, List.cons_append, List.nil_append, Nat.reduceAdd, Nat.reduceSub, MT.slots, wipeD, isiD, Option.toList_some, Option.toList_none, List.append_nil, List.getElem?_cons_zero, List.getElem?_cons_succ, Option.bind_some, mset_same, mset_mset, if_true, if_false, Bool.false_eq_true, reduceIte, Bool.not_true, Bool.not_false, Bool.true_eq_false, true_and, decide_eq_true_eq, fit_int, fit_bl, fit_non, deq_int, deq_bl]
          refine q2 (fun e => nomatch e) fun P e => ?_
          injection e with e
          simp only [List.cons.injEq, and_true] at e
          rw [e.2, isFr_q] at h2; cases h2
        | true =>
          obtain ⟨t, rfl⟩ := isFr_isq h1
          obtain ⟨y, rfl⟩ := isFr_isq h2
          obtain ⟨n, sp, hb, r1, r0⟩ := q1 (t, y) rfl
          simp only [m_are_spot_2, wpB, wpS, wpE, wpI, wpA, wpO, wpC, wpL]
          try simp -implicitDefEqProofs only [m_are_spot_2, wpB, wpS, wpE, wpI, wpA, wpO, wpC, wpL, q_ifD, q_ifB, q_ifL, q_ifR, q_ifIs, q_ifBs, q_asI, q_rg0, q_rgs, q_rs0, q_rss, q_add, q_adds, q_addl, q_addt, q_sub, q_mul, q_fdiv, q_mod, q_pow, q_shl, q_trub, q_trui, q_trun, q_trul, q_eq, q_ne, q_lt, q_le, q_gt, q_ge, q_in, q_nin, q_cis, q_cisnt, q_joinl, q_joint, q_split, q_catll, q_catrl, q_catrr, q_catlr, q_setl, q_strs0, q_strsc, q_ifSs, q_clear, q_reverse, q_revl, q_revt, q_revr, q_eqm, q_nem, q_tupr, q_listr, q_lenr, q_lcf, q_lct, q_abs, q_lent, q_lenl, q_lens, q_sum, q_all, q_any, q_tupl, q_tupt, q_listl, q_listt, q_listMl, q_listMt, q_inti, q_intb, q_stri, q_strs, q_strn, q_strb, q_strt, q_strl, q_max, q_min, q_selt, q_sell, q_selr, q_seIt, q_seIl, q_seIr, q_itt, q_itl, q_bn, q_bt, q_btl, q_ba0, q_bas, q_inT, q_ninT, q_frzr, q_frzl, q_slct, q_slcl, q_slcr, q_slcs, q_trut, q_isn, q_isni, q_isnn, q_isnt, q_isnl, q_isne, q_isns, startD, enD, List.map_cons, List.map_nil, List.length_cons, List.length_nil, List.replicate, List.cons_append, List.nil_append, Nat.reduceAdd, Nat.reduceSub, MT.slots, wipeD, isiD, Option.toList_some, Option.toList_none, List.append_nil, List.getElem?_cons_zero, List.getElem?_cons_succ, Option.bind_some, mset_same, mset_mset, if_true, if_false, Bool.false_eq_true, reduceIte, Bool.not_true, Bool.not_false, Bool.true_eq_false, true_and, decide_eq_true_eq, fit_int, fit_bl, fit_non, deq_int, deq_bl]
          refine times_q sp.2 sp.2 (by omega) (by omega) fun z => ?_
          refine ⟨c, t, m, n, rfl, rfl, sc, sp.1, by omega, fun _ => ⟨fit_q _ _, fit_q _ _, ?_⟩⟩
          rw [deq_q]
          by_cases h : y * y = hgt c t
          · rw [decide_eq_true h]; exact r1 h
          · rw [decide_eq_false h]; exact r0 h
    · refine ite_f (by simp; omega) (ite_t (by simp; omega) ?_)
      refine q2 (fun e => nomatch e) fun P e => ?_
      injection e with e
      exact hl (by rw [e]; rfl)
  | _ =>
    simp only [m_are_spot, m_are_spot_1, m_are_spot_1a, wpB, wpS, wpE, wpI, wpA, wpO, wpC, wpL]
    try simp -implicitDefEqProofs only [m_are_spot, m_are_spot_1, m_are_spot_1a, wpB, wpS, wpE, wpI, wpA, wpO, wpC, wpL, q_ifD, q_ifB, q_ifL, q_ifR, q_ifIs, q_ifBs, q_asI, q_rg0, q_rgs, q_rs0, q_rss, q_add, q_adds, q_addl, q_addt, q_sub, q_mul, q_fdiv, q_mod, q_pow, q_shl, q_trub, q_trui, q_trun, q_trul, q_eq, q_ne, q_lt, q_le, q_gt, q_ge, q_in, q_nin, q_cis, q_cisnt, q_joinl, q_joint, q_split, q_catll, q_catrl, q_catrr, q_catlr, q_setl, q_strs0, q_strsc, q_ifSs, q_clear, q_reverse, q_revl, q_revt, q_revr, q_eqm, q_nem, q_tupr, q_listr, q_lenr, q_lcf, q_lct, q_abs, q_lent, q_lenl, q_lens, q_sum, q_all, q_any, q_tupl, q_tupt, q_listl, q_listt, q_listMl, q_listMt, q_inti, q_intb, q_stri, q_strs, q_strn, q_strb, q_strt, q_strl, q_max, q_min, q_selt, q_sell, q_selr, q_seIt, q_seIl, q_seIr, q_itt, q_itl, q_bn, q_bt, q_btl, q_ba0, q_bas, q_inT, q_ninT, q_frzr, q_frzl, q_slct, q_slcl, q_slcr, q_slcs, q_trut, q_isn, q_isni, q_isnn, q_isnt, q_isnl, q_isne, q_isns, startD, enD, List.map_cons, List.map_nil, List.length_cons, List.length_nil, List.replicate, List.cons_append, List.nil_append, Nat.reduceAdd, Nat.reduceSub, MT.slots, wipeD, isiD, Option.toList_some, Option.toList_none, List.append_nil, List.getElem?_cons_zero, List.getElem?_cons_succ, Option.bind_some, mset_same, mset_mset, if_true, if_false, Bool.false_eq_true, reduceIte, Bool.not_true, Bool.not_false, Bool.true_eq_false, true_and, decide_eq_true_eq, fit_int, fit_bl, fit_non, deq_int, deq_bl]
    exact q2 (fun e => nomatch e) fun P e => by cases e)
theorem are_by {c : Cub} {m n : Nat} {P : Option Sp} {μ : Mu} {Q : Pst} {X : Xst} (sc : szC m c) (sp : szO n P) (hb : 20 * n + 20 * m + 80 ≤ 50000000) (h : OnO c P) (q : Q (.bl true) μ) : S_are_spot [cuD c, spD P] μ Q X :=
  ⟨c, m, rfl, sc, fit_spD _ _, fun _ => q, fun P' e => by
    cases P with
    | none => cases e
    | some P =>
      have := spS_inj e
      subst this
      exact ⟨n, sp, hb, fun _ => q, fun z => absurd h z⟩, fun h1 h2 => by
    cases P with
    | none => exact absurd rfl h1
    | some P => exact absurd rfl (h2 P)⟩
def S_look_at_spot : DSp := sp2 fun x y μ Q X => S_are_spot [x, y] μ (fun d μ' => ∃ b, d = .bl b ∧ (b = true → Q .non μ') ∧ (b = false → X c_NoSpot μ')) X
def N_look_at_spot : List Str := ["cubic", "spot"]
def m_look_at_spot_0a : MB := (.cons (.rais 3) .nil)
def m_look_at_spot : MB := (.cons (.ite (.nt (.call "are_spot" S_are_spot (.cons (.var 0) (.cons (.var 1) .nil)))) m_look_at_spot_0a .nil) .nil)
-- slots: 0=cubic 1=spot
theorem w_look_at_spot : ∀ ds μ Q X, S_look_at_spot ds μ Q X → ds.length = 2 ∧ wpB m_look_at_spot (startD 2 ds) μ (enD Q X) := sp2_of (by
  rintro x y μ Q X ⟨c, m, e, sc, f, q0, q1, q2⟩
  simp only [m_look_at_spot, m_look_at_spot_0a, wpB, wpS, wpE, wpI, wpA, wpO, wpC, wpL]
  try simp -implicitDefEqProofs only [m_look_at_spot, m_look_at_spot_0a, wpB, wpS, wpE, wpI, wpA, wpO, wpC, wpL, q_ifD, q_ifB, q_ifL, q_ifR, q_ifIs, q_ifBs, q_asI, q_rg0, q_rgs, q_rs0, q_rss, q_add, q_adds, q_addl, q_addt, q_sub, q_mul, q_fdiv, q_mod, q_pow, q_shl, q_trub, q_trui, q_trun, q_trul, q_eq, q_ne, q_lt, q_le, q_gt, q_ge, q_in, q_nin, q_cis, q_cisnt, q_joinl, q_joint, q_split, q_catll, q_catrl, q_catrr, q_catlr, q_setl, q_strs0, q_strsc, q_ifSs, q_clear, q_reverse, q_revl, q_revt, q_revr, q_eqm, q_nem, q_tupr, q_listr, q_lenr, q_lcf, q_lct, q_abs, q_lent, q_lenl, q_lens, q_sum, q_all, q_any, q_tupl, q_tupt, q_listl, q_listt, q_listMl, q_listMt, q_inti, q_intb, q_stri, q_strs, q_strn, q_strb, q_strt, q_strl, q_max, q_min, q_selt, q_sell, q_selr, q_seIt, q_seIl, q_seIr, q_itt, q_itl, q_bn, q_bt, q_btl, q_ba0, q_bas, q_inT, q_ninT, q_frzr, q_frzl, q_slct, q_slcl, q_slcr, q_slcs, q_trut, q_isn, q_isni, q_isnn, q_isnt, q_isnl, q_isne, q_isns, startD, enD, List.map_cons, List.map_nil, List.length_cons, List.length_nil, List.replicate, List.cons_append, List.nil_append, Nat.reduceAdd, Nat.reduceSub, MT.slots, wipeD, isiD, Option.toList_some, Option.toList_none, List.append_nil, List.getElem?_cons_zero, List.getElem?_cons_succ, Option.bind_some, mset_same, mset_mset, if_true, if_false, Bool.false_eq_true, reduceIte, Bool.not_true, Bool.not_false, Bool.true_eq_false, true_and, decide_eq_true_eq, fit_int, fit_bl, fit_non, deq_int, deq_bl]
  refine ⟨c, m, e, sc, f, fun e => ?_, fun P e => ?_, fun a b => ?_⟩
  · obtain ⟨b, h, k1, k0⟩ := q0 e
    cases h
    try simp -implicitDefEqProofs only [wpB, wpS, wpE, wpI, wpA, wpO, wpC, wpL, q_ifD, q_ifB, q_ifL, q_ifR, q_ifIs, q_ifBs, q_asI, q_rg0, q_rgs, q_rs0, q_rss, q_add, q_adds, q_addl, q_addt, q_sub, q_mul, q_fdiv, q_mod, q_pow, q_shl, q_trub, q_trui, q_trun, q_trul, q_eq, q_ne, q_lt, q_le, q_gt, q_ge, q_in, q_nin, q_cis, q_cisnt, q_joinl, q_joint, q_split, q_catll, q_catrl, q_catrr, q_catlr, q_setl, q_strs0, q_strsc, q_ifSs, q_clear, q_reverse, q_revl, q_revt, q_revr, q_eqm, q_nem, q_tupr, q_listr, q_lenr, q_lcf, q_lct, q_abs, q_lent, q_lenl, q_lens, q_sum, q_all, q_any, q_tupl, q_tupt, q_listl, q_listt, q_listMl, q_listMt, q_inti, q_intb, q_stri, q_strs, q_strn, q_strb, q_strt, q_strl, q_max, q_min, q_selt, q_sell, q_selr, q_seIt, q_seIl, q_seIr, q_itt, q_itl, q_bn, q_bt, q_btl, q_ba0, q_bas, q_inT, q_ninT, q_frzr, q_frzl, q_slct, q_slcl, q_slcr, q_slcs, q_trut, q_isn, q_isni, q_isnn, q_isnt, q_isnl, q_isne, q_isns, startD, enD, List.map_cons, List.map_nil, List.length_cons, List.length_nil, List.replicate, List.cons_append, List.nil_append, Nat.reduceAdd, Nat.reduceSub, MT.slots, wipeD, isiD, Option.toList_some, Option.toList_none, List.append_nil, List.getElem?_cons_zero, List.getElem?_cons_succ, Option.bind_some, mset_same, mset_mset, if_true, if_false, Bool.false_eq_true, reduceIte, Bool.not_true, Bool.not_false, Bool.true_eq_false, true_and, decide_eq_true_eq, fit_int, fit_bl, fit_non, deq_int, deq_bl]
    exact k1 rfl
  · obtain ⟨n, s, hb, r1, r0⟩ := q1 P e
    refine ⟨n, s, hb, fun h => ?_, fun h => ?_⟩
    · obtain ⟨b, h, k1, k0⟩ := r1 h
      cases h
      try simp -implicitDefEqProofs only [wpB, wpS, wpE, wpI, wpA, wpO, wpC, wpL, q_ifD, q_ifB, q_ifL, q_ifR, q_ifIs, q_ifBs, q_asI, q_rg0, q_rgs, q_rs0, q_rss, q_add, q_adds, q_addl, q_addt, q_sub, q_mul, q_fdiv, q_mod, q_pow, q_shl, q_trub, q_trui, q_trun, q_trul, q_eq, q_ne, q_lt, q_le, q_gt, q_ge, q_in, q_nin, q_cis, q_cisnt, q_joinl, q_joint, q_split, q_catll, q_catrl, q_catrr, q_catlr, q_setl, q_strs0, q_strsc, q_ifSs, q_clear, q_reverse, q_revl, q_revt, q_revr, q_eqm, q_nem, q_tupr, q_listr, q_lenr, q_lcf, q_lct, q_abs, q_lent, q_lenl, q_lens, q_sum, q_all, q_any, q_tupl, q_tupt, q_listl, q_listt, q_listMl, q_listMt, q_inti, q_intb, q_stri, q_strs, q_strn, q_strb, q_strt, q_strl, q_max, q_min, q_selt, q_sell, q_selr, q_seIt, q_seIl, q_seIr, q_itt, q_itl, q_bn, q_bt, q_btl, q_ba0, q_bas, q_inT, q_ninT, q_frzr, q_frzl, q_slct, q_slcl, q_slcr, q_slcs, q_trut, q_isn, q_isni, q_isnn, q_isnt, q_isnl, q_isne, q_isns, startD, enD, List.map_cons, List.map_nil, List.length_cons, List.length_nil, List.replicate, List.cons_append, List.nil_append, Nat.reduceAdd, Nat.reduceSub, MT.slots, wipeD, isiD, Option.toList_some, Option.toList_none, List.append_nil, List.getElem?_cons_zero, List.getElem?_cons_succ, Option.bind_some, mset_same, mset_mset, if_true, if_false, Bool.false_eq_true, reduceIte, Bool.not_true, Bool.not_false, Bool.true_eq_false, true_and, decide_eq_true_eq, fit_int, fit_bl, fit_non, deq_int, deq_bl]
      exact k1 rfl
    · obtain ⟨b, h, k1, k0⟩ := r0 h
      cases h
      try simp -implicitDefEqProofs only [wpB, wpS, wpE, wpI, wpA, wpO, wpC, wpL, q_ifD, q_ifB, q_ifL, q_ifR, q_ifIs, q_ifBs, q_asI, q_rg0, q_rgs, q_rs0, q_rss, q_add, q_adds, q_addl, q_addt, q_sub, q_mul, q_fdiv, q_mod, q_pow, q_shl, q_trub, q_trui, q_trun, q_trul, q_eq, q_ne, q_lt, q_le, q_gt, q_ge, q_in, q_nin, q_cis, q_cisnt, q_joinl, q_joint, q_split, q_catll, q_catrl, q_catrr, q_catlr, q_setl, q_strs0, q_strsc, q_ifSs, q_clear, q_reverse, q_revl, q_revt, q_revr, q_eqm, q_nem, q_tupr, q_listr, q_lenr, q_lcf, q_lct, q_abs, q_lent, q_lenl, q_lens, q_sum, q_all, q_any, q_tupl, q_tupt, q_listl, q_listt, q_listMl, q_listMt, q_inti, q_intb, q_stri, q_strs, q_strn, q_strb, q_strt, q_strl, q_max, q_min, q_selt, q_sell, q_selr, q_seIt, q_seIl, q_seIr, q_itt, q_itl, q_bn, q_bt, q_btl, q_ba0, q_bas, q_inT, q_ninT, q_frzr, q_frzl, q_slct, q_slcl, q_slcr, q_slcs, q_trut, q_isn, q_isni, q_isnn, q_isnt, q_isnl, q_isne, q_isns, startD, enD, List.map_cons, List.map_nil, List.length_cons, List.length_nil, List.replicate, List.cons_append, List.nil_append, Nat.reduceAdd, Nat.reduceSub, MT.slots, wipeD, isiD, Option.toList_some, Option.toList_none, List.append_nil, List.getElem?_cons_zero, List.getElem?_cons_succ, Option.bind_some, mset_same, mset_mset, if_true, if_false, Bool.false_eq_true, reduceIte, Bool.not_true, Bool.not_false, Bool.true_eq_false, true_and, decide_eq_true_eq, fit_int, fit_bl, fit_non, deq_int, deq_bl]
      exact k0 rfl
  · obtain ⟨b, h, k1, k0⟩ := q2 a b
    cases h
    try simp -implicitDefEqProofs only [wpB, wpS, wpE, wpI, wpA, wpO, wpC, wpL, q_ifD, q_ifB, q_ifL, q_ifR, q_ifIs, q_ifBs, q_asI, q_rg0, q_rgs, q_rs0, q_rss, q_add, q_adds, q_addl, q_addt, q_sub, q_mul, q_fdiv, q_mod, q_pow, q_shl, q_trub, q_trui, q_trun, q_trul, q_eq, q_ne, q_lt, q_le, q_gt, q_ge, q_in, q_nin, q_cis, q_cisnt, q_joinl, q_joint, q_split, q_catll, q_catrl, q_catrr, q_catlr, q_setl, q_strs0, q_strsc, q_ifSs, q_clear, q_reverse, q_revl, q_revt, q_revr, q_eqm, q_nem, q_tupr, q_listr, q_lenr, q_lcf, q_lct, q_abs, q_lent, q_lenl, q_lens, q_sum, q_all, q_any, q_tupl, q_tupt, q_listl, q_listt, q_listMl, q_listMt, q_inti, q_intb, q_stri, q_strs, q_strn, q_strb, q_strt, q_strl, q_max, q_min, q_selt, q_sell, q_selr, q_seIt, q_seIl, q_seIr, q_itt, q_itl, q_bn, q_bt, q_btl, q_ba0, q_bas, q_inT, q_ninT, q_frzr, q_frzl, q_slct, q_slcl, q_slcr, q_slcs, q_trut, q_isn, q_isni, q_isnn, q_isnt, q_isnl, q_isne, q_isns, startD, enD, List.map_cons, List.map_nil, List.length_cons, List.length_nil, List.replicate, List.cons_append, List.nil_append, Nat.reduceAdd, Nat.reduceSub, MT.slots, wipeD, isiD, Option.toList_some, Option.toList_none, List.append_nil, List.getElem?_cons_zero, List.getElem?_cons_succ, Option.bind_some, mset_same, mset_mset, if_true, if_false, Bool.false_eq_true, reduceIte, Bool.not_true, Bool.not_false, Bool.true_eq_false, true_and, decide_eq_true_eq, fit_int, fit_bl, fit_non, deq_int, deq_bl]
    exact k0 rfl)
theorem look_spot {c : Cub} {m n : Nat} {P : Option Sp} {μ : Mu} {Q : Pst} {X : Xst} (sc : szC m c) (sp : szO n P) (hb : 20 * n + 20 * m + 80 ≤ 50000000) (h : OnO c P) (q : Q .non μ) : S_look_at_spot [cuD c, spD P] μ Q X :=
  are_by (Q := fun d μ' => ∃ b, d = .bl b ∧ (b = true → Q .non μ') ∧ (b = false → X c_NoSpot μ')) (X := X) sc sp hb h ⟨true, rfl, fun _ => q, fun e => by cases e⟩
theorem neg_qs (b : Rat) : D.tup [.int (0 - b.num), .int (b.den : Int)] = qD (0 - b) := by
  have e : 0 - b = -b := by grind
  have h1 : (-b).num = 0 - b.num := by rw [Rat.neg_num]; omega
  have h2 : (-b).den = b.den := Rat.neg_den b
  rw [e]
  simp only [qD, fD, h1, h2]
def S_slope_at : DSp := sp3 fun x y z μ Q _ => ∃ (c : Cub) (P R : Sp) (m n : Nat), x = cuD c ∧ y = spS P ∧ z = spS R ∧ szC m c ∧ szP n P ∧ szP n R ∧ 20 * n + 20 * m + 80 ≤ 50000000 ∧ (P ≠ R → R.1 - P.1 ≠ 0) ∧ (P = R → P.2 ≠ 0) ∧ (szQ (4 * n + 3 * m + 12) (slp c P R) → Q (qD (slp c P R)) μ)
def N_slope_at : List Str := ["cubic", "one", "other", "t", "rise", "g", "h", "k"]
def m_slope_at_4 : MB := (.cons (.ret (.call "frac_by" S_frac_by (.cons (.call "frac_sum" S_frac_sum (.cons (.var 5) (.cons (.call "frac_times" S_frac_times (.cons (.var 3) (.cons (.var 4) .nil))) .nil))) (.cons (.call "frac_times" S_frac_times (.cons (.tup (.cons (.int 2) (.cons (.int 1) .nil))) (.cons (.ixc (.var 1) 1) .nil))) .nil)))) .nil)
def m_slope_at_3 : MB := (.cons (.asg (.name 4) (.call "frac_sum" S_frac_sum (.cons (.call "frac_times" S_frac_times (.cons (.tup (.cons (.int 2) (.cons (.int 1) .nil))) (.cons (.var 6) .nil))) (.cons (.call "frac_times" S_frac_times (.cons (.tup (.cons (.int 3) (.cons (.int 1) .nil))) (.cons (.call "frac_times" S_frac_times (.cons (.var 3) (.cons (.var 7) .nil))) .nil))) .nil)))) m_slope_at_4)
def m_slope_at_2 : MB := (.cons (.asg (.name 3) (.ixc (.var 1) 0)) m_slope_at_3)
def m_slope_at_1 : MB := (.cons (.asg (.tup [5, 6, 7]) (.var 0)) m_slope_at_2)
def m_slope_at_0a : MB := (.cons (.ret (.call "frac_by" S_frac_by (.cons (.call "frac_less" S_frac_less (.cons (.ixc (.var 2) 1) (.cons (.ixc (.var 1) 1) .nil))) (.cons (.call "frac_less" S_frac_less (.cons (.ixc (.var 2) 0) (.cons (.ixc (.var 1) 0) .nil))) .nil)))) .nil)
def m_slope_at : MB := (.cons (.ite (.cmp .ne (.var 1) (.var 2)) m_slope_at_0a .nil) m_slope_at_1)
-- slots: 0=cubic 1=one 2=other 3=t 4=rise 5=g 6=h 7=k
theorem w_slope_at : ∀ ds μ Q X, S_slope_at ds μ Q X → ds.length = 3 ∧ wpB m_slope_at (startD 8 ds) μ (enD Q X) := sp3_of (by
  rintro x y z μ Q X ⟨c, P, R, m, n, rfl, rfl, rfl, ⟨sg, sh, sk⟩, sp, sr, hb, n1, n0, q⟩
  simp only [m_slope_at, wpB, wpS, wpE, wpI, wpA, wpO, wpC, wpL]
  try simp -implicitDefEqProofs only [m_slope_at, wpB, wpS, wpE, wpI, wpA, wpO, wpC, wpL, q_ifD, q_ifB, q_ifL, q_ifR, q_ifIs, q_ifBs, q_asI, q_rg0, q_rgs, q_rs0, q_rss, q_add, q_adds, q_addl, q_addt, q_sub, q_mul, q_fdiv, q_mod, q_pow, q_shl, q_trub, q_trui, q_trun, q_trul, q_eq, q_ne, q_lt, q_le, q_gt, q_ge, q_in, q_nin, q_cis, q_cisnt, q_joinl, q_joint, q_split, q_catll, q_catrl, q_catrr, q_catlr, q_setl, q_strs0, q_strsc, q_ifSs, q_clear, q_reverse, q_revl, q_revt, q_revr, q_eqm, q_nem, q_tupr, q_listr, q_lenr, q_lcf, q_lct, q_abs, q_lent, q_lenl, q_lens, q_sum, q_all, q_any, q_tupl, q_tupt, q_listl, q_listt, q_listMl, q_listMt, q_inti, q_intb, q_stri, q_strs, q_strn, q_strb, q_strt, q_strl, q_max, q_min, q_selt, q_sell, q_selr, q_seIt, q_seIl, q_seIr, q_itt, q_itl, q_bn, q_bt, q_btl, q_ba0, q_bas, q_inT, q_ninT, q_frzr, q_frzl, q_slct, q_slcl, q_slcr, q_slcs, q_trut, q_isn, q_isni, q_isnn, q_isnt, q_isnl, q_isne, q_isns, startD, enD, List.map_cons, List.map_nil, List.length_cons, List.length_nil, List.replicate, List.cons_append, List.nil_append, Nat.reduceAdd, Nat.reduceSub, MT.slots, wipeD, isiD, Option.toList_some, Option.toList_none, List.append_nil, List.getElem?_cons_zero, List.getElem?_cons_succ, Option.bind_some, mset_same, mset_mset, if_true, if_false, Bool.false_eq_true, reduceIte, Bool.not_true, Bool.not_false, Bool.true_eq_false, true_and, decide_eq_true_eq, fit_int, fit_bl, fit_non, deq_int, deq_bl]
  refine ⟨fit_sp _ _, fit_sp _ _, ?_⟩
  rw [deq_sp]
  by_cases e : P = R
  · refine ite_f (by simp [e]) ?_
    have hs : slp c P R = (c.1 + P.1 * (2 * c.2.1 + 3 * (P.1 * c.2.2))) / (2 * P.2) := by unfold slp; rw [if_pos e]
    simp only [m_slope_at_1, wpB, wpS, wpE, wpI, wpA, wpO, wpC, wpL]
    try simp -implicitDefEqProofs only [m_slope_at_1, wpB, wpS, wpE, wpI, wpA, wpO, wpC, wpL, q_ifD, q_ifB, q_ifL, q_ifR, q_ifIs, q_ifBs, q_asI, q_rg0, q_rgs, q_rs0, q_rss, q_add, q_adds, q_addl, q_addt, q_sub, q_mul, q_fdiv, q_mod, q_pow, q_shl, q_trub, q_trui, q_trun, q_trul, q_eq, q_ne, q_lt, q_le, q_gt, q_ge, q_in, q_nin, q_cis, q_cisnt, q_joinl, q_joint, q_split, q_catll, q_catrl, q_catrr, q_catlr, q_setl, q_strs0, q_strsc, q_ifSs, q_clear, q_reverse, q_revl, q_revt, q_revr, q_eqm, q_nem, q_tupr, q_listr, q_lenr, q_lcf, q_lct, q_abs, q_lent, q_lenl, q_lens, q_sum, q_all, q_any, q_tupl, q_tupt, q_listl, q_listt, q_listMl, q_listMt, q_inti, q_intb, q_stri, q_strs, q_strn, q_strb, q_strt, q_strl, q_max, q_min, q_selt, q_sell, q_selr, q_seIt, q_seIl, q_seIr, q_itt, q_itl, q_bn, q_bt, q_btl, q_ba0, q_bas, q_inT, q_ninT, q_frzr, q_frzl, q_slct, q_slcl, q_slcr, q_slcs, q_trut, q_isn, q_isni, q_isnn, q_isnt, q_isnl, q_isne, q_isns, startD, enD, List.map_cons, List.map_nil, List.length_cons, List.length_nil, List.replicate, List.cons_append, List.nil_append, Nat.reduceAdd, Nat.reduceSub, MT.slots, wipeD, isiD, Option.toList_some, Option.toList_none, List.append_nil, List.getElem?_cons_zero, List.getElem?_cons_succ, Option.bind_some, mset_same, mset_mset, if_true, if_false, Bool.false_eq_true, reduceIte, Bool.not_true, Bool.not_false, Bool.true_eq_false, true_and, decide_eq_true_eq, fit_int, fit_bl, fit_non, deq_int, deq_bl]
    simp only [m_slope_at_2, wpB, wpS, wpE, wpI, wpA, wpO, wpC, wpL]
    try simp -implicitDefEqProofs only [m_slope_at_2, wpB, wpS, wpE, wpI, wpA, wpO, wpC, wpL, q_ifD, q_ifB, q_ifL, q_ifR, q_ifIs, q_ifBs, q_asI, q_rg0, q_rgs, q_rs0, q_rss, q_add, q_adds, q_addl, q_addt, q_sub, q_mul, q_fdiv, q_mod, q_pow, q_shl, q_trub, q_trui, q_trun, q_trul, q_eq, q_ne, q_lt, q_le, q_gt, q_ge, q_in, q_nin, q_cis, q_cisnt, q_joinl, q_joint, q_split, q_catll, q_catrl, q_catrr, q_catlr, q_setl, q_strs0, q_strsc, q_ifSs, q_clear, q_reverse, q_revl, q_revt, q_revr, q_eqm, q_nem, q_tupr, q_listr, q_lenr, q_lcf, q_lct, q_abs, q_lent, q_lenl, q_lens, q_sum, q_all, q_any, q_tupl, q_tupt, q_listl, q_listt, q_listMl, q_listMt, q_inti, q_intb, q_stri, q_strs, q_strn, q_strb, q_strt, q_strl, q_max, q_min, q_selt, q_sell, q_selr, q_seIt, q_seIl, q_seIr, q_itt, q_itl, q_bn, q_bt, q_btl, q_ba0, q_bas, q_inT, q_ninT, q_frzr, q_frzl, q_slct, q_slcl, q_slcr, q_slcs, q_trut, q_isn, q_isni, q_isnn, q_isnt, q_isnl, q_isne, q_isns, startD, enD, List.map_cons, List.map_nil, List.length_cons, List.length_nil, List.replicate, List.cons_append, List.nil_append, Nat.reduceAdd, Nat.reduceSub, MT.slots, wipeD, isiD, Option.toList_some, Option.toList_none, List.append_nil, List.getElem?_cons_zero, List.getElem?_cons_succ, Option.bind_some, mset_same, mset_mset, if_true, if_false, Bool.false_eq_true, reduceIte, Bool.not_true, Bool.not_false, Bool.true_eq_false, true_and, decide_eq_true_eq, fit_int, fit_bl, fit_non, deq_int, deq_bl]
    simp only [m_slope_at_3, wpB, wpS, wpE, wpI, wpA, wpO, wpC, wpL]
    try simp -implicitDefEqProofs only [m_slope_at_3, wpB, wpS, wpE, wpI, wpA, wpO, wpC, wpL, q_ifD, q_ifB, q_ifL, q_ifR, q_ifIs, q_ifBs, q_asI, q_rg0, q_rgs, q_rs0, q_rss, q_add, q_adds, q_addl, q_addt, q_sub, q_mul, q_fdiv, q_mod, q_pow, q_shl, q_trub, q_trui, q_trun, q_trul, q_eq, q_ne, q_lt, q_le, q_gt, q_ge, q_in, q_nin, q_cis, q_cisnt, q_joinl, q_joint, q_split, q_catll, q_catrl, q_catrr, q_catlr, q_setl, q_strs0, q_strsc, q_ifSs, q_clear, q_reverse, q_revl, q_revt, q_revr, q_eqm, q_nem, q_tupr, q_listr, q_lenr, q_lcf, q_lct, q_abs, q_lent, q_lenl, q_lens, q_sum, q_all, q_any, q_tupl, q_tupt, q_listl, q_listt, q_listMl, q_listMt, q_inti, q_intb, q_stri, q_strs, q_strn, q_strb, q_strt, q_strl, q_max, q_min, q_selt, q_sell, q_selr, q_seIt, q_seIl, q_seIr, q_itt, q_itl, q_bn, q_bt, q_btl, q_ba0, q_bas, q_inT, q_ninT, q_frzr, q_frzl, q_slct, q_slcl, q_slcr, q_slcs, q_trut, q_isn, q_isni, q_isnn, q_isnt, q_isnl, q_isne, q_isns, startD, enD, List.map_cons, List.map_nil, List.length_cons, List.length_nil, List.replicate, List.cons_append, List.nil_append, Nat.reduceAdd, Nat.reduceSub, MT.slots, wipeD, isiD, Option.toList_some, Option.toList_none, List.append_nil, List.getElem?_cons_zero, List.getElem?_cons_succ, Option.bind_some, mset_same, mset_mset, if_true, if_false, Bool.false_eq_true, reduceIte, Bool.not_true, Bool.not_false, Bool.true_eq_false, true_and, decide_eq_true_eq, fit_int, fit_bl, fit_non, deq_int, deq_bl]
    rw [q_two, q_3]
    refine times_q sq2 sh (by omega) (by omega) fun z1 => ?_
    refine times_q sp.1 sk (by omega) (by omega) fun z2 => ?_
    refine times_q sq3 z2 (by omega) (by omega) fun z3 => ?_
    refine sum_q z1 z3 (by omega) (by omega) fun z4 => ?_
    simp only [m_slope_at_4, wpB, wpS, wpE, wpI, wpA, wpO, wpC, wpL]
    try simp -implicitDefEqProofs only [m_slope_at_4, wpB, wpS, wpE, wpI, wpA, wpO, wpC, wpL, q_ifD, q_ifB, q_ifL, q_ifR, q_ifIs, q_ifBs, q_asI, q_rg0, q_rgs, q_rs0, q_rss, q_add, q_adds, q_addl, q_addt, q_sub, q_mul, q_fdiv, q_mod, q_pow, q_shl, q_trub, q_trui, q_trun, q_trul, q_eq, q_ne, q_lt, q_le, q_gt, q_ge, q_in, q_nin, q_cis, q_cisnt, q_joinl, q_joint, q_split, q_catll, q_catrl, q_catrr, q_catlr, q_setl, q_strs0, q_strsc, q_ifSs, q_clear, q_reverse, q_revl, q_revt, q_revr, q_eqm, q_nem, q_tupr, q_listr, q_lenr, q_lcf, q_lct, q_abs, q_lent, q_lenl, q_lens, q_sum, q_all, q_any, q_tupl, q_tupt, q_listl, q_listt, q_listMl, q_listMt, q_inti, q_intb, q_stri, q_strs, q_strn, q_strb, q_strt, q_strl, q_max, q_min, q_selt, q_sell, q_selr, q_seIt, q_seIl, q_seIr, q_itt, q_itl, q_bn, q_bt, q_btl, q_ba0, q_bas, q_inT, q_ninT, q_frzr, q_frzl, q_slct, q_slcl, q_slcr, q_slcs, q_trut, q_isn, q_isni, q_isnn, q_isnt, q_isnl, q_isne, q_isns, startD, enD, List.map_cons, List.map_nil, List.length_cons, List.length_nil, List.replicate, List.cons_append, List.nil_append, Nat.reduceAdd, Nat.reduceSub, MT.slots, wipeD, isiD, Option.toList_some, Option.toList_none, List.append_nil, List.getElem?_cons_zero, List.getElem?_cons_succ, Option.bind_some, mset_same, mset_mset, if_true, if_false, Bool.false_eq_true, reduceIte, Bool.not_true, Bool.not_false, Bool.true_eq_false, true_and, decide_eq_true_eq, fit_int, fit_bl, fit_non, deq_int, deq_bl]
    rw [q_two]
    refine times_q sp.1 z4 (by omega) (by omega) fun z5 => ?_
    refine sum_q sg z5 (by omega) (by omega) fun z6 => ?_
    refine times_q sq2 sp.2 (by omega) (by omega) fun z7 => ?_
    refine by_q z6 z7 (by omega) (by omega) (two_ne (n0 e)) fun z8 => ?_
    rw [hs] at q
    exact q (z8.up (by omega))
  · refine ite_t (by simp [e]) ?_
    have hs : slp c P R = (R.2 - P.2) / (R.1 - P.1) := by unfold slp; rw [if_neg e]
    simp only [m_slope_at_0a, wpB, wpS, wpE, wpI, wpA, wpO, wpC, wpL]
    try simp -implicitDefEqProofs only [m_slope_at_0a, wpB, wpS, wpE, wpI, wpA, wpO, wpC, wpL, q_ifD, q_ifB, q_ifL, q_ifR, q_ifIs, q_ifBs, q_asI, q_rg0, q_rgs, q_rs0, q_rss, q_add, q_adds, q_addl, q_addt, q_sub, q_mul, q_fdiv, q_mod, q_pow, q_shl, q_trub, q_trui, q_trun, q_trul, q_eq, q_ne, q_lt, q_le, q_gt, q_ge, q_in, q_nin, q_cis, q_cisnt, q_joinl, q_joint, q_split, q_catll, q_catrl, q_catrr, q_catlr, q_setl, q_strs0, q_strsc, q_ifSs, q_clear, q_reverse, q_revl, q_revt, q_revr, q_eqm, q_nem, q_tupr, q_listr, q_lenr, q_lcf, q_lct, q_abs, q_lent, q_lenl, q_lens, q_sum, q_all, q_any, q_tupl, q_tupt, q_listl, q_listt, q_listMl, q_listMt, q_inti, q_intb, q_stri, q_strs, q_strn, q_strb, q_strt, q_strl, q_max, q_min, q_selt, q_sell, q_selr, q_seIt, q_seIl, q_seIr, q_itt, q_itl, q_bn, q_bt, q_btl, q_ba0, q_bas, q_inT, q_ninT, q_frzr, q_frzl, q_slct, q_slcl, q_slcr, q_slcs, q_trut, q_isn, q_isni, q_isnn, q_isnt, q_isnl, q_isne, q_isns, startD, enD, List.map_cons, List.map_nil, List.length_cons, List.length_nil, List.replicate, List.cons_append, List.nil_append, Nat.reduceAdd, Nat.reduceSub, MT.slots, wipeD, isiD, Option.toList_some, Option.toList_none, List.append_nil, List.getElem?_cons_zero, List.getElem?_cons_succ, Option.bind_some, mset_same, mset_mset, if_true, if_false, Bool.false_eq_true, reduceIte, Bool.not_true, Bool.not_false, Bool.true_eq_false, true_and, decide_eq_true_eq, fit_int, fit_bl, fit_non, deq_int, deq_bl]
    refine less_q sr.2 sp.2 (by omega) (by omega) fun z1 => ?_
    refine less_q sr.1 sp.1 (by omega) (by omega) fun z2 => ?_
    refine by_q z1 z2 (by omega) (by omega) (n1 e) fun z3 => ?_
    rw [hs] at q
    exact q (z3.up (by omega)))
def S_turned : DSp := sp1 fun x μ Q _ => ∃ (P : Option Sp) (n : Nat), x = spD P ∧ szO n P ∧ n ≤ 40000000 ∧ Q (spD (ngO P)) μ
def N_turned : List Str := ["spot"]
def m_turned_1 : MB := (.cons (.ret (.tup (.cons (.ixc (.var 0) 0) (.cons (.call "frac_less" S_frac_less (.cons (.glob "NOTHING" (.tup [(.int 0), (.int 1)])) (.cons (.ixc (.var 0) 1) .nil))) .nil)))) .nil)
def m_turned_0a : MB := (.cons (.ret .non) .nil)
def m_turned : MB := (.cons (.ite (.isN true (.var 0)) m_turned_0a .nil) m_turned_1)
-- slots: 0=spot
theorem w_turned : ∀ ds μ Q X, S_turned ds μ Q X → ds.length = 1 ∧ wpB m_turned (startD 1 ds) μ (enD Q X) := sp1_of (by
  rintro x μ Q X ⟨P, n, rfl, sp, hb, q⟩
  cases P with
  | none =>
    simp only [m_turned, m_turned_0a, wpB, wpS, wpE, wpI, wpA, wpO, wpC, wpL]
    try simp -implicitDefEqProofs only [m_turned, m_turned_0a, spD, wpB, wpS, wpE, wpI, wpA, wpO, wpC, wpL, q_ifD, q_ifB, q_ifL, q_ifR, q_ifIs, q_ifBs, q_asI, q_rg0, q_rgs, q_rs0, q_rss, q_add, q_adds, q_addl, q_addt, q_sub, q_mul, q_fdiv, q_mod, q_pow, q_shl, q_trub, q_trui, q_trun, q_trul, q_eq, q_ne, q_lt, q_le, q_gt, q_ge, q_in, q_nin, q_cis, q_cisnt, q_joinl, q_joint, q_split, q_catll, q_catrl, q_catrr, q_catlr, q_setl, q_strs0, q_strsc, q_ifSs, q_clear, q_reverse, q_revl, q_revt, q_revr, q_eqm, q_nem, q_tupr, q_listr, q_lenr, q_lcf, q_lct, q_abs, q_lent, q_lenl, q_lens, q_sum, q_all, q_any, q_tupl, q_tupt, q_listl, q_listt, q_listMl, q_listMt, q_inti, q_intb, q_stri, q_strs, q_strn, q_strb, q_strt, q_strl, q_max, q_min, q_selt, q_sell, q_selr, q_seIt, q_seIl, q_seIr, q_itt, q_itl, q_bn, q_bt, q_btl, q_ba0, q_bas, q_inT, q_ninT, q_frzr, q_frzl, q_slct, q_slcl, q_slcr, q_slcs, q_trut, q_isn, q_isni, q_isnn, q_isnt, q_isnl, q_isne, q_isns, startD, enD, List.map_cons, List.map_nil, List.length_cons, List.length_nil, List.replicate, List.cons_append, List.nil_append, Nat.reduceAdd, Nat.reduceSub, MT.slots, wipeD, isiD, Option.toList_some, Option.toList_none, List.append_nil, List.getElem?_cons_zero, List.getElem?_cons_succ, Option.bind_some, mset_same, mset_mset, if_true, if_false, Bool.false_eq_true, reduceIte, Bool.not_true, Bool.not_false, Bool.true_eq_false, true_and, decide_eq_true_eq, fit_int, fit_bl, fit_non, deq_int, deq_bl]
    exact q
  | some P =>
    simp only [m_turned, wpB, wpS, wpE, wpI, wpA, wpO, wpC, wpL]
    try simp -implicitDefEqProofs only [m_turned, spD, wpB, wpS, wpE, wpI, wpA, wpO, wpC, wpL, q_ifD, q_ifB, q_ifL, q_ifR, q_ifIs, q_ifBs, q_asI, q_rg0, q_rgs, q_rs0, q_rss, q_add, q_adds, q_addl, q_addt, q_sub, q_mul, q_fdiv, q_mod, q_pow, q_shl, q_trub, q_trui, q_trun, q_trul, q_eq, q_ne, q_lt, q_le, q_gt, q_ge, q_in, q_nin, q_cis, q_cisnt, q_joinl, q_joint, q_split, q_catll, q_catrl, q_catrr, q_catlr, q_setl, q_strs0, q_strsc, q_ifSs, q_clear, q_reverse, q_revl, q_revt, q_revr, q_eqm, q_nem, q_tupr, q_listr, q_lenr, q_lcf, q_lct, q_abs, q_lent, q_lenl, q_lens, q_sum, q_all, q_any, q_tupl, q_tupt, q_listl, q_listt, q_listMl, q_listMt, q_inti, q_intb, q_stri, q_strs, q_strn, q_strb, q_strt, q_strl, q_max, q_min, q_selt, q_sell, q_selr, q_seIt, q_seIl, q_seIr, q_itt, q_itl, q_bn, q_bt, q_btl, q_ba0, q_bas, q_inT, q_ninT, q_frzr, q_frzl, q_slct, q_slcl, q_slcr, q_slcs, q_trut, q_isn, q_isni, q_isnn, q_isnt, q_isnl, q_isne, q_isns, startD, enD, List.map_cons, List.map_nil, List.length_cons, List.length_nil, List.replicate, List.cons_append, List.nil_append, Nat.reduceAdd, Nat.reduceSub, MT.slots, wipeD, isiD, Option.toList_some, Option.toList_none, List.append_nil, List.getElem?_cons_zero, List.getElem?_cons_succ, Option.bind_some, mset_same, mset_mset, if_true, if_false, Bool.false_eq_true, reduceIte, Bool.not_true, Bool.not_false, Bool.true_eq_false, true_and, decide_eq_true_eq, fit_int, fit_bl, fit_non, deq_int, deq_bl]
    refine ite_f (by simp) ?_
    simp only [m_turned_1, wpB, wpS, wpE, wpI, wpA, wpO, wpC, wpL]
    try simp -implicitDefEqProofs only [m_turned_1, wpB, wpS, wpE, wpI, wpA, wpO, wpC, wpL, q_ifD, q_ifB, q_ifL, q_ifR, q_ifIs, q_ifBs, q_asI, q_rg0, q_rgs, q_rs0, q_rss, q_add, q_adds, q_addl, q_addt, q_sub, q_mul, q_fdiv, q_mod, q_pow, q_shl, q_trub, q_trui, q_trun, q_trul, q_eq, q_ne, q_lt, q_le, q_gt, q_ge, q_in, q_nin, q_cis, q_cisnt, q_joinl, q_joint, q_split, q_catll, q_catrl, q_catrr, q_catlr, q_setl, q_strs0, q_strsc, q_ifSs, q_clear, q_reverse, q_revl, q_revt, q_revr, q_eqm, q_nem, q_tupr, q_listr, q_lenr, q_lcf, q_lct, q_abs, q_lent, q_lenl, q_lens, q_sum, q_all, q_any, q_tupl, q_tupt, q_listl, q_listt, q_listMl, q_listMt, q_inti, q_intb, q_stri, q_strs, q_strn, q_strb, q_strt, q_strl, q_max, q_min, q_selt, q_sell, q_selr, q_seIt, q_seIl, q_seIr, q_itt, q_itl, q_bn, q_bt, q_btl, q_ba0, q_bas, q_inT, q_ninT, q_frzr, q_frzl, q_slct, q_slcl, q_slcr, q_slcs, q_trut, q_isn, q_isni, q_isnn, q_isnt, q_isnl, q_isne, q_isns, startD, enD, List.map_cons, List.map_nil, List.length_cons, List.length_nil, List.replicate, List.cons_append, List.nil_append, Nat.reduceAdd, Nat.reduceSub, MT.slots, wipeD, isiD, Option.toList_some, Option.toList_none, List.append_nil, List.getElem?_cons_zero, List.getElem?_cons_succ, Option.bind_some, mset_same, mset_mset, if_true, if_false, Bool.false_eq_true, reduceIte, Bool.not_true, Bool.not_false, Bool.true_eq_false, true_and, decide_eq_true_eq, fit_int, fit_bl, fit_non, deq_int, deq_bl]
    rw [q_zero]
    exact less_q sq0 sp.2 (by omega) (by omega) fun _ => q)
def S_sum_of : DSp := sp3 fun x y z μ Q _ => ∃ (c : Cub) (P R : Option Sp) (m n : Nat), x = cuD c ∧ y = spD P ∧ z = spD R ∧ GdC c ∧ szC m c ∧ szO n P ∧ szO n R ∧ 20 * n + 20 * m + 80 ≤ 50000000 ∧ OnO c P ∧ OnO c R ∧ (szO (16 * n + 11 * m + 50) (smP c P R) → Q (spD (smP c P R)) μ)
def N_sum_of : List Str := ["cubic", "one", "other", "slope", "both", "t", "y"]
def m_sum_of_7 : MB := (.cons (.ret (.tup (.cons (.var 5) (.cons (.call "frac_less" S_frac_less (.cons (.glob "NOTHING" (.tup [(.int 0), (.int 1)])) (.cons (.var 6) .nil))) .nil)))) .nil)
def m_sum_of_6 : MB := (.cons (.asg (.name 6) (.call "frac_sum" S_frac_sum (.cons (.ixc (.var 1) 1) (.cons (.call "frac_times" S_frac_times (.cons (.var 3) (.cons (.call "frac_less" S_frac_less (.cons (.var 5) (.cons (.ixc (.var 1) 0) .nil))) .nil))) .nil)))) m_sum_of_7)
def m_sum_of_5 : MB := (.cons (.asg (.name 5) (.call "frac_less" S_frac_less (.cons (.call "frac_less" S_frac_less (.cons (.var 4) (.cons (.ixc (.var 1) 0) .nil))) (.cons (.ixc (.var 2) 0) .nil)))) m_sum_of_6)
def m_sum_of_4 : MB := (.cons (.asg (.name 4) (.call "frac_by" S_frac_by (.cons (.call "frac_less" S_frac_less (.cons (.call "frac_times" S_frac_times (.cons (.var 3) (.cons (.var 3) .nil))) (.cons (.ixc (.var 0) 1) .nil))) (.cons (.ixc (.var 0) 2) .nil)))) m_sum_of_5)
def m_sum_of_3 : MB := (.cons (.asg (.name 3) (.call "slope_at" S_slope_at (.cons (.var 0) (.cons (.var 1) (.cons (.var 2) .nil))))) m_sum_of_4)
def m_sum_of_2a : MB := (.cons (.ret .non) .nil)
def m_sum_of_2 : MB := (.cons (.ite (.cmp .eq (.var 1) (.call "turned" S_turned (.cons (.var 2) .nil))) m_sum_of_2a .nil) m_sum_of_3)
def m_sum_of_1a : MB := (.cons (.ret (.var 1)) .nil)
def m_sum_of_1 : MB := (.cons (.ite (.isN true (.var 2)) m_sum_of_1a .nil) m_sum_of_2)
def m_sum_of_0a : MB := (.cons (.ret (.var 2)) .nil)
def m_sum_of : MB := (.cons (.ite (.isN true (.var 1)) m_sum_of_0a .nil) m_sum_of_1)
-- slots: 0=cubic 1=one 2=other 3=slope 4=both 5=t 6=y
theorem w_sum_of : ∀ ds μ Q X, S_sum_of ds μ Q X → ds.length = 3 ∧ wpB m_sum_of (startD 7 ds) μ (enD Q X) := sp3_of (by
  rintro x y z μ Q X ⟨c, P, R, m, n, rfl, rfl, rfl, G, sc, sp, sr, hb, oP, oR, q⟩
  cases P with
  | none =>
    simp only [m_sum_of, m_sum_of_0a, wpB, wpS, wpE, wpI, wpA, wpO, wpC, wpL]
    try simp -implicitDefEqProofs only [m_sum_of, m_sum_of_0a, spD, wpB, wpS, wpE, wpI, wpA, wpO, wpC, wpL, q_ifD, q_ifB, q_ifL, q_ifR, q_ifIs, q_ifBs, q_asI, q_rg0, q_rgs, q_rs0, q_rss, q_add, q_adds, q_addl, q_addt, q_sub, q_mul, q_fdiv, q_mod, q_pow, q_shl, q_trub, q_trui, q_trun, q_trul, q_eq, q_ne, q_lt, q_le, q_gt, q_ge, q_in, q_nin, q_cis, q_cisnt, q_joinl, q_joint, q_split, q_catll, q_catrl, q_catrr, q_catlr, q_setl, q_strs0, q_strsc, q_ifSs, q_clear, q_reverse, q_revl, q_revt, q_revr, q_eqm, q_nem, q_tupr, q_listr, q_lenr, q_lcf, q_lct, q_abs, q_lent, q_lenl, q_lens, q_sum, q_all, q_any, q_tupl, q_tupt, q_listl, q_listt, q_listMl, q_listMt, q_inti, q_intb, q_stri, q_strs, q_strn, q_strb, q_strt, q_strl, q_max, q_min, q_selt, q_sell, q_selr, q_seIt, q_seIl, q_seIr, q_itt, q_itl, q_bn, q_bt, q_btl, q_ba0, q_bas, q_inT, q_ninT, q_frzr, q_frzl, q_slct, q_slcl, q_slcr, q_slcs, q_trut, q_isn, q_isni, q_isnn, q_isnt, q_isnl, q_isne, q_isns, startD, enD, List.map_cons, List.map_nil, List.length_cons, List.length_nil, List.replicate, List.cons_append, List.nil_append, Nat.reduceAdd, Nat.reduceSub, MT.slots, wipeD, isiD, Option.toList_some, Option.toList_none, List.append_nil, List.getElem?_cons_zero, List.getElem?_cons_succ, Option.bind_some, mset_same, mset_mset, if_true, if_false, Bool.false_eq_true, reduceIte, Bool.not_true, Bool.not_false, Bool.true_eq_false, true_and, decide_eq_true_eq, fit_int, fit_bl, fit_non, deq_int, deq_bl]
    exact q (sr.up (by omega))
  | some P =>
  cases R with
  | none =>
    simp only [m_sum_of, wpB, wpS, wpE, wpI, wpA, wpO, wpC, wpL]
    try simp -implicitDefEqProofs only [m_sum_of, spD, wpB, wpS, wpE, wpI, wpA, wpO, wpC, wpL, q_ifD, q_ifB, q_ifL, q_ifR, q_ifIs, q_ifBs, q_asI, q_rg0, q_rgs, q_rs0, q_rss, q_add, q_adds, q_addl, q_addt, q_sub, q_mul, q_fdiv, q_mod, q_pow, q_shl, q_trub, q_trui, q_trun, q_trul, q_eq, q_ne, q_lt, q_le, q_gt, q_ge, q_in, q_nin, q_cis, q_cisnt, q_joinl, q_joint, q_split, q_catll, q_catrl, q_catrr, q_catlr, q_setl, q_strs0, q_strsc, q_ifSs, q_clear, q_reverse, q_revl, q_revt, q_revr, q_eqm, q_nem, q_tupr, q_listr, q_lenr, q_lcf, q_lct, q_abs, q_lent, q_lenl, q_lens, q_sum, q_all, q_any, q_tupl, q_tupt, q_listl, q_listt, q_listMl, q_listMt, q_inti, q_intb, q_stri, q_strs, q_strn, q_strb, q_strt, q_strl, q_max, q_min, q_selt, q_sell, q_selr, q_seIt, q_seIl, q_seIr, q_itt, q_itl, q_bn, q_bt, q_btl, q_ba0, q_bas, q_inT, q_ninT, q_frzr, q_frzl, q_slct, q_slcl, q_slcr, q_slcs, q_trut, q_isn, q_isni, q_isnn, q_isnt, q_isnl, q_isne, q_isns, startD, enD, List.map_cons, List.map_nil, List.length_cons, List.length_nil, List.replicate, List.cons_append, List.nil_append, Nat.reduceAdd, Nat.reduceSub, MT.slots, wipeD, isiD, Option.toList_some, Option.toList_none, List.append_nil, List.getElem?_cons_zero, List.getElem?_cons_succ, Option.bind_some, mset_same, mset_mset, if_true, if_false, Bool.false_eq_true, reduceIte, Bool.not_true, Bool.not_false, Bool.true_eq_false, true_and, decide_eq_true_eq, fit_int, fit_bl, fit_non, deq_int, deq_bl]
    refine ite_f (by simp) ?_
    simp only [m_sum_of_1, m_sum_of_1a, wpB, wpS, wpE, wpI, wpA, wpO, wpC, wpL]
    try simp -implicitDefEqProofs only [m_sum_of_1, m_sum_of_1a, wpB, wpS, wpE, wpI, wpA, wpO, wpC, wpL, q_ifD, q_ifB, q_ifL, q_ifR, q_ifIs, q_ifBs, q_asI, q_rg0, q_rgs, q_rs0, q_rss, q_add, q_adds, q_addl, q_addt, q_sub, q_mul, q_fdiv, q_mod, q_pow, q_shl, q_trub, q_trui, q_trun, q_trul, q_eq, q_ne, q_lt, q_le, q_gt, q_ge, q_in, q_nin, q_cis, q_cisnt, q_joinl, q_joint, q_split, q_catll, q_catrl, q_catrr, q_catlr, q_setl, q_strs0, q_strsc, q_ifSs, q_clear, q_reverse, q_revl, q_revt, q_revr, q_eqm, q_nem, q_tupr, q_listr, q_lenr, q_lcf, q_lct, q_abs, q_lent, q_lenl, q_lens, q_sum, q_all, q_any, q_tupl, q_tupt, q_listl, q_listt, q_listMl, q_listMt, q_inti, q_intb, q_stri, q_strs, q_strn, q_strb, q_strt, q_strl, q_max, q_min, q_selt, q_sell, q_selr, q_seIt, q_seIl, q_seIr, q_itt, q_itl, q_bn, q_bt, q_btl, q_ba0, q_bas, q_inT, q_ninT, q_frzr, q_frzl, q_slct, q_slcl, q_slcr, q_slcs, q_trut, q_isn, q_isni, q_isnn, q_isnt, q_isnl, q_isne, q_isns, startD, enD, List.map_cons, List.map_nil, List.length_cons, List.length_nil, List.replicate, List.cons_append, List.nil_append, Nat.reduceAdd, Nat.reduceSub, MT.slots, wipeD, isiD, Option.toList_some, Option.toList_none, List.append_nil, List.getElem?_cons_zero, List.getElem?_cons_succ, Option.bind_some, mset_same, mset_mset, if_true, if_false, Bool.false_eq_true, reduceIte, Bool.not_true, Bool.not_false, Bool.true_eq_false, true_and, decide_eq_true_eq, fit_int, fit_bl, fit_non, deq_int, deq_bl]
    rw [smP_none G] at q
    exact q (sp.up (by omega))
  | some R =>
    simp only [m_sum_of, wpB, wpS, wpE, wpI, wpA, wpO, wpC, wpL]
    try simp -implicitDefEqProofs only [m_sum_of, spD, wpB, wpS, wpE, wpI, wpA, wpO, wpC, wpL, q_ifD, q_ifB, q_ifL, q_ifR, q_ifIs, q_ifBs, q_asI, q_rg0, q_rgs, q_rs0, q_rss, q_add, q_adds, q_addl, q_addt, q_sub, q_mul, q_fdiv, q_mod, q_pow, q_shl, q_trub, q_trui, q_trun, q_trul, q_eq, q_ne, q_lt, q_le, q_gt, q_ge, q_in, q_nin, q_cis, q_cisnt, q_joinl, q_joint, q_split, q_catll, q_catrl, q_catrr, q_catlr, q_setl, q_strs0, q_strsc, q_ifSs, q_clear, q_reverse, q_revl, q_revt, q_revr, q_eqm, q_nem, q_tupr, q_listr, q_lenr, q_lcf, q_lct, q_abs, q_lent, q_lenl, q_lens, q_sum, q_all, q_any, q_tupl, q_tupt, q_listl, q_listt, q_listMl, q_listMt, q_inti, q_intb, q_stri, q_strs, q_strn, q_strb, q_strt, q_strl, q_max, q_min, q_selt, q_sell, q_selr, q_seIt, q_seIl, q_seIr, q_itt, q_itl, q_bn, q_bt, q_btl, q_ba0, q_bas, q_inT, q_ninT, q_frzr, q_frzl, q_slct, q_slcl, q_slcr, q_slcs, q_trut, q_isn, q_isni, q_isnn, q_isnt, q_isnl, q_isne, q_isns, startD, enD, List.map_cons, List.map_nil, List.length_cons, List.length_nil, List.replicate, List.cons_append, List.nil_append, Nat.reduceAdd, Nat.reduceSub, MT.slots, wipeD, isiD, Option.toList_some, Option.toList_none, List.append_nil, List.getElem?_cons_zero, List.getElem?_cons_succ, Option.bind_some, mset_same, mset_mset, if_true, if_false, Bool.false_eq_true, reduceIte, Bool.not_true, Bool.not_false, Bool.true_eq_false, true_and, decide_eq_true_eq, fit_int, fit_bl, fit_non, deq_int, deq_bl]
    refine ite_f (by simp) ?_
    simp only [m_sum_of_1, wpB, wpS, wpE, wpI, wpA, wpO, wpC, wpL]
    try simp -implicitDefEqProofs only [m_sum_of_1, wpB, wpS, wpE, wpI, wpA, wpO, wpC, wpL, q_ifD, q_ifB, q_ifL, q_ifR, q_ifIs, q_ifBs, q_asI, q_rg0, q_rgs, q_rs0, q_rss, q_add, q_adds, q_addl, q_addt, q_sub, q_mul, q_fdiv, q_mod, q_pow, q_shl, q_trub, q_trui, q_trun, q_trul, q_eq, q_ne, q_lt, q_le, q_gt, q_ge, q_in, q_nin, q_cis, q_cisnt, q_joinl, q_joint, q_split, q_catll, q_catrl, q_catrr, q_catlr, q_setl, q_strs0, q_strsc, q_ifSs, q_clear, q_reverse, q_revl, q_revt, q_revr, q_eqm, q_nem, q_tupr, q_listr, q_lenr, q_lcf, q_lct, q_abs, q_lent, q_lenl, q_lens, q_sum, q_all, q_any, q_tupl, q_tupt, q_listl, q_listt, q_listMl, q_listMt, q_inti, q_intb, q_stri, q_strs, q_strn, q_strb, q_strt, q_strl, q_max, q_min, q_selt, q_sell, q_selr, q_seIt, q_seIl, q_seIr, q_itt, q_itl, q_bn, q_bt, q_btl, q_ba0, q_bas, q_inT, q_ninT, q_frzr, q_frzl, q_slct, q_slcl, q_slcr, q_slcs, q_trut, q_isn, q_isni, q_isnn, q_isnt, q_isnl, q_isne, q_isns, startD, enD, List.map_cons, List.map_nil, List.length_cons, List.length_nil, List.replicate, List.cons_append, List.nil_append, Nat.reduceAdd, Nat.reduceSub, MT.slots, wipeD, isiD, Option.toList_some, Option.toList_none, List.append_nil, List.getElem?_cons_zero, List.getElem?_cons_succ, Option.bind_some, mset_same, mset_mset, if_true, if_false, Bool.false_eq_true, reduceIte, Bool.not_true, Bool.not_false, Bool.true_eq_false, true_and, decide_eq_true_eq, fit_int, fit_bl, fit_non, deq_int, deq_bl]
    refine ite_f (by simp) ?_
    simp only [m_sum_of_2, m_sum_of_2a, wpB, wpS, wpE, wpI, wpA, wpO, wpC, wpL]
    try simp -implicitDefEqProofs only [m_sum_of_2, m_sum_of_2a, wpB, wpS, wpE, wpI, wpA, wpO, wpC, wpL, q_ifD, q_ifB, q_ifL, q_ifR, q_ifIs, q_ifBs, q_asI, q_rg0, q_rgs, q_rs0, q_rss, q_add, q_adds, q_addl, q_addt, q_sub, q_mul, q_fdiv, q_mod, q_pow, q_shl, q_trub, q_trui, q_trun, q_trul, q_eq, q_ne, q_lt, q_le, q_gt, q_ge, q_in, q_nin, q_cis, q_cisnt, q_joinl, q_joint, q_split, q_catll, q_catrl, q_catrr, q_catlr, q_setl, q_strs0, q_strsc, q_ifSs, q_clear, q_reverse, q_revl, q_revt, q_revr, q_eqm, q_nem, q_tupr, q_listr, q_lenr, q_lcf, q_lct, q_abs, q_lent, q_lenl, q_lens, q_sum, q_all, q_any, q_tupl, q_tupt, q_listl, q_listt, q_listMl, q_listMt, q_inti, q_intb, q_stri, q_strs, q_strn, q_strb, q_strt, q_strl, q_max, q_min, q_selt, q_sell, q_selr, q_seIt, q_seIl, q_seIr, q_itt, q_itl, q_bn, q_bt, q_btl, q_ba0, q_bas, q_inT, q_ninT, q_frzr, q_frzl, q_slct, q_slcl, q_slcr, q_slcs, q_trut, q_isn, q_isni, q_isnn, q_isnt, q_isnl, q_isne, q_isns, startD, enD, List.map_cons, List.map_nil, List.length_cons, List.length_nil, List.replicate, List.cons_append, List.nil_append, Nat.reduceAdd, Nat.reduceSub, MT.slots, wipeD, isiD, Option.toList_some, Option.toList_none, List.append_nil, List.getElem?_cons_zero, List.getElem?_cons_succ, Option.bind_some, mset_same, mset_mset, if_true, if_false, Bool.false_eq_true, reduceIte, Bool.not_true, Bool.not_false, Bool.true_eq_false, true_and, decide_eq_true_eq, fit_int, fit_bl, fit_non, deq_int, deq_bl]
    refine ⟨some R, n, rfl, sr, by omega, fit_sp _ _, fit_sp _ _, ?_⟩
    rw [show spD (ngO (some R)) = spS (ngP R) from rfl, deq_sp]
    by_cases e : P = ngP R
    · refine ite_t (by simp [e]) ?_
      rw [show smP c (some P) (some R) = none from if_pos e] at q
      exact q trivial
    · refine ite_f (by simp [e]) ?_
      rw [smP_some G e] at q
      simp only [m_sum_of_3, wpB, wpS, wpE, wpI, wpA, wpO, wpC, wpL]
      try simp -implicitDefEqProofs only [m_sum_of_3, wpB, wpS, wpE, wpI, wpA, wpO, wpC, wpL, q_ifD, q_ifB, q_ifL, q_ifR, q_ifIs, q_ifBs, q_asI, q_rg0, q_rgs, q_rs0, q_rss, q_add, q_adds, q_addl, q_addt, q_sub, q_mul, q_fdiv, q_mod, q_pow, q_shl, q_trub, q_trui, q_trun, q_trul, q_eq, q_ne, q_lt, q_le, q_gt, q_ge, q_in, q_nin, q_cis, q_cisnt, q_joinl, q_joint, q_split, q_catll, q_catrl, q_catrr, q_catlr, q_setl, q_strs0, q_strsc, q_ifSs, q_clear, q_reverse, q_revl, q_revt, q_revr, q_eqm, q_nem, q_tupr, q_listr, q_lenr, q_lcf, q_lct, q_abs, q_lent, q_lenl, q_lens, q_sum, q_all, q_any, q_tupl, q_tupt, q_listl, q_listt, q_listMl, q_listMt, q_inti, q_intb, q_stri, q_strs, q_strn, q_strb, q_strt, q_strl, q_max, q_min, q_selt, q_sell, q_selr, q_seIt, q_seIl, q_seIr, q_itt, q_itl, q_bn, q_bt, q_btl, q_ba0, q_bas, q_inT, q_ninT, q_frzr, q_frzl, q_slct, q_slcl, q_slcr, q_slcs, q_trut, q_isn, q_isni, q_isnn, q_isnt, q_isnl, q_isne, q_isns, startD, enD, List.map_cons, List.map_nil, List.length_cons, List.length_nil, List.replicate, List.cons_append, List.nil_append, Nat.reduceAdd, Nat.reduceSub, MT.slots, wipeD, isiD, Option.toList_some, Option.toList_none, List.append_nil, List.getElem?_cons_zero, List.getElem?_cons_succ, Option.bind_some, mset_same, mset_mset, if_true, if_false, Bool.false_eq_true, reduceIte, Bool.not_true, Bool.not_false, Bool.true_eq_false, true_and, decide_eq_true_eq, fit_int, fit_bl, fit_non, deq_int, deq_bl]
      have n1 : P ≠ R → R.1 - P.1 ≠ 0 := fun h z => by
        rcases on_t oP oR (show P.1 = R.1 by grind) with h' | h'
        · exact h h'
        · exact e h'
      have n0 : P = R → P.2 ≠ 0 := fun h z => e (by
        rw [← h]
        obtain ⟨p, y⟩ := P
        simp only at z
        subst z
        simp only [ngP, Prod.mk.injEq, true_and]; grind)
      refine ⟨c, P, R, m, n, rfl, rfl, rfl, sc, sp, sr, by omega, n1, n0, fun z1 => ?_⟩
      have sp1 := sp.1
      have sp2 := sp.2
      have sr1 := sr.1
      simp only [m_sum_of_4, wpB, wpS, wpE, wpI, wpA, wpO, wpC, wpL]
      try simp -implicitDefEqProofs only [m_sum_of_4, wpB, wpS, wpE, wpI, wpA, wpO, wpC, wpL, q_ifD, q_ifB, q_ifL, q_ifR, q_ifIs, q_ifBs, q_asI, q_rg0, q_rgs, q_rs0, q_rss, q_add, q_adds, q_addl, q_addt, q_sub, q_mul, q_fdiv, q_mod, q_pow, q_shl, q_trub, q_trui, q_trun, q_trul, q_eq, q_ne, q_lt, q_le, q_gt, q_ge, q_in, q_nin, q_cis, q_cisnt, q_joinl, q_joint, q_split, q_catll, q_catrl, q_catrr, q_catlr, q_setl, q_strs0, q_strsc, q_ifSs, q_clear, q_reverse, q_revl, q_revt, q_revr, q_eqm, q_nem, q_tupr, q_listr, q_lenr, q_lcf, q_lct, q_abs, q_lent, q_lenl, q_lens, q_sum, q_all, q_any, q_tupl, q_tupt, q_listl, q_listt, q_listMl, q_listMt, q_inti, q_intb, q_stri, q_strs, q_strn, q_strb, q_strt, q_strl, q_max, q_min, q_selt, q_sell, q_selr, q_seIt, q_seIl, q_seIr, q_itt, q_itl, q_bn, q_bt, q_btl, q_ba0, q_bas, q_inT, q_ninT, q_frzr, q_frzl, q_slct, q_slcl, q_slcr, q_slcs, q_trut, q_isn, q_isni, q_isnn, q_isnt, q_isnl, q_isne, q_isns, startD, enD, List.map_cons, List.map_nil, List.length_cons, List.length_nil, List.replicate, List.cons_append, List.nil_append, Nat.reduceAdd, Nat.reduceSub, MT.slots, wipeD, isiD, Option.toList_some, Option.toList_none, List.append_nil, List.getElem?_cons_zero, List.getElem?_cons_succ, Option.bind_some, mset_same, mset_mset, if_true, if_false, Bool.false_eq_true, reduceIte, Bool.not_true, Bool.not_false, Bool.true_eq_false, true_and, decide_eq_true_eq, fit_int, fit_bl, fit_non, deq_int, deq_bl]
      refine times_q z1 z1 (by omega) (by omega) fun z2 => ?_
      refine less_q z2 sc.2.1 (by omega) (by omega) fun z3 => ?_
      refine by_q z3 sc.2.2 (by omega) (by omega) G.k0 fun z4 => ?_
      simp only [m_sum_of_5, wpB, wpS, wpE, wpI, wpA, wpO, wpC, wpL]
      try simp -implicitDefEqProofs only [m_sum_of_5, wpB, wpS, wpE, wpI, wpA, wpO, wpC, wpL, q_ifD, q_ifB, q_ifL, q_ifR, q_ifIs, q_ifBs, q_asI, q_rg0, q_rgs, q_rs0, q_rss, q_add, q_adds, q_addl, q_addt, q_sub, q_mul, q_fdiv, q_mod, q_pow, q_shl, q_trub, q_trui, q_trun, q_trul, q_eq, q_ne, q_lt, q_le, q_gt, q_ge, q_in, q_nin, q_cis, q_cisnt, q_joinl, q_joint, q_split, q_catll, q_catrl, q_catrr, q_catlr, q_setl, q_strs0, q_strsc, q_ifSs, q_clear, q_reverse, q_revl, q_revt, q_revr, q_eqm, q_nem, q_tupr, q_listr, q_lenr, q_lcf, q_lct, q_abs, q_lent, q_lenl, q_lens, q_sum, q_all, q_any, q_tupl, q_tupt, q_listl, q_listt, q_listMl, q_listMt, q_inti, q_intb, q_stri, q_strs, q_strn, q_strb, q_strt, q_strl, q_max, q_min, q_selt, q_sell, q_selr, q_seIt, q_seIl, q_seIr, q_itt, q_itl, q_bn, q_bt, q_btl, q_ba0, q_bas, q_inT, q_ninT, q_frzr, q_frzl, q_slct, q_slcl, q_slcr, q_slcs, q_trut, q_isn, q_isni, q_isnn, q_isnt, q_isnl, q_isne, q_isns, startD, enD, List.map_cons, List.map_nil, List.length_cons, List.length_nil, List.replicate, List.cons_append, List.nil_append, Nat.reduceAdd, Nat.reduceSub, MT.slots, wipeD, isiD, Option.toList_some, Option.toList_none, List.append_nil, List.getElem?_cons_zero, List.getElem?_cons_succ, Option.bind_some, mset_same, mset_mset, if_true, if_false, Bool.false_eq_true, reduceIte, Bool.not_true, Bool.not_false, Bool.true_eq_false, true_and, decide_eq_true_eq, fit_int, fit_bl, fit_non, deq_int, deq_bl]
      refine less_q z4 sp1 (by omega) (by omega) fun z5 => ?_
      refine less_q z5 sr1 (by omega) (by omega) fun z6 => ?_
      simp only [m_sum_of_6, wpB, wpS, wpE, wpI, wpA, wpO, wpC, wpL]
      try simp -implicitDefEqProofs only [m_sum_of_6, wpB, wpS, wpE, wpI, wpA, wpO, wpC, wpL, q_ifD, q_ifB, q_ifL, q_ifR, q_ifIs, q_ifBs, q_asI, q_rg0, q_rgs, q_rs0, q_rss, q_add, q_adds, q_addl, q_addt, q_sub, q_mul, q_fdiv, q_mod, q_pow, q_shl, q_trub, q_trui, q_trun, q_trul, q_eq, q_ne, q_lt, q_le, q_gt, q_ge, q_in, q_nin, q_cis, q_cisnt, q_joinl, q_joint, q_split, q_catll, q_catrl, q_catrr, q_catlr, q_setl, q_strs0, q_strsc, q_ifSs, q_clear, q_reverse, q_revl, q_revt, q_revr, q_eqm, q_nem, q_tupr, q_listr, q_lenr, q_lcf, q_lct, q_abs, q_lent, q_lenl, q_lens, q_sum, q_all, q_any, q_tupl, q_tupt, q_listl, q_listt, q_listMl, q_listMt, q_inti, q_intb, q_stri, q_strs, q_strn, q_strb, q_strt, q_strl, q_max, q_min, q_selt, q_sell, q_selr, q_seIt, q_seIl, q_seIr, q_itt, q_itl, q_bn, q_bt, q_btl, q_ba0, q_bas, q_inT, q_ninT, q_frzr, q_frzl, q_slct, q_slcl, q_slcr, q_slcs, q_trut, q_isn, q_isni, q_isnn, q_isnt, q_isnl, q_isne, q_isns, startD, enD, List.map_cons, List.map_nil, List.length_cons, List.length_nil, List.replicate, List.cons_append, List.nil_append, Nat.reduceAdd, Nat.reduceSub, MT.slots, wipeD, isiD, Option.toList_some, Option.toList_none, List.append_nil, List.getElem?_cons_zero, List.getElem?_cons_succ, Option.bind_some, mset_same, mset_mset, if_true, if_false, Bool.false_eq_true, reduceIte, Bool.not_true, Bool.not_false, Bool.true_eq_false, true_and, decide_eq_true_eq, fit_int, fit_bl, fit_non, deq_int, deq_bl]
      refine less_q z6 sp1 (by omega) (by omega) fun z7 => ?_
      refine times_q z1 z7 (by omega) (by omega) fun z8 => ?_
      refine sum_q sp2 z8 (by omega) (by omega) fun z9 => ?_
      simp only [m_sum_of_7, wpB, wpS, wpE, wpI, wpA, wpO, wpC, wpL]
      try simp -implicitDefEqProofs only [m_sum_of_7, wpB, wpS, wpE, wpI, wpA, wpO, wpC, wpL, q_ifD, q_ifB, q_ifL, q_ifR, q_ifIs, q_ifBs, q_asI, q_rg0, q_rgs, q_rs0, q_rss, q_add, q_adds, q_addl, q_addt, q_sub, q_mul, q_fdiv, q_mod, q_pow, q_shl, q_trub, q_trui, q_trun, q_trul, q_eq, q_ne, q_lt, q_le, q_gt, q_ge, q_in, q_nin, q_cis, q_cisnt, q_joinl, q_joint, q_split, q_catll, q_catrl, q_catrr, q_catlr, q_setl, q_strs0, q_strsc, q_ifSs, q_clear, q_reverse, q_revl, q_revt, q_revr, q_eqm, q_nem, q_tupr, q_listr, q_lenr, q_lcf, q_lct, q_abs, q_lent, q_lenl, q_lens, q_sum, q_all, q_any, q_tupl, q_tupt, q_listl, q_listt, q_listMl, q_listMt, q_inti, q_intb, q_stri, q_strs, q_strn, q_strb, q_strt, q_strl, q_max, q_min, q_selt, q_sell, q_selr, q_seIt, q_seIl, q_seIr, q_itt, q_itl, q_bn, q_bt, q_btl, q_ba0, q_bas, q_inT, q_ninT, q_frzr, q_frzl, q_slct, q_slcl, q_slcr, q_slcs, q_trut, q_isn, q_isni, q_isnn, q_isnt, q_isnl, q_isne, q_isns, startD, enD, List.map_cons, List.map_nil, List.length_cons, List.length_nil, List.replicate, List.cons_append, List.nil_append, Nat.reduceAdd, Nat.reduceSub, MT.slots, wipeD, isiD, Option.toList_some, Option.toList_none, List.append_nil, List.getElem?_cons_zero, List.getElem?_cons_succ, Option.bind_some, mset_same, mset_mset, if_true, if_false, Bool.false_eq_true, reduceIte, Bool.not_true, Bool.not_false, Bool.true_eq_false, true_and, decide_eq_true_eq, fit_int, fit_bl, fit_non, deq_int, deq_bl]
      rw [q_zero]
      refine less_q sq0 z9 (by omega) (by omega) fun z10 => ?_
      exact q ⟨z6.up (by omega), z10.up (by omega)⟩)
theorem sum_by {c : Cub} {P R : Option Sp} {m n : Nat} {μ : Mu} {Q : Pst} {X : Xst} (G : GdC c) (sc : szC m c) (sp : szO n P) (sr : szO n R) (hb : 20 * n + 20 * m + 80 ≤ 50000000) (oP : OnO c P) (oR : OnO c R) (q : szO (16 * n + 11 * m + 50) (smP c P R) → Q (spD (smP c P R)) μ) : S_sum_of [cuD c, spD P, spD R] μ Q X :=
  ⟨c, P, R, m, n, rfl, rfl, rfl, G, sc, sp, sr, hb, oP, oR, q⟩
theorem goodC.gd {c : Cub} (g : goodC c) : GdC c := ⟨g.1, g.2⟩
def S_spot_sum : DSp := sp3 fun x y z μ Q _ => ∃ (c : Cub) (P R : Option Sp) (m n : Nat), x = cuD c ∧ y = spD P ∧ z = spD R ∧ goodC c ∧ szC m c ∧ m ≤ 100000 ∧ szO n P ∧ szO n R ∧ 20 * n + 20 * m + 80 ≤ 50000000 ∧ OnO c P ∧ OnO c R ∧ (szO (16 * n + 11 * m + 50) (smP c P R) → Q (spD (smP c P R)) μ)
def N_spot_sum : List Str := ["cubic", "one", "other"]
def m_spot_sum_3 : MB := (.cons (.ret (.call "sum_of" S_sum_of (.cons (.var 0) (.cons (.var 1) (.cons (.var 2) .nil))))) .nil)
def m_spot_sum_2 : MB := (.cons (.expr (.call "look_at_spot" S_look_at_spot (.cons (.var 0) (.cons (.var 2) .nil)))) m_spot_sum_3)
def m_spot_sum_1 : MB := (.cons (.expr (.call "look_at_spot" S_look_at_spot (.cons (.var 0) (.cons (.var 1) .nil)))) m_spot_sum_2)
def m_spot_sum : MB := (.cons (.expr (.call "look_at_cubic" S_look_at_cubic (.cons (.var 0) .nil))) m_spot_sum_1)
-- slots: 0=cubic 1=one 2=other
theorem w_spot_sum : ∀ ds μ Q X, S_spot_sum ds μ Q X → ds.length = 3 ∧ wpB m_spot_sum (startD 3 ds) μ (enD Q X) := sp3_of (by
  rintro x y z μ Q X ⟨c, P, R, m, n, rfl, rfl, rfl, g, sc, hm, sp, sr, hb, oP, oR, q⟩
  simp only [m_spot_sum, wpB, wpS, wpE, wpI, wpA, wpO, wpC, wpL]
  try simp -implicitDefEqProofs only [m_spot_sum, wpB, wpS, wpE, wpI, wpA, wpO, wpC, wpL, q_ifD, q_ifB, q_ifL, q_ifR, q_ifIs, q_ifBs, q_asI, q_rg0, q_rgs, q_rs0, q_rss, q_add, q_adds, q_addl, q_addt, q_sub, q_mul, q_fdiv, q_mod, q_pow, q_shl, q_trub, q_trui, q_trun, q_trul, q_eq, q_ne, q_lt, q_le, q_gt, q_ge, q_in, q_nin, q_cis, q_cisnt, q_joinl, q_joint, q_split, q_catll, q_catrl, q_catrr, q_catlr, q_setl, q_strs0, q_strsc, q_ifSs, q_clear, q_reverse, q_revl, q_revt, q_revr, q_eqm, q_nem, q_tupr, q_listr, q_lenr, q_lcf, q_lct, q_abs, q_lent, q_lenl, q_lens, q_sum, q_all, q_any, q_tupl, q_tupt, q_listl, q_listt, q_listMl, q_listMt, q_inti, q_intb, q_stri, q_strs, q_strn, q_strb, q_strt, q_strl, q_max, q_min, q_selt, q_sell, q_selr, q_seIt, q_seIl, q_seIr, q_itt, q_itl, q_bn, q_bt, q_btl, q_ba0, q_bas, q_inT, q_ninT, q_frzr, q_frzl, q_slct, q_slcl, q_slcr, q_slcs, q_trut, q_isn, q_isni, q_isnn, q_isnt, q_isnl, q_isne, q_isns, startD, enD, List.map_cons, List.map_nil, List.length_cons, List.length_nil, List.replicate, List.cons_append, List.nil_append, Nat.reduceAdd, Nat.reduceSub, MT.slots, wipeD, isiD, Option.toList_some, Option.toList_none, List.append_nil, List.getElem?_cons_zero, List.getElem?_cons_succ, Option.bind_some, mset_same, mset_mset, if_true, if_false, Bool.false_eq_true, reduceIte, Bool.not_true, Bool.not_false, Bool.true_eq_false, true_and, decide_eq_true_eq, fit_int, fit_bl, fit_non, deq_int, deq_bl]
  refine cubic_by g sc hm ?_
  try simp -implicitDefEqProofs only [wpB, wpS, wpE, wpI, wpA, wpO, wpC, wpL, q_ifD, q_ifB, q_ifL, q_ifR, q_ifIs, q_ifBs, q_asI, q_rg0, q_rgs, q_rs0, q_rss, q_add, q_adds, q_addl, q_addt, q_sub, q_mul, q_fdiv, q_mod, q_pow, q_shl, q_trub, q_trui, q_trun, q_trul, q_eq, q_ne, q_lt, q_le, q_gt, q_ge, q_in, q_nin, q_cis, q_cisnt, q_joinl, q_joint, q_split, q_catll, q_catrl, q_catrr, q_catlr, q_setl, q_strs0, q_strsc, q_ifSs, q_clear, q_reverse, q_revl, q_revt, q_revr, q_eqm, q_nem, q_tupr, q_listr, q_lenr, q_lcf, q_lct, q_abs, q_lent, q_lenl, q_lens, q_sum, q_all, q_any, q_tupl, q_tupt, q_listl, q_listt, q_listMl, q_listMt, q_inti, q_intb, q_stri, q_strs, q_strn, q_strb, q_strt, q_strl, q_max, q_min, q_selt, q_sell, q_selr, q_seIt, q_seIl, q_seIr, q_itt, q_itl, q_bn, q_bt, q_btl, q_ba0, q_bas, q_inT, q_ninT, q_frzr, q_frzl, q_slct, q_slcl, q_slcr, q_slcs, q_trut, q_isn, q_isni, q_isnn, q_isnt, q_isnl, q_isne, q_isns, startD, enD, List.map_cons, List.map_nil, List.length_cons, List.length_nil, List.replicate, List.cons_append, List.nil_append, Nat.reduceAdd, Nat.reduceSub, MT.slots, wipeD, isiD, Option.toList_some, Option.toList_none, List.append_nil, List.getElem?_cons_zero, List.getElem?_cons_succ, Option.bind_some, mset_same, mset_mset, if_true, if_false, Bool.false_eq_true, reduceIte, Bool.not_true, Bool.not_false, Bool.true_eq_false, true_and, decide_eq_true_eq, fit_int, fit_bl, fit_non, deq_int, deq_bl]
  simp only [m_spot_sum_1, wpB, wpS, wpE, wpI, wpA, wpO, wpC, wpL]
  try simp -implicitDefEqProofs only [m_spot_sum_1, wpB, wpS, wpE, wpI, wpA, wpO, wpC, wpL, q_ifD, q_ifB, q_ifL, q_ifR, q_ifIs, q_ifBs, q_asI, q_rg0, q_rgs, q_rs0, q_rss, q_add, q_adds, q_addl, q_addt, q_sub, q_mul, q_fdiv, q_mod, q_pow, q_shl, q_trub, q_trui, q_trun, q_trul, q_eq, q_ne, q_lt, q_le, q_gt, q_ge, q_in, q_nin, q_cis, q_cisnt, q_joinl, q_joint, q_split, q_catll, q_catrl, q_catrr, q_catlr, q_setl, q_strs0, q_strsc, q_ifSs, q_clear, q_reverse, q_revl, q_revt, q_revr, q_eqm, q_nem, q_tupr, q_listr, q_lenr, q_lcf, q_lct, q_abs, q_lent, q_lenl, q_lens, q_sum, q_all, q_any, q_tupl, q_tupt, q_listl, q_listt, q_listMl, q_listMt, q_inti, q_intb, q_stri, q_strs, q_strn, q_strb, q_strt, q_strl, q_max, q_min, q_selt, q_sell, q_selr, q_seIt, q_seIl, q_seIr, q_itt, q_itl, q_bn, q_bt, q_btl, q_ba0, q_bas, q_inT, q_ninT, q_frzr, q_frzl, q_slct, q_slcl, q_slcr, q_slcs, q_trut, q_isn, q_isni, q_isnn, q_isnt, q_isnl, q_isne, q_isns, startD, enD, List.map_cons, List.map_nil, List.length_cons, List.length_nil, List.replicate, List.cons_append, List.nil_append, Nat.reduceAdd, Nat.reduceSub, MT.slots, wipeD, isiD, Option.toList_some, Option.toList_none, List.append_nil, List.getElem?_cons_zero, List.getElem?_cons_succ, Option.bind_some, mset_same, mset_mset, if_true, if_false, Bool.false_eq_true, reduceIte, Bool.not_true, Bool.not_false, Bool.true_eq_false, true_and, decide_eq_true_eq, fit_int, fit_bl, fit_non, deq_int, deq_bl]
  refine look_spot sc sp hb oP ?_
  try simp -implicitDefEqProofs only [wpB, wpS, wpE, wpI, wpA, wpO, wpC, wpL, q_ifD, q_ifB, q_ifL, q_ifR, q_ifIs, q_ifBs, q_asI, q_rg0, q_rgs, q_rs0, q_rss, q_add, q_adds, q_addl, q_addt, q_sub, q_mul, q_fdiv, q_mod, q_pow, q_shl, q_trub, q_trui, q_trun, q_trul, q_eq, q_ne, q_lt, q_le, q_gt, q_ge, q_in, q_nin, q_cis, q_cisnt, q_joinl, q_joint, q_split, q_catll, q_catrl, q_catrr, q_catlr, q_setl, q_strs0, q_strsc, q_ifSs, q_clear, q_reverse, q_revl, q_revt, q_revr, q_eqm, q_nem, q_tupr, q_listr, q_lenr, q_lcf, q_lct, q_abs, q_lent, q_lenl, q_lens, q_sum, q_all, q_any, q_tupl, q_tupt, q_listl, q_listt, q_listMl, q_listMt, q_inti, q_intb, q_stri, q_strs, q_strn, q_strb, q_strt, q_strl, q_max, q_min, q_selt, q_sell, q_selr, q_seIt, q_seIl, q_seIr, q_itt, q_itl, q_bn, q_bt, q_btl, q_ba0, q_bas, q_inT, q_ninT, q_frzr, q_frzl, q_slct, q_slcl, q_slcr, q_slcs, q_trut, q_isn, q_isni, q_isnn, q_isnt, q_isnl, q_isne, q_isns, startD, enD, List.map_cons, List.map_nil, List.length_cons, List.length_nil, List.replicate, List.cons_append, List.nil_append, Nat.reduceAdd, Nat.reduceSub, MT.slots, wipeD, isiD, Option.toList_some, Option.toList_none, List.append_nil, List.getElem?_cons_zero, List.getElem?_cons_succ, Option.bind_some, mset_same, mset_mset, if_true, if_false, Bool.false_eq_true, reduceIte, Bool.not_true, Bool.not_false, Bool.true_eq_false, true_and, decide_eq_true_eq, fit_int, fit_bl, fit_non, deq_int, deq_bl]
  simp only [m_spot_sum_2, wpB, wpS, wpE, wpI, wpA, wpO, wpC, wpL]
  try simp -implicitDefEqProofs only [m_spot_sum_2, wpB, wpS, wpE, wpI, wpA, wpO, wpC, wpL, q_ifD, q_ifB, q_ifL, q_ifR, q_ifIs, q_ifBs, q_asI, q_rg0, q_rgs, q_rs0, q_rss, q_add, q_adds, q_addl, q_addt, q_sub, q_mul, q_fdiv, q_mod, q_pow, q_shl, q_trub, q_trui, q_trun, q_trul, q_eq, q_ne, q_lt, q_le, q_gt, q_ge, q_in, q_nin, q_cis, q_cisnt, q_joinl, q_joint, q_split, q_catll, q_catrl, q_catrr, q_catlr, q_setl, q_strs0, q_strsc, q_ifSs, q_clear, q_reverse, q_revl, q_revt, q_revr, q_eqm, q_nem, q_tupr, q_listr, q_lenr, q_lcf, q_lct, q_abs, q_lent, q_lenl, q_lens, q_sum, q_all, q_any, q_tupl, q_tupt, q_listl, q_listt, q_listMl, q_listMt, q_inti, q_intb, q_stri, q_strs, q_strn, q_strb, q_strt, q_strl, q_max, q_min, q_selt, q_sell, q_selr, q_seIt, q_seIl, q_seIr, q_itt, q_itl, q_bn, q_bt, q_btl, q_ba0, q_bas, q_inT, q_ninT, q_frzr, q_frzl, q_slct, q_slcl, q_slcr, q_slcs, q_trut, q_isn, q_isni, q_isnn, q_isnt, q_isnl, q_isne, q_isns, startD, enD, List.map_cons, List.map_nil, List.length_cons, List.length_nil, List.replicate, List.cons_append, List.nil_append, Nat.reduceAdd, Nat.reduceSub, MT.slots, wipeD, isiD, Option.toList_some, Option.toList_none, List.append_nil, List.getElem?_cons_zero, List.getElem?_cons_succ, Option.bind_some, mset_same, mset_mset, if_true, if_false, Bool.false_eq_true, reduceIte, Bool.not_true, Bool.not_false, Bool.true_eq_false, true_and, decide_eq_true_eq, fit_int, fit_bl, fit_non, deq_int, deq_bl]
  refine look_spot sc sr hb oR ?_
  try simp -implicitDefEqProofs only [wpB, wpS, wpE, wpI, wpA, wpO, wpC, wpL, q_ifD, q_ifB, q_ifL, q_ifR, q_ifIs, q_ifBs, q_asI, q_rg0, q_rgs, q_rs0, q_rss, q_add, q_adds, q_addl, q_addt, q_sub, q_mul, q_fdiv, q_mod, q_pow, q_shl, q_trub, q_trui, q_trun, q_trul, q_eq, q_ne, q_lt, q_le, q_gt, q_ge, q_in, q_nin, q_cis, q_cisnt, q_joinl, q_joint, q_split, q_catll, q_catrl, q_catrr, q_catlr, q_setl, q_strs0, q_strsc, q_ifSs, q_clear, q_reverse, q_revl, q_revt, q_revr, q_eqm, q_nem, q_tupr, q_listr, q_lenr, q_lcf, q_lct, q_abs, q_lent, q_lenl, q_lens, q_sum, q_all, q_any, q_tupl, q_tupt, q_listl, q_listt, q_listMl, q_listMt, q_inti, q_intb, q_stri, q_strs, q_strn, q_strb, q_strt, q_strl, q_max, q_min, q_selt, q_sell, q_selr, q_seIt, q_seIl, q_seIr, q_itt, q_itl, q_bn, q_bt, q_btl, q_ba0, q_bas, q_inT, q_ninT, q_frzr, q_frzl, q_slct, q_slcl, q_slcr, q_slcs, q_trut, q_isn, q_isni, q_isnn, q_isnt, q_isnl, q_isne, q_isns, startD, enD, List.map_cons, List.map_nil, List.length_cons, List.length_nil, List.replicate, List.cons_append, List.nil_append, Nat.reduceAdd, Nat.reduceSub, MT.slots, wipeD, isiD, Option.toList_some, Option.toList_none, List.append_nil, List.getElem?_cons_zero, List.getElem?_cons_succ, Option.bind_some, mset_same, mset_mset, if_true, if_false, Bool.false_eq_true, reduceIte, Bool.not_true, Bool.not_false, Bool.true_eq_false, true_and, decide_eq_true_eq, fit_int, fit_bl, fit_non, deq_int, deq_bl]
  simp only [m_spot_sum_3, wpB, wpS, wpE, wpI, wpA, wpO, wpC, wpL]
  try simp -implicitDefEqProofs only [m_spot_sum_3, wpB, wpS, wpE, wpI, wpA, wpO, wpC, wpL, q_ifD, q_ifB, q_ifL, q_ifR, q_ifIs, q_ifBs, q_asI, q_rg0, q_rgs, q_rs0, q_rss, q_add, q_adds, q_addl, q_addt, q_sub, q_mul, q_fdiv, q_mod, q_pow, q_shl, q_trub, q_trui, q_trun, q_trul, q_eq, q_ne, q_lt, q_le, q_gt, q_ge, q_in, q_nin, q_cis, q_cisnt, q_joinl, q_joint, q_split, q_catll, q_catrl, q_catrr, q_catlr, q_setl, q_strs0, q_strsc, q_ifSs, q_clear, q_reverse, q_revl, q_revt, q_revr, q_eqm, q_nem, q_tupr, q_listr, q_lenr, q_lcf, q_lct, q_abs, q_lent, q_lenl, q_lens, q_sum, q_all, q_any, q_tupl, q_tupt, q_listl, q_listt, q_listMl, q_listMt, q_inti, q_intb, q_stri, q_strs, q_strn, q_strb, q_strt, q_strl, q_max, q_min, q_selt, q_sell, q_selr, q_seIt, q_seIl, q_seIr, q_itt, q_itl, q_bn, q_bt, q_btl, q_ba0, q_bas, q_inT, q_ninT, q_frzr, q_frzl, q_slct, q_slcl, q_slcr, q_slcs, q_trut, q_isn, q_isni, q_isnn, q_isnt, q_isnl, q_isne, q_isns, startD, enD, List.map_cons, List.map_nil, List.length_cons, List.length_nil, List.replicate, List.cons_append, List.nil_append, Nat.reduceAdd, Nat.reduceSub, MT.slots, wipeD, isiD, Option.toList_some, Option.toList_none, List.append_nil, List.getElem?_cons_zero, List.getElem?_cons_succ, Option.bind_some, mset_same, mset_mset, if_true, if_false, Bool.false_eq_true, reduceIte, Bool.not_true, Bool.not_false, Bool.true_eq_false, true_and, decide_eq_true_eq, fit_int, fit_bl, fit_non, deq_int, deq_bl]
  exact sum_by g.gd sc sp sr hb oP oR q)
theorem spot_by {c : Cub} {P R : Option Sp} {m n : Nat} {μ : Mu} {Q : Pst} {X : Xst} (g : goodC c) (sc : szC m c) (hm : m ≤ 100000) (sp : szO n P) (sr : szO n R) (hb : 20 * n + 20 * m + 80 ≤ 50000000) (oP : OnO c P) (oR : OnO c R) (q : szO (16 * n + 11 * m + 50) (smP c P R) → Q (spD (smP c P R)) μ) : S_spot_sum [cuD c, spD P, spD R] μ Q X :=
  ⟨c, P, R, m, n, rfl, rfl, rfl, g, sc, hm, sp, sr, hb, oP, oR, q⟩

end Dl

namespace Dl
open PySem L2 PyProof.Rows
local macro_rules | `(tactic| walk_at "szb") => `(tactic| first | assumption | exact szm (by walk_at "szb") (by walk_at "szb") | exact sza (by walk_at "szb") (by walk_at "szb") | exact szs (by walk_at "szb") (by walk_at "szb") | exact szn (by walk_at "szb") | exact Nat.lt_two_pow_self)
local macro_rules | `(tactic| walk_at "shw") => `(tactic| first | assumption | exact shw_int (abs_up (by walk_at "szb") (by decide)) (by decide) | exact shw_non (by decide) | exact shw_bl (by decide) | exact shw_lit (k := 6) (by decide) (by decide) | ((first | refine shT1 ?_ (by simp) | refine shT2 ?_ (by simp) | refine shT3 ?_ (by simp) | refine shL1 ?_ (by simp) | refine shL2 ?_ (by simp) | refine shL3 ?_ (by simp)); (simp only [shA, and_true]); (try with_reducible refine And.intro ?_ ?_); (all_goals (try with_reducible refine And.intro ?_ ?_)); (all_goals (try with_reducible refine And.intro ?_ ?_)); (all_goals (try with_reducible refine And.intro ?_ ?_)); (all_goals (try with_reducible refine And.intro ?_ ?_)); (all_goals walk_at "shw")))
/-! the drawn spots and the cubic through them -/
def pl8 : List Rat := [1, -1, 2, -2, 3, mkRat 1 2, mkRat (-1) 2, mkRat 3 2]
theorem pl8_ne : ∀ i < 8, pl8.getD i 0 ≠ 0 ∧ sm8 (pl8.getD i 0) = true ∧ ∀ j < 8, i ≠ j → pl8.getD i 0 ≠ pl8.getD j 0 := by decide +kernel
theorem pl8_at {i : Nat} (h : i < 8) : L2.atI (pl8.map qD) (i : Int) = some (qD (pl8.getD i 0)) := at_natD (by
  have hl : i < pl8.length := h
  rw [List.getElem?_map, List.getD_eq_getElem?_getD, List.getElem?_eq_getElem hl]; rfl)
def S_law_through : DSp := sp1 fun x μ Q _ => ∃ ns : List Int, x = .lst (ns.map .int) ∧ ∀ P1 P2 P3 : Sp, P1.1 ≠ 0 → P2.1 ≠ 0 → P3.1 ≠ 0 → P1.1 ≠ P2.1 → P1.1 ≠ P3.1 → P2.1 ≠ P3.1 → szP 8 P1 → szP 8 P2 → szP 8 P3 → Q (.lst [spS P1, spS P2, spS P3]) μ
def N_law_through : List Str := ["_law_script", "_law_number", "_law_places", "_law_shift", "_law_some", "_law_spots", "_law_k", "_law_top"]
def m_law_through_6 : MB := (.cons (.ret (.frz (.var 5))) .nil)
def m_law_through_5a_1 : MB := (.cons (.app (.var 5) (.tup (.cons (.ix (.var 4) (.var 6)) (.cons (.call "_law_frac" S_law_frac (.cons (.var 7) (.cons (.bin .add (.int 1) (.bin .mod (.bin .fdiv (.var 1) (.bin .add (.int 1000) (.bin .mul (.int 11) (.var 6)))) (.int 2))) .nil))) .nil)))) .nil)
def m_law_through_5a : MB := (.cons (.asg (.name 7) (.ix (.lst (.cons (.int 3) (.cons (.int 2) (.cons (.neg (.int 5)) (.cons (.int 0) (.cons (.int 7) (.cons (.neg (.int 1)) (.cons (.int 4) .nil)))))))) (.bin .mod (.bin .fdiv (.var 1) (.bin .add (.int 100) (.bin .mul (.int 7) (.var 6)))) (.int 7)))) m_law_through_5a_1)
def m_law_through_5 : MB := (.cons (.loop (.name 6) (.rng1 (.int 3)) m_law_through_5a) m_law_through_6)
def m_law_through_4 : MB := (.cons (.asg (.name 5) (.newl .nil)) m_law_through_5)
def m_law_through_3 : MB := (.cons (.asg (.name 4) (.lst (.cons (.ix (.var 2) (.var 3)) (.cons (.ix (.var 2) (.bin .mod (.bin .add (.bin .add (.var 3) (.int 1)) (.bin .mod (.bin .fdiv (.var 1) (.int 8)) (.int 3))) (.int 8))) (.cons (.ix (.var 2) (.bin .mod (.bin .add (.bin .add (.var 3) (.int 4)) (.bin .mod (.bin .fdiv (.var 1) (.int 24)) (.int 3))) (.int 8))) .nil))))) m_law_through_4)
def m_law_through_2 : MB := (.cons (.asg (.name 3) (.bin .mod (.var 1) (.int 8))) m_law_through_3)
def m_law_through_1 : MB := (.cons (.asg (.name 2) (.lst (.cons (.tup (.cons (.int 1) (.cons (.int 1) .nil))) (.cons (.tup (.cons (.neg (.int 1)) (.cons (.int 1) .nil))) (.cons (.tup (.cons (.int 2) (.cons (.int 1) .nil))) (.cons (.tup (.cons (.neg (.int 2)) (.cons (.int 1) .nil))) (.cons (.tup (.cons (.int 3) (.cons (.int 1) .nil))) (.cons (.tup (.cons (.int 1) (.cons (.int 2) .nil))) (.cons (.tup (.cons (.neg (.int 1)) (.cons (.int 2) .nil))) (.cons (.tup (.cons (.int 3) (.cons (.int 2) .nil))) .nil)))))))))) m_law_through_2)
def m_law_through : MB := (.cons (.asg (.name 1) (.call "_law_cell" S_law_cell (.cons (.var 0) (.cons (.int 0) .nil)))) m_law_through_1)
-- slots: 0=_law_script 1=_law_number 2=_law_places 3=_law_shift 4=_law_some 5=_law_spots 6=_law_k 7=_law_top
theorem w_law_through : ∀ ds μ Q X, S_law_through ds μ Q X → ds.length = 1 ∧ wpB m_law_through (startD 8 ds) μ (enD Q X) := sp1_of (by
  rintro x μ Q X ⟨ns, rfl, q⟩
  simp only [m_law_through, wpB, wpS, wpE, wpI, wpA, wpO, wpC, wpL]
  try simp -implicitDefEqProofs only [m_law_through, wpB, wpS, wpE, wpI, wpA, wpO, wpC, wpL, q_ifD, q_ifB, q_ifL, q_ifR, q_ifIs, q_ifBs, q_asI, q_rg0, q_rgs, q_rs0, q_rss, q_add, q_adds, q_addl, q_addt, q_sub, q_mul, q_fdiv, q_mod, q_pow, q_shl, q_trub, q_trui, q_trun, q_trul, q_eq, q_ne, q_lt, q_le, q_gt, q_ge, q_in, q_nin, q_cis, q_cisnt, q_joinl, q_joint, q_split, q_catll, q_catrl, q_catrr, q_catlr, q_setl, q_strs0, q_strsc, q_ifSs, q_clear, q_reverse, q_revl, q_revt, q_revr, q_eqm, q_nem, q_tupr, q_listr, q_lenr, q_lcf, q_lct, q_abs, q_lent, q_lenl, q_lens, q_sum, q_all, q_any, q_tupl, q_tupt, q_listl, q_listt, q_listMl, q_listMt, q_inti, q_intb, q_stri, q_strs, q_strn, q_strb, q_strt, q_strl, q_max, q_min, q_selt, q_sell, q_selr, q_seIt, q_seIl, q_seIr, q_itt, q_itl, q_bn, q_bt, q_btl, q_ba0, q_bas, q_inT, q_ninT, q_frzr, q_frzl, q_slct, q_slcl, q_slcr, q_slcs, q_trut, q_isn, q_isni, q_isnn, q_isnt, q_isnl, q_isne, q_isns, startD, enD, List.map_cons, List.map_nil, List.length_cons, List.length_nil, List.replicate, List.cons_append, List.nil_append, Nat.reduceAdd, Nat.reduceSub, MT.slots, wipeD, isiD, Option.toList_some, Option.toList_none, List.append_nil, List.getElem?_cons_zero, List.getElem?_cons_succ, Option.bind_some, mset_same, mset_mset, if_true, if_false, Bool.false_eq_true, reduceIte, Bool.not_true, Bool.not_false, Bool.true_eq_false, true_and, decide_eq_true_eq, fit_int, fit_bl, fit_non, deq_int, deq_bl]
  refine cell_of (by decide) (by decide) fun n n0 _ => ?_
  try simp -implicitDefEqProofs only [wpB, wpS, wpE, wpI, wpA, wpO, wpC, wpL, q_ifD, q_ifB, q_ifL, q_ifR, q_ifIs, q_ifBs, q_asI, q_rg0, q_rgs, q_rs0, q_rss, q_add, q_adds, q_addl, q_addt, q_sub, q_mul, q_fdiv, q_mod, q_pow, q_shl, q_trub, q_trui, q_trun, q_trul, q_eq, q_ne, q_lt, q_le, q_gt, q_ge, q_in, q_nin, q_cis, q_cisnt, q_joinl, q_joint, q_split, q_catll, q_catrl, q_catrr, q_catlr, q_setl, q_strs0, q_strsc, q_ifSs, q_clear, q_reverse, q_revl, q_revt, q_revr, q_eqm, q_nem, q_tupr, q_listr, q_lenr, q_lcf, q_lct, q_abs, q_lent, q_lenl, q_lens, q_sum, q_all, q_any, q_tupl, q_tupt, q_listl, q_listt, q_listMl, q_listMt, q_inti, q_intb, q_stri, q_strs, q_strn, q_strb, q_strt, q_strl, q_max, q_min, q_selt, q_sell, q_selr, q_seIt, q_seIl, q_seIr, q_itt, q_itl, q_bn, q_bt, q_btl, q_ba0, q_bas, q_inT, q_ninT, q_frzr, q_frzl, q_slct, q_slcl, q_slcr, q_slcs, q_trut, q_isn, q_isni, q_isnn, q_isnt, q_isnl, q_isne, q_isns, startD, enD, List.map_cons, List.map_nil, List.length_cons, List.length_nil, List.replicate, List.cons_append, List.nil_append, Nat.reduceAdd, Nat.reduceSub, MT.slots, wipeD, isiD, Option.toList_some, Option.toList_none, List.append_nil, List.getElem?_cons_zero, List.getElem?_cons_succ, Option.bind_some, mset_same, mset_mset, if_true, if_false, Bool.false_eq_true, reduceIte, Bool.not_true, Bool.not_false, Bool.true_eq_false, true_and, decide_eq_true_eq, fit_int, fit_bl, fit_non, deq_int, deq_bl]
  simp only [m_law_through_1, wpB, wpS, wpE, wpI, wpA, wpO, wpC, wpL]
  try simp -implicitDefEqProofs only [m_law_through_1, wpB, wpS, wpE, wpI, wpA, wpO, wpC, wpL, q_ifD, q_ifB, q_ifL, q_ifR, q_ifIs, q_ifBs, q_asI, q_rg0, q_rgs, q_rs0, q_rss, q_add, q_adds, q_addl, q_addt, q_sub, q_mul, q_fdiv, q_mod, q_pow, q_shl, q_trub, q_trui, q_trun, q_trul, q_eq, q_ne, q_lt, q_le, q_gt, q_ge, q_in, q_nin, q_cis, q_cisnt, q_joinl, q_joint, q_split, q_catll, q_catrl, q_catrr, q_catlr, q_setl, q_strs0, q_strsc, q_ifSs, q_clear, q_reverse, q_revl, q_revt, q_revr, q_eqm, q_nem, q_tupr, q_listr, q_lenr, q_lcf, q_lct, q_abs, q_lent, q_lenl, q_lens, q_sum, q_all, q_any, q_tupl, q_tupt, q_listl, q_listt, q_listMl, q_listMt, q_inti, q_intb, q_stri, q_strs, q_strn, q_strb, q_strt, q_strl, q_max, q_min, q_selt, q_sell, q_selr, q_seIt, q_seIl, q_seIr, q_itt, q_itl, q_bn, q_bt, q_btl, q_ba0, q_bas, q_inT, q_ninT, q_frzr, q_frzl, q_slct, q_slcl, q_slcr, q_slcs, q_trut, q_isn, q_isni, q_isnn, q_isnt, q_isnl, q_isne, q_isns, startD, enD, List.map_cons, List.map_nil, List.length_cons, List.length_nil, List.replicate, List.cons_append, List.nil_append, Nat.reduceAdd, Nat.reduceSub, MT.slots, wipeD, isiD, Option.toList_some, Option.toList_none, List.append_nil, List.getElem?_cons_zero, List.getElem?_cons_succ, Option.bind_some, mset_same, mset_mset, if_true, if_false, Bool.false_eq_true, reduceIte, Bool.not_true, Bool.not_false, Bool.true_eq_false, true_and, decide_eq_true_eq, fit_int, fit_bl, fit_non, deq_int, deq_bl]
  rw [show (D.lst [D.tup [D.int 1, D.int 1], D.tup [D.int (-1), D.int 1], D.tup [D.int 2, D.int 1], D.tup [D.int (-2), D.int 1], D.tup [D.int 3, D.int 1], D.tup [D.int 1, D.int 2], D.tup [D.int (-1), D.int 2], D.tup [D.int 3, D.int 2]]) = .lst (pl8.map qD) from rfl]
  simp only [m_law_through_2, wpB, wpS, wpE, wpI, wpA, wpO, wpC, wpL]
  try simp -implicitDefEqProofs only [m_law_through_2, wpB, wpS, wpE, wpI, wpA, wpO, wpC, wpL, q_ifD, q_ifB, q_ifL, q_ifR, q_ifIs, q_ifBs, q_asI, q_rg0, q_rgs, q_rs0, q_rss, q_add, q_adds, q_addl, q_addt, q_sub, q_mul, q_fdiv, q_mod, q_pow, q_shl, q_trub, q_trui, q_trun, q_trul, q_eq, q_ne, q_lt, q_le, q_gt, q_ge, q_in, q_nin, q_cis, q_cisnt, q_joinl, q_joint, q_split, q_catll, q_catrl, q_catrr, q_catlr, q_setl, q_strs0, q_strsc, q_ifSs, q_clear, q_reverse, q_revl, q_revt, q_revr, q_eqm, q_nem, q_tupr, q_listr, q_lenr, q_lcf, q_lct, q_abs, q_lent, q_lenl, q_lens, q_sum, q_all, q_any, q_tupl, q_tupt, q_listl, q_listt, q_listMl, q_listMt, q_inti, q_intb, q_stri, q_strs, q_strn, q_strb, q_strt, q_strl, q_max, q_min, q_selt, q_sell, q_selr, q_seIt, q_seIl, q_seIr, q_itt, q_itl, q_bn, q_bt, q_btl, q_ba0, q_bas, q_inT, q_ninT, q_frzr, q_frzl, q_slct, q_slcl, q_slcr, q_slcs, q_trut, q_isn, q_isni, q_isnn, q_isnt, q_isnl, q_isne, q_isns, startD, enD, List.map_cons, List.map_nil, List.length_cons, List.length_nil, List.replicate, List.cons_append, List.nil_append, Nat.reduceAdd, Nat.reduceSub, MT.slots, wipeD, isiD, Option.toList_some, Option.toList_none, List.append_nil, List.getElem?_cons_zero, List.getElem?_cons_succ, Option.bind_some, mset_same, mset_mset, if_true, if_false, Bool.false_eq_true, reduceIte, Bool.not_true, Bool.not_false, Bool.true_eq_false, true_and, decide_eq_true_eq, fit_int, fit_bl, fit_non, deq_int, deq_bl]
  refine ⟨by decide, ?_⟩
  obtain ⟨a0, a1⟩ := fmod_pos (x := n) (m := 8) (by decide)
  generalize n.fmod 8 = s at *
  obtain ⟨i, rfl⟩ := Int.eq_ofNat_of_zero_le a0
  simp only [m_law_through_3, wpB, wpS, wpE, wpI, wpA, wpO, wpC, wpL]
  try simp -implicitDefEqProofs only [m_law_through_3, wpB, wpS, wpE, wpI, wpA, wpO, wpC, wpL, q_ifD, q_ifB, q_ifL, q_ifR, q_ifIs, q_ifBs, q_asI, q_rg0, q_rgs, q_rs0, q_rss, q_add, q_adds, q_addl, q_addt, q_sub, q_mul, q_fdiv, q_mod, q_pow, q_shl, q_trub, q_trui, q_trun, q_trul, q_eq, q_ne, q_lt, q_le, q_gt, q_ge, q_in, q_nin, q_cis, q_cisnt, q_joinl, q_joint, q_split, q_catll, q_catrl, q_catrr, q_catlr, q_setl, q_strs0, q_strsc, q_ifSs, q_clear, q_reverse, q_revl, q_revt, q_revr, q_eqm, q_nem, q_tupr, q_listr, q_lenr, q_lcf, q_lct, q_abs, q_lent, q_lenl, q_lens, q_sum, q_all, q_any, q_tupl, q_tupt, q_listl, q_listt, q_listMl, q_listMt, q_inti, q_intb, q_stri, q_strs, q_strn, q_strb, q_strt, q_strl, q_max, q_min, q_selt, q_sell, q_selr, q_seIt, q_seIl, q_seIr, q_itt, q_itl, q_bn, q_bt, q_btl, q_ba0, q_bas, q_inT, q_ninT, q_frzr, q_frzl, q_slct, q_slcl, q_slcr, q_slcs, q_trut, q_isn, q_isni, q_isnn, q_isnt, q_isnl, q_isne, q_isns, startD, enD, List.map_cons, List.map_nil, List.length_cons, List.length_nil, List.replicate, List.cons_append, List.nil_append, Nat.reduceAdd, Nat.reduceSub, MT.slots, wipeD, isiD, Option.toList_some, Option.toList_none, List.append_nil, List.getElem?_cons_zero, List.getElem?_cons_succ, Option.bind_some, mset_same, mset_mset, if_true, if_false, Bool.false_eq_true, reduceIte, Bool.not_true, Bool.not_false, Bool.true_eq_false, true_and, decide_eq_true_eq, fit_int, fit_bl, fit_non, deq_int, deq_bl]
  rw [pl8_at (show i < 8 by omega)]
  try simp -implicitDefEqProofs only [wpB, wpS, wpE, wpI, wpA, wpO, wpC, wpL, q_ifD, q_ifB, q_ifL, q_ifR, q_ifIs, q_ifBs, q_asI, q_rg0, q_rgs, q_rs0, q_rss, q_add, q_adds, q_addl, q_addt, q_sub, q_mul, q_fdiv, q_mod, q_pow, q_shl, q_trub, q_trui, q_trun, q_trul, q_eq, q_ne, q_lt, q_le, q_gt, q_ge, q_in, q_nin, q_cis, q_cisnt, q_joinl, q_joint, q_split, q_catll, q_catrl, q_catrr, q_catlr, q_setl, q_strs0, q_strsc, q_ifSs, q_clear, q_reverse, q_revl, q_revt, q_revr, q_eqm, q_nem, q_tupr, q_listr, q_lenr, q_lcf, q_lct, q_abs, q_lent, q_lenl, q_lens, q_sum, q_all, q_any, q_tupl, q_tupt, q_listl, q_listt, q_listMl, q_listMt, q_inti, q_intb, q_stri, q_strs, q_strn, q_strb, q_strt, q_strl, q_max, q_min, q_selt, q_sell, q_selr, q_seIt, q_seIl, q_seIr, q_itt, q_itl, q_bn, q_bt, q_btl, q_ba0, q_bas, q_inT, q_ninT, q_frzr, q_frzl, q_slct, q_slcl, q_slcr, q_slcs, q_trut, q_isn, q_isni, q_isnn, q_isnt, q_isnl, q_isne, q_isns, startD, enD, List.map_cons, List.map_nil, List.length_cons, List.length_nil, List.replicate, List.cons_append, List.nil_append, Nat.reduceAdd, Nat.reduceSub, MT.slots, wipeD, isiD, Option.toList_some, Option.toList_none, List.append_nil, List.getElem?_cons_zero, List.getElem?_cons_succ, Option.bind_some, mset_same, mset_mset, if_true, if_false, Bool.false_eq_true, reduceIte, Bool.not_true, Bool.not_false, Bool.true_eq_false, true_and, decide_eq_true_eq, fit_int, fit_bl, fit_non, deq_int, deq_bl]
  refine ⟨by decide, by decide, by decide, ?_⟩
  obtain ⟨b0, b1⟩ := fmod_pos (x := n.fdiv 8) (m := 3) (by decide)
  obtain ⟨c0, c1⟩ := fmod_pos (x := n.fdiv 24) (m := 3) (by decide)
  generalize (n.fdiv 8).fmod 3 = u at *
  generalize (n.fdiv 24).fmod 3 = v at *
  have hj : ∃ j : Nat, ((i : Int) + 1 + u).fmod 8 = j ∧ j < 8 ∧ i ≠ j := by
    obtain ⟨d0, d1⟩ := fmod_pos (x := (i : Int) + 1 + u) (m := 8) (by decide)
    rw [Int.fmod_eq_emod_of_nonneg _ (by decide)] at *
    exact ⟨(((i : Int) + 1 + u) % 8).toNat, by omega, by omega, by omega⟩
  have hk : ∃ j : Nat, ((i : Int) + 4 + v).fmod 8 = j ∧ j < 8 ∧ i ≠ j ∧ ((i : Int) + 1 + u).fmod 8 ≠ j := by
    obtain ⟨d0, d1⟩ := fmod_pos (x := (i : Int) + 4 + v) (m := 8) (by decide)
    rw [Int.fmod_eq_emod_of_nonneg _ (by decide)] at *
    rw [Int.fmod_eq_emod_of_nonneg _ (by decide)]
    exact ⟨(((i : Int) + 4 + v) % 8).toNat, by omega, by omega, by omega, by omega⟩
  obtain ⟨j, ej, hj8, hij⟩ := hj
  obtain ⟨k, ek, hk8, hik, hjk⟩ := hk
  rw [ej] at hjk ⊢
  rw [ek]
  have hjk' : j ≠ k := fun e => hjk (by rw [e])
  rw [pl8_at hj8]
  try simp -implicitDefEqProofs only [wpB, wpS, wpE, wpI, wpA, wpO, wpC, wpL, q_ifD, q_ifB, q_ifL, q_ifR, q_ifIs, q_ifBs, q_asI, q_rg0, q_rgs, q_rs0, q_rss, q_add, q_adds, q_addl, q_addt, q_sub, q_mul, q_fdiv, q_mod, q_pow, q_shl, q_trub, q_trui, q_trun, q_trul, q_eq, q_ne, q_lt, q_le, q_gt, q_ge, q_in, q_nin, q_cis, q_cisnt, q_joinl, q_joint, q_split, q_catll, q_catrl, q_catrr, q_catlr, q_setl, q_strs0, q_strsc, q_ifSs, q_clear, q_reverse, q_revl, q_revt, q_revr, q_eqm, q_nem, q_tupr, q_listr, q_lenr, q_lcf, q_lct, q_abs, q_lent, q_lenl, q_lens, q_sum, q_all, q_any, q_tupl, q_tupt, q_listl, q_listt, q_listMl, q_listMt, q_inti, q_intb, q_stri, q_strs, q_strn, q_strb, q_strt, q_strl, q_max, q_min, q_selt, q_sell, q_selr, q_seIt, q_seIl, q_seIr, q_itt, q_itl, q_bn, q_bt, q_btl, q_ba0, q_bas, q_inT, q_ninT, q_frzr, q_frzl, q_slct, q_slcl, q_slcr, q_slcs, q_trut, q_isn, q_isni, q_isnn, q_isnt, q_isnl, q_isne, q_isns, startD, enD, List.map_cons, List.map_nil, List.length_cons, List.length_nil, List.replicate, List.cons_append, List.nil_append, Nat.reduceAdd, Nat.reduceSub, MT.slots, wipeD, isiD, Option.toList_some, Option.toList_none, List.append_nil, List.getElem?_cons_zero, List.getElem?_cons_succ, Option.bind_some, mset_same, mset_mset, if_true, if_false, Bool.false_eq_true, reduceIte, Bool.not_true, Bool.not_false, Bool.true_eq_false, true_and, decide_eq_true_eq, fit_int, fit_bl, fit_non, deq_int, deq_bl]
  refine ⟨by decide, by decide, by decide, ?_⟩
  rw [pl8_at hk8]
  try simp -implicitDefEqProofs only [wpB, wpS, wpE, wpI, wpA, wpO, wpC, wpL, q_ifD, q_ifB, q_ifL, q_ifR, q_ifIs, q_ifBs, q_asI, q_rg0, q_rgs, q_rs0, q_rss, q_add, q_adds, q_addl, q_addt, q_sub, q_mul, q_fdiv, q_mod, q_pow, q_shl, q_trub, q_trui, q_trun, q_trul, q_eq, q_ne, q_lt, q_le, q_gt, q_ge, q_in, q_nin, q_cis, q_cisnt, q_joinl, q_joint, q_split, q_catll, q_catrl, q_catrr, q_catlr, q_setl, q_strs0, q_strsc, q_ifSs, q_clear, q_reverse, q_revl, q_revt, q_revr, q_eqm, q_nem, q_tupr, q_listr, q_lenr, q_lcf, q_lct, q_abs, q_lent, q_lenl, q_lens, q_sum, q_all, q_any, q_tupl, q_tupt, q_listl, q_listt, q_listMl, q_listMt, q_inti, q_intb, q_stri, q_strs, q_strn, q_strb, q_strt, q_strl, q_max, q_min, q_selt, q_sell, q_selr, q_seIt, q_seIl, q_seIr, q_itt, q_itl, q_bn, q_bt, q_btl, q_ba0, q_bas, q_inT, q_ninT, q_frzr, q_frzl, q_slct, q_slcl, q_slcr, q_slcs, q_trut, q_isn, q_isni, q_isnn, q_isnt, q_isnl, q_isne, q_isns, startD, enD, List.map_cons, List.map_nil, List.length_cons, List.length_nil, List.replicate, List.cons_append, List.nil_append, Nat.reduceAdd, Nat.reduceSub, MT.slots, wipeD, isiD, Option.toList_some, Option.toList_none, List.append_nil, List.getElem?_cons_zero, List.getElem?_cons_succ, Option.bind_some, mset_same, mset_mset, if_true, if_false, Bool.false_eq_true, reduceIte, Bool.not_true, Bool.not_false, Bool.true_eq_false, true_and, decide_eq_true_eq, fit_int, fit_bl, fit_non, deq_int, deq_bl]
  obtain ⟨p1, p2, p3⟩ := pl8_ne i (by omega)
  obtain ⟨r1, r2, r3⟩ := pl8_ne j hj8
  obtain ⟨t1, t2, t3⟩ := pl8_ne k hk8
  have d1 := p3 j hj8 hij
  have d2 := p3 k hk8 hik
  have d3 := r3 k hk8 hjk'
  have z1 := sm8_sz p2
  have z2 := sm8_sz r2
  have z3 := sm8_sz t2
  generalize pl8.getD i 0 = x1 at *
  generalize pl8.getD j 0 = x2 at *
  generalize pl8.getD k 0 = x3 at *
  simp only [m_law_through_4, wpB, wpS, wpE, wpI, wpA, wpO, wpC, wpL]
  try simp -implicitDefEqProofs only [m_law_through_4, wpB, wpS, wpE, wpI, wpA, wpO, wpC, wpL, q_ifD, q_ifB, q_ifL, q_ifR, q_ifIs, q_ifBs, q_asI, q_rg0, q_rgs, q_rs0, q_rss, q_add, q_adds, q_addl, q_addt, q_sub, q_mul, q_fdiv, q_mod, q_pow, q_shl, q_trub, q_trui, q_trun, q_trul, q_eq, q_ne, q_lt, q_le, q_gt, q_ge, q_in, q_nin, q_cis, q_cisnt, q_joinl, q_joint, q_split, q_catll, q_catrl, q_catrr, q_catlr, q_setl, q_strs0, q_strsc, q_ifSs, q_clear, q_reverse, q_revl, q_revt, q_revr, q_eqm, q_nem, q_tupr, q_listr, q_lenr, q_lcf, q_lct, q_abs, q_lent, q_lenl, q_lens, q_sum, q_all, q_any, q_tupl, q_tupt, q_listl, q_listt, q_listMl, q_listMt, q_inti, q_intb, q_stri, q_strs, q_strn, q_strb, q_strt, q_strl, q_max, q_min, q_selt, q_sell, q_selr, q_seIt, q_seIl, q_seIr, q_itt, q_itl, q_bn, q_bt, q_btl, q_ba0, q_bas, q_inT, q_ninT, q_frzr, q_frzl, q_slct, q_slcl, q_slcr, q_slcs, q_trut, q_isn, q_isni, q_isnn, q_isnt, q_isnl, q_isne, q_isns, startD, enD, List.map_cons, List.map_nil, List.length_cons, List.length_nil, List.replicate, List.cons_append, List.nil_append, Nat.reduceAdd, Nat.reduceSub, MT.slots, wipeD, isiD, Option.toList_some, Option.toList_none, List.append_nil, List.getElem?_cons_zero, List.getElem?_cons_succ, Option.bind_some, mset_same, mset_mset, if_true, if_false, Bool.false_eq_true, reduceIte, Bool.not_true, Bool.not_false, Bool.true_eq_false, true_and, decide_eq_true_eq, fit_int, fit_bl, fit_non, deq_int, deq_bl]
  intro p hp
  simp only [m_law_through_5, wpB, wpS, wpE, wpI, wpA, wpO, wpC, wpL]
  try simp -implicitDefEqProofs only [m_law_through_5, wpB, wpS, wpE, wpI, wpA, wpO, wpC, wpL, q_ifD, q_ifB, q_ifL, q_ifR, q_ifIs, q_ifBs, q_asI, q_rg0, q_rgs, q_rs0, q_rss, q_add, q_adds, q_addl, q_addt, q_sub, q_mul, q_fdiv, q_mod, q_pow, q_shl, q_trub, q_trui, q_trun, q_trul, q_eq, q_ne, q_lt, q_le, q_gt, q_ge, q_in, q_nin, q_cis, q_cisnt, q_joinl, q_joint, q_split, q_catll, q_catrl, q_catrr, q_catlr, q_setl, q_strs0, q_strsc, q_ifSs, q_clear, q_reverse, q_revl, q_revt, q_revr, q_eqm, q_nem, q_tupr, q_listr, q_lenr, q_lcf, q_lct, q_abs, q_lent, q_lenl, q_lens, q_sum, q_all, q_any, q_tupl, q_tupt, q_listl, q_listt, q_listMl, q_listMt, q_inti, q_intb, q_stri, q_strs, q_strn, q_strb, q_strt, q_strl, q_max, q_min, q_selt, q_sell, q_selr, q_seIt, q_seIl, q_seIr, q_itt, q_itl, q_bn, q_bt, q_btl, q_ba0, q_bas, q_inT, q_ninT, q_frzr, q_frzl, q_slct, q_slcl, q_slcr, q_slcs, q_trut, q_isn, q_isni, q_isnn, q_isnt, q_isnl, q_isne, q_isns, startD, enD, List.map_cons, List.map_nil, List.length_cons, List.length_nil, List.replicate, List.cons_append, List.nil_append, Nat.reduceAdd, Nat.reduceSub, MT.slots, wipeD, isiD, Option.toList_some, Option.toList_none, List.append_nil, List.getElem?_cons_zero, List.getElem?_cons_succ, Option.bind_some, mset_same, mset_mset, if_true, if_false, Bool.false_eq_true, reduceIte, Bool.not_true, Bool.not_false, Bool.true_eq_false, true_and, decide_eq_true_eq, fit_int, fit_bl, fit_non, deq_int, deq_bl]
  refine ⟨by decide, ?_⟩
  refine forW_by (fun ds ρ μ' => ∃ (k r : Nat) (L : List Sp) (y6 y7 : Option D), k + r = 3 ∧ ds = rngD (k : Int) r ∧ μ' = mset μ p (L.map spS) ∧ L.map (·.1) = [x1, x2, x3].take k ∧ (∀ P ∈ L, szP 8 P) ∧ ρ = [some (.lst (ns.map .int)), some (.int n), some (.lst (pl8.map qD)), some (.int i), some (.lst [qD x1, qD x2, qD x3]), some (.ref p), y6, y7]) ?_ ?_ _ _ _ ⟨0, 3, [], _, _, rfl, rfl, rfl, rfl, fun _ h => (by cases h), rfl⟩
  · rintro d ds ρ μ' kk ⟨m, r, L, y6, y7, hm, hd, rfl, hL, hs, rfl⟩ hk
    cases r with
    | zero => cases hd
    | succ r =>
    rw [rngD_cons] at hd
    obtain ⟨rfl, rfl⟩ := List.cons.inj hd
    have m3 : m < 3 := by omega
    simp only [m_law_through_5a, wpB, wpS, wpE, wpI, wpA, wpO, wpC, wpL]
    try simp -implicitDefEqProofs only [m_law_through_5a, wpB, wpS, wpE, wpI, wpA, wpO, wpC, wpL, q_ifD, q_ifB, q_ifL, q_ifR, q_ifIs, q_ifBs, q_asI, q_rg0, q_rgs, q_rs0, q_rss, q_add, q_adds, q_addl, q_addt, q_sub, q_mul, q_fdiv, q_mod, q_pow, q_shl, q_trub, q_trui, q_trun, q_trul, q_eq, q_ne, q_lt, q_le, q_gt, q_ge, q_in, q_nin, q_cis, q_cisnt, q_joinl, q_joint, q_split, q_catll, q_catrl, q_catrr, q_catlr, q_setl, q_strs0, q_strsc, q_ifSs, q_clear, q_reverse, q_revl, q_revt, q_revr, q_eqm, q_nem, q_tupr, q_listr, q_lenr, q_lcf, q_lct, q_abs, q_lent, q_lenl, q_lens, q_sum, q_all, q_any, q_tupl, q_tupt, q_listl, q_listt, q_listMl, q_listMt, q_inti, q_intb, q_stri, q_strs, q_strn, q_strb, q_strt, q_strl, q_max, q_min, q_selt, q_sell, q_selr, q_seIt, q_seIl, q_seIr, q_itt, q_itl, q_bn, q_bt, q_btl, q_ba0, q_bas, q_inT, q_ninT, q_frzr, q_frzl, q_slct, q_slcl, q_slcr, q_slcs, q_trut, q_isn, q_isni, q_isnn, q_isnt, q_isnl, q_isne, q_isns, startD, enD, List.map_cons, List.map_nil, List.length_cons, List.length_nil, List.replicate, List.cons_append, List.nil_append, Nat.reduceAdd, Nat.reduceSub, MT.slots, wipeD, isiD, Option.toList_some, Option.toList_none, List.append_nil, List.getElem?_cons_zero, List.getElem?_cons_succ, Option.bind_some, mset_same, mset_mset, if_true, if_false, Bool.false_eq_true, reduceIte, Bool.not_true, Bool.not_false, Bool.true_eq_false, true_and, decide_eq_true_eq, fit_int, fit_bl, fit_non, deq_int, deq_bl]
    refine ⟨mul_ok 3 2 (by decide) (by omega) (by decide), by show (_ : Int) ≠ 0; omega, by decide, ifD_at (fmod_pos (by decide)).1 (fmod_pos (by decide)).2 fun y hy => ?_⟩
    obtain ⟨a, rfl, ha⟩ : ∃ a : Int, y = .int a ∧ a.natAbs < 2 ^ 8 := by
      simp only [List.mem_cons, List.not_mem_nil, or_false] at hy
      rcases hy with rfl | rfl | rfl | rfl | rfl | rfl | rfl <;> exact ⟨_, rfl, by decide⟩
    obtain ⟨xm, hxm, sxm⟩ : ∃ x, [x1, x2, x3][m]? = some x ∧ szQ 8 x := by
      rcases m with _ | _ | _ | m
      · exact ⟨x1, rfl, z1⟩
      · exact ⟨x2, rfl, z2⟩
      · exact ⟨x3, rfl, z3⟩
      · omega
    have ha1 : L2.atI [qD x1, qD x2, qD x3] (m : Int) = some (qD xm) := at_natD (by
      show ([x1, x2, x3].map qD)[m]? = _
      rw [List.getElem?_map, hxm]; rfl)
    simp only [m_law_through_5a_1, wpB, wpS, wpE, wpI, wpA, wpO, wpC, wpL]
    try simp -implicitDefEqProofs only [m_law_through_5a_1, mset_same, Option.isSome_some, ha1, wpB, wpS, wpE, wpI, wpA, wpO, wpC, wpL, q_ifD, q_ifB, q_ifL, q_ifR, q_ifIs, q_ifBs, q_asI, q_rg0, q_rgs, q_rs0, q_rss, q_add, q_adds, q_addl, q_addt, q_sub, q_mul, q_fdiv, q_mod, q_pow, q_shl, q_trub, q_trui, q_trun, q_trul, q_eq, q_ne, q_lt, q_le, q_gt, q_ge, q_in, q_nin, q_cis, q_cisnt, q_joinl, q_joint, q_split, q_catll, q_catrl, q_catrr, q_catlr, q_setl, q_strs0, q_strsc, q_ifSs, q_clear, q_reverse, q_revl, q_revt, q_revr, q_eqm, q_nem, q_tupr, q_listr, q_lenr, q_lcf, q_lct, q_abs, q_lent, q_lenl, q_lens, q_sum, q_all, q_any, q_tupl, q_tupt, q_listl, q_listt, q_listMl, q_listMt, q_inti, q_intb, q_stri, q_strs, q_strn, q_strb, q_strt, q_strl, q_max, q_min, q_selt, q_sell, q_selr, q_seIt, q_seIl, q_seIr, q_itt, q_itl, q_bn, q_bt, q_btl, q_ba0, q_bas, q_inT, q_ninT, q_frzr, q_frzl, q_slct, q_slcl, q_slcr, q_slcs, q_trut, q_isn, q_isni, q_isnn, q_isnt, q_isnl, q_isne, q_isns, startD, enD, List.map_cons, List.map_nil, List.length_cons, List.length_nil, List.replicate, List.cons_append, List.nil_append, Nat.reduceAdd, Nat.reduceSub, MT.slots, wipeD, isiD, Option.toList_some, Option.toList_none, List.append_nil, List.getElem?_cons_zero, List.getElem?_cons_succ, Option.bind_some, mset_same, mset_mset, if_true, if_false, Bool.false_eq_true, reduceIte, Bool.not_true, Bool.not_false, Bool.true_eq_false, true_and, decide_eq_true_eq, fit_int, fit_bl, fit_non, deq_int, deq_bl]
    refine ⟨mul_ok 4 2 (by decide) (by omega) (by decide), by show (_ : Int) ≠ 0; omega, by decide, ?_⟩
    obtain ⟨e0, e1⟩ := fmod_pos (x := n.fdiv (1000 + 11 * (m : Int))) (m := 2) (by decide)
    generalize (n.fdiv (1000 + 11 * (m : Int))).fmod 2 = w at *
    have w0 : 1 + w ≠ 0 := by omega
    refine ⟨_, _, rfl, rfl, w0, ?_⟩
    rw [frD_eq, frP_q w0]
    have sy : szQ 8 (Rat.divInt a (1 + w)) := szQ_mk w0 ha (by omega)
    generalize Rat.divInt a (1 + w) = y at *
    have lL : L.length = m := by
      have := congrArg List.length hL
      rw [List.length_map, List.length_take] at this
      simp only [List.length_cons, List.length_nil] at this
      omega
    simp -implicitDefEqProofs only [mset_same, mset_mset, wpB, wpS, wpE, wpI, wpA, wpO, wpC, wpL, q_ifD, q_ifB, q_ifL, q_ifR, q_ifIs, q_ifBs, q_asI, q_rg0, q_rgs, q_rs0, q_rss, q_add, q_adds, q_addl, q_addt, q_sub, q_mul, q_fdiv, q_mod, q_pow, q_shl, q_trub, q_trui, q_trun, q_trul, q_eq, q_ne, q_lt, q_le, q_gt, q_ge, q_in, q_nin, q_cis, q_cisnt, q_joinl, q_joint, q_split, q_catll, q_catrl, q_catrr, q_catlr, q_setl, q_strs0, q_strsc, q_ifSs, q_clear, q_reverse, q_revl, q_revt, q_revr, q_eqm, q_nem, q_tupr, q_listr, q_lenr, q_lcf, q_lct, q_abs, q_lent, q_lenl, q_lens, q_sum, q_all, q_any, q_tupl, q_tupt, q_listl, q_listt, q_listMl, q_listMt, q_inti, q_intb, q_stri, q_strs, q_strn, q_strb, q_strt, q_strl, q_max, q_min, q_selt, q_sell, q_selr, q_seIt, q_seIl, q_seIr, q_itt, q_itl, q_bn, q_bt, q_btl, q_ba0, q_bas, q_inT, q_ninT, q_frzr, q_frzl, q_slct, q_slcl, q_slcr, q_slcs, q_trut, q_isn, q_isni, q_isnn, q_isnt, q_isnl, q_isne, q_isns, startD, enD, List.map_cons, List.map_nil, List.length_cons, List.length_nil, List.replicate, List.cons_append, List.nil_append, Nat.reduceAdd, Nat.reduceSub, MT.slots, wipeD, isiD, Option.toList_some, Option.toList_none, List.append_nil, List.getElem?_cons_zero, List.getElem?_cons_succ, Option.bind_some, mset_same, mset_mset, if_true, if_false, Bool.false_eq_true, reduceIte, Bool.not_true, Bool.not_false, Bool.true_eq_false, true_and, decide_eq_true_eq, fit_int, fit_bl, fit_non, deq_int, deq_bl]
    refine ⟨by rw [List.length_map]; omega, ?_⟩
    refine hk _ _ ⟨m + 1, r, L ++ [(xm, y)], _, _, by omega, by rw [Int.natCast_succ], by rw [List.map_append]; rfl, ?_, ?_, rfl⟩
    · rw [List.map_append, hL, List.take_add_one, hxm]; rfl
    · intro P hP
      rcases List.mem_append.mp hP with h | h
      · exact hs P h
      · rw [List.mem_singleton.mp h]; exact ⟨sxm, sy⟩
  · rintro ρ μ' ⟨m, r, L, y6, y7, hm, hd, rfl, hL, hs, rfl⟩
    cases r with
    | succ r => rw [rngD_cons] at hd; cases hd
    | zero =>
    have : m = 3 := by omega
    subst this
    match L, hL, hs with
    | [P1, P2, P3], hL, hs =>
      simp only [List.map_cons, List.map_nil, List.take_succ_cons, List.take_zero, List.cons.injEq, and_true] at hL
      obtain ⟨e1, e2, e3⟩ := hL
      simp only [m_law_through_6, wpB, wpS, wpE, wpI, wpA, wpO, wpC, wpL]
      try simp -implicitDefEqProofs only [m_law_through_6, mset_same, wpB, wpS, wpE, wpI, wpA, wpO, wpC, wpL, q_ifD, q_ifB, q_ifL, q_ifR, q_ifIs, q_ifBs, q_asI, q_rg0, q_rgs, q_rs0, q_rss, q_add, q_adds, q_addl, q_addt, q_sub, q_mul, q_fdiv, q_mod, q_pow, q_shl, q_trub, q_trui, q_trun, q_trul, q_eq, q_ne, q_lt, q_le, q_gt, q_ge, q_in, q_nin, q_cis, q_cisnt, q_joinl, q_joint, q_split, q_catll, q_catrl, q_catrr, q_catlr, q_setl, q_strs0, q_strsc, q_ifSs, q_clear, q_reverse, q_revl, q_revt, q_revr, q_eqm, q_nem, q_tupr, q_listr, q_lenr, q_lcf, q_lct, q_abs, q_lent, q_lenl, q_lens, q_sum, q_all, q_any, q_tupl, q_tupt, q_listl, q_listt, q_listMl, q_listMt, q_inti, q_intb, q_stri, q_strs, q_strn, q_strb, q_strt, q_strl, q_max, q_min, q_selt, q_sell, q_selr, q_seIt, q_seIl, q_seIr, q_itt, q_itl, q_bn, q_bt, q_btl, q_ba0, q_bas, q_inT, q_ninT, q_frzr, q_frzl, q_slct, q_slcl, q_slcr, q_slcs, q_trut, q_isn, q_isni, q_isnn, q_isnt, q_isnl, q_isne, q_isns, startD, enD, List.map_cons, List.map_nil, List.length_cons, List.length_nil, List.replicate, List.cons_append, List.nil_append, Nat.reduceAdd, Nat.reduceSub, MT.slots, wipeD, isiD, Option.toList_some, Option.toList_none, List.append_nil, List.getElem?_cons_zero, List.getElem?_cons_succ, Option.bind_some, mset_same, mset_mset, if_true, if_false, Bool.false_eq_true, reduceIte, Bool.not_true, Bool.not_false, Bool.true_eq_false, true_and, decide_eq_true_eq, fit_int, fit_bl, fit_non, deq_int, deq_bl]
      rw [mdel_mset _ _ _ hp]
      rw [← e1] at p1 d1 d2
      rw [← e2] at r1 d1 d3
      rw [← e3] at t1 d2 d3
      exact q P1 P2 P3 p1 r1 t1 d1 d2 d3 (hs _ (by simp)) (hs _ (by simp)) (hs _ (by simp)))
def S_law_cubic : DSp := sp1 fun x μ Q _ => ∃ P1 P2 P3 : Sp, x = .lst [spS P1, spS P2, spS P3] ∧ P1.1 ≠ 0 ∧ P2.1 ≠ 0 ∧ P3.1 ≠ 0 ∧ P1.1 ≠ P2.1 ∧ P1.1 ≠ P3.1 ∧ P2.1 ≠ P3.1 ∧ szP 8 P1 ∧ szP 8 P2 ∧ szP 8 P3 ∧ ∀ (c : Cub) (μ' : Mu), exM μ μ' → OnC c P1 → OnC c P2 → OnC c P3 → szC 1000 c → Q (cuD c) μ'
def N_law_cubic : List Str := ["_law_spots", "_law_worths", "_law_first", "_law_other", "_law_k", "_law_h", "_law_g", "_law_t", "_law_y", "_law_one", "_law_two", "_law_three", "_law_spot"]
def m_law_cubic_8 : MB := (.cons (.ret (.tup (.cons (.var 6) (.cons (.var 5) (.cons (.var 4) .nil))))) .nil)
def m_law_cubic_7 : MB := (.cons (.asg (.name 6) (.call "_law_sub" S_law_sub (.cons (.ixc (.var 1) 0) (.cons (.call "_law_add" S_law_add (.cons (.call "_law_mul" S_law_mul (.cons (.var 5) (.cons (.var 9) .nil))) (.cons (.call "_law_all" S_law_all (.cons (.lst (.cons (.var 4) (.cons (.var 9) (.cons (.var 9) .nil)))) .nil)) .nil))) .nil)))) m_law_cubic_8)
def m_law_cubic_6 : MB := (.cons (.asg (.name 5) (.call "_law_sub" S_law_sub (.cons (.var 2) (.cons (.call "_law_mul" S_law_mul (.cons (.var 4) (.cons (.call "_law_add" S_law_add (.cons (.var 9) (.cons (.var 10) .nil))) .nil))) .nil)))) m_law_cubic_7)
def m_law_cubic_5 : MB := (.cons (.asg (.name 4) (.call "_law_by" S_law_by (.cons (.call "_law_sub" S_law_sub (.cons (.var 3) (.cons (.var 2) .nil))) (.cons (.call "_law_sub" S_law_sub (.cons (.var 11) (.cons (.var 10) .nil))) .nil)))) m_law_cubic_6)
def m_law_cubic_4 : MB := (.cons (.asg (.name 3) (.call "_law_by" S_law_by (.cons (.call "_law_sub" S_law_sub (.cons (.ixc (.var 1) 2) (.cons (.ixc (.var 1) 0) .nil))) (.cons (.call "_law_sub" S_law_sub (.cons (.var 11) (.cons (.var 9) .nil))) .nil)))) m_law_cubic_5)
def m_law_cubic_3 : MB := (.cons (.asg (.name 2) (.call "_law_by" S_law_by (.cons (.call "_law_sub" S_law_sub (.cons (.ixc (.var 1) 1) (.cons (.ixc (.var 1) 0) .nil))) (.cons (.call "_law_sub" S_law_sub (.cons (.var 10) (.cons (.var 9) .nil))) .nil)))) m_law_cubic_4)
def m_law_cubic_2 : MB := (.cons (.asg (.tup [9, 10, 11]) (.lc false (.name 12) (.seq (.var 0)) .no (.ixc (.var 12) 0))) m_law_cubic_3)
def m_law_cubic_1a : MB := (.cons (.app (.var 1) (.call "_law_by" S_law_by (.cons (.call "_law_sub" S_law_sub (.cons (.call "_law_mul" S_law_mul (.cons (.var 8) (.cons (.var 8) .nil))) (.cons (.tup (.cons (.int 1) (.cons (.int 1) .nil))) .nil))) (.cons (.var 7) .nil)))) .nil)
def m_law_cubic_1 : MB := (.cons (.loop (.tup [7, 8]) (.seq (.var 0)) m_law_cubic_1a) m_law_cubic_2)
def m_law_cubic : MB := (.cons (.asg (.name 1) (.newl .nil)) m_law_cubic_1)
-- slots: 0=_law_spots 1=_law_worths 2=_law_first 3=_law_other 4=_law_k 5=_law_h 6=_law_g 7=_law_t 8=_law_y 9=_law_one 10=_law_two 11=_law_three 12=_law_spot
theorem w_law_cubic : ∀ ds μ Q X, S_law_cubic ds μ Q X → ds.length = 1 ∧ wpB m_law_cubic (startD 13 ds) μ (enD Q X) := sp1_of (by
  rintro x μ Q X ⟨⟨t1, y1⟩, ⟨t2, y2⟩, ⟨t3, y3⟩, rfl, n1, n2, n3, d12, d13, d23, ⟨s1, u1⟩, ⟨s2, u2⟩, ⟨s3, u3⟩, q⟩
  simp only at n1 n2 n3 d12 d13 d23 s1 s2 s3 u1 u2 u3
  simp only [m_law_cubic, wpB, wpS, wpE, wpI, wpA, wpO, wpC, wpL]
  try simp -implicitDefEqProofs only [m_law_cubic, wpB, wpS, wpE, wpI, wpA, wpO, wpC, wpL, q_ifD, q_ifB, q_ifL, q_ifR, q_ifIs, q_ifBs, q_asI, q_rg0, q_rgs, q_rs0, q_rss, q_add, q_adds, q_addl, q_addt, q_sub, q_mul, q_fdiv, q_mod, q_pow, q_shl, q_trub, q_trui, q_trun, q_trul, q_eq, q_ne, q_lt, q_le, q_gt, q_ge, q_in, q_nin, q_cis, q_cisnt, q_joinl, q_joint, q_split, q_catll, q_catrl, q_catrr, q_catlr, q_setl, q_strs0, q_strsc, q_ifSs, q_clear, q_reverse, q_revl, q_revt, q_revr, q_eqm, q_nem, q_tupr, q_listr, q_lenr, q_lcf, q_lct, q_abs, q_lent, q_lenl, q_lens, q_sum, q_all, q_any, q_tupl, q_tupt, q_listl, q_listt, q_listMl, q_listMt, q_inti, q_intb, q_stri, q_strs, q_strn, q_strb, q_strt, q_strl, q_max, q_min, q_selt, q_sell, q_selr, q_seIt, q_seIl, q_seIr, q_itt, q_itl, q_bn, q_bt, q_btl, q_ba0, q_bas, q_inT, q_ninT, q_frzr, q_frzl, q_slct, q_slcl, q_slcr, q_slcs, q_trut, q_isn, q_isni, q_isnn, q_isnt, q_isnl, q_isne, q_isns, startD, enD, List.map_cons, List.map_nil, List.length_cons, List.length_nil, List.replicate, List.cons_append, List.nil_append, Nat.reduceAdd, Nat.reduceSub, MT.slots, wipeD, isiD, Option.toList_some, Option.toList_none, List.append_nil, List.getElem?_cons_zero, List.getElem?_cons_succ, Option.bind_some, mset_same, mset_mset, if_true, if_false, Bool.false_eq_true, reduceIte, Bool.not_true, Bool.not_false, Bool.true_eq_false, true_and, decide_eq_true_eq, fit_int, fit_bl, fit_non, deq_int, deq_bl]
  intro p hp
  simp only [m_law_cubic_1, m_law_cubic_1a, wpB, wpS, wpE, wpI, wpA, wpO, wpC, wpL]
  try simp -implicitDefEqProofs only [m_law_cubic_1, m_law_cubic_1a, forW, mset_same, Option.isSome_some, wpB, wpS, wpE, wpI, wpA, wpO, wpC, wpL, q_ifD, q_ifB, q_ifL, q_ifR, q_ifIs, q_ifBs, q_asI, q_rg0, q_rgs, q_rs0, q_rss, q_add, q_adds, q_addl, q_addt, q_sub, q_mul, q_fdiv, q_mod, q_pow, q_shl, q_trub, q_trui, q_trun, q_trul, q_eq, q_ne, q_lt, q_le, q_gt, q_ge, q_in, q_nin, q_cis, q_cisnt, q_joinl, q_joint, q_split, q_catll, q_catrl, q_catrr, q_catlr, q_setl, q_strs0, q_strsc, q_ifSs, q_clear, q_reverse, q_revl, q_revt, q_revr, q_eqm, q_nem, q_tupr, q_listr, q_lenr, q_lcf, q_lct, q_abs, q_lent, q_lenl, q_lens, q_sum, q_all, q_any, q_tupl, q_tupt, q_listl, q_listt, q_listMl, q_listMt, q_inti, q_intb, q_stri, q_strs, q_strn, q_strb, q_strt, q_strl, q_max, q_min, q_selt, q_sell, q_selr, q_seIt, q_seIl, q_seIr, q_itt, q_itl, q_bn, q_bt, q_btl, q_ba0, q_bas, q_inT, q_ninT, q_frzr, q_frzl, q_slct, q_slcl, q_slcr, q_slcs, q_trut, q_isn, q_isni, q_isnn, q_isnt, q_isnl, q_isne, q_isns, startD, enD, List.map_cons, List.map_nil, List.length_cons, List.length_nil, List.replicate, List.cons_append, List.nil_append, Nat.reduceAdd, Nat.reduceSub, MT.slots, wipeD, isiD, Option.toList_some, Option.toList_none, List.append_nil, List.getElem?_cons_zero, List.getElem?_cons_succ, Option.bind_some, mset_same, mset_mset, if_true, if_false, Bool.false_eq_true, reduceIte, Bool.not_true, Bool.not_false, Bool.true_eq_false, true_and, decide_eq_true_eq, fit_int, fit_bl, fit_non, deq_int, deq_bl]
  rw [q_one]
  refine lmul_q u1 u1 (by decide) fun z1 => ?_
  refine lsub_q z1 s1q (by decide) fun z2 => ?_
  refine lby_q z2 s1 (by decide) n1 fun w1 => ?_
  simp -implicitDefEqProofs only [mset_same, mset_mset, Option.isSome_some, wpB, wpS, wpE, wpI, wpA, wpO, wpC, wpL, q_ifD, q_ifB, q_ifL, q_ifR, q_ifIs, q_ifBs, q_asI, q_rg0, q_rgs, q_rs0, q_rss, q_add, q_adds, q_addl, q_addt, q_sub, q_mul, q_fdiv, q_mod, q_pow, q_shl, q_trub, q_trui, q_trun, q_trul, q_eq, q_ne, q_lt, q_le, q_gt, q_ge, q_in, q_nin, q_cis, q_cisnt, q_joinl, q_joint, q_split, q_catll, q_catrl, q_catrr, q_catlr, q_setl, q_strs0, q_strsc, q_ifSs, q_clear, q_reverse, q_revl, q_revt, q_revr, q_eqm, q_nem, q_tupr, q_listr, q_lenr, q_lcf, q_lct, q_abs, q_lent, q_lenl, q_lens, q_sum, q_all, q_any, q_tupl, q_tupt, q_listl, q_listt, q_listMl, q_listMt, q_inti, q_intb, q_stri, q_strs, q_strn, q_strb, q_strt, q_strl, q_max, q_min, q_selt, q_sell, q_selr, q_seIt, q_seIl, q_seIr, q_itt, q_itl, q_bn, q_bt, q_btl, q_ba0, q_bas, q_inT, q_ninT, q_frzr, q_frzl, q_slct, q_slcl, q_slcr, q_slcs, q_trut, q_isn, q_isni, q_isnn, q_isnt, q_isnl, q_isne, q_isns, startD, enD, List.map_cons, List.map_nil, List.length_cons, List.length_nil, List.replicate, List.cons_append, List.nil_append, Nat.reduceAdd, Nat.reduceSub, MT.slots, wipeD, isiD, Option.toList_some, Option.toList_none, List.append_nil, List.getElem?_cons_zero, List.getElem?_cons_succ, Option.bind_some, mset_same, mset_mset, if_true, if_false, Bool.false_eq_true, reduceIte, Bool.not_true, Bool.not_false, Bool.true_eq_false, true_and, decide_eq_true_eq, fit_int, fit_bl, fit_non, deq_int, deq_bl]
  refine ⟨by decide, ?_⟩
  try rw [q_one]
  refine lmul_q u2 u2 (by decide) fun z3 => ?_
  refine lsub_q z3 s1q (by decide) fun z4 => ?_
  refine lby_q z4 s2 (by decide) n2 fun w2 => ?_
  simp -implicitDefEqProofs only [mset_same, mset_mset, Option.isSome_some, wpB, wpS, wpE, wpI, wpA, wpO, wpC, wpL, q_ifD, q_ifB, q_ifL, q_ifR, q_ifIs, q_ifBs, q_asI, q_rg0, q_rgs, q_rs0, q_rss, q_add, q_adds, q_addl, q_addt, q_sub, q_mul, q_fdiv, q_mod, q_pow, q_shl, q_trub, q_trui, q_trun, q_trul, q_eq, q_ne, q_lt, q_le, q_gt, q_ge, q_in, q_nin, q_cis, q_cisnt, q_joinl, q_joint, q_split, q_catll, q_catrl, q_catrr, q_catlr, q_setl, q_strs0, q_strsc, q_ifSs, q_clear, q_reverse, q_revl, q_revt, q_revr, q_eqm, q_nem, q_tupr, q_listr, q_lenr, q_lcf, q_lct, q_abs, q_lent, q_lenl, q_lens, q_sum, q_all, q_any, q_tupl, q_tupt, q_listl, q_listt, q_listMl, q_listMt, q_inti, q_intb, q_stri, q_strs, q_strn, q_strb, q_strt, q_strl, q_max, q_min, q_selt, q_sell, q_selr, q_seIt, q_seIl, q_seIr, q_itt, q_itl, q_bn, q_bt, q_btl, q_ba0, q_bas, q_inT, q_ninT, q_frzr, q_frzl, q_slct, q_slcl, q_slcr, q_slcs, q_trut, q_isn, q_isni, q_isnn, q_isnt, q_isnl, q_isne, q_isns, startD, enD, List.map_cons, List.map_nil, List.length_cons, List.length_nil, List.replicate, List.cons_append, List.nil_append, Nat.reduceAdd, Nat.reduceSub, MT.slots, wipeD, isiD, Option.toList_some, Option.toList_none, List.append_nil, List.getElem?_cons_zero, List.getElem?_cons_succ, Option.bind_some, mset_same, mset_mset, if_true, if_false, Bool.false_eq_true, reduceIte, Bool.not_true, Bool.not_false, Bool.true_eq_false, true_and, decide_eq_true_eq, fit_int, fit_bl, fit_non, deq_int, deq_bl]
  refine ⟨by decide, ?_⟩
  try rw [q_one]
  refine lmul_q u3 u3 (by decide) fun z5 => ?_
  refine lsub_q z5 s1q (by decide) fun z6 => ?_
  refine lby_q z6 s3 (by decide) n3 fun w3 => ?_
  simp -implicitDefEqProofs only [mset_same, mset_mset, wpB, wpS, wpE, wpI, wpA, wpO, wpC, wpL, q_ifD, q_ifB, q_ifL, q_ifR, q_ifIs, q_ifBs, q_asI, q_rg0, q_rgs, q_rs0, q_rss, q_add, q_adds, q_addl, q_addt, q_sub, q_mul, q_fdiv, q_mod, q_pow, q_shl, q_trub, q_trui, q_trun, q_trul, q_eq, q_ne, q_lt, q_le, q_gt, q_ge, q_in, q_nin, q_cis, q_cisnt, q_joinl, q_joint, q_split, q_catll, q_catrl, q_catrr, q_catlr, q_setl, q_strs0, q_strsc, q_ifSs, q_clear, q_reverse, q_revl, q_revt, q_revr, q_eqm, q_nem, q_tupr, q_listr, q_lenr, q_lcf, q_lct, q_abs, q_lent, q_lenl, q_lens, q_sum, q_all, q_any, q_tupl, q_tupt, q_listl, q_listt, q_listMl, q_listMt, q_inti, q_intb, q_stri, q_strs, q_strn, q_strb, q_strt, q_strl, q_max, q_min, q_selt, q_sell, q_selr, q_seIt, q_seIl, q_seIr, q_itt, q_itl, q_bn, q_bt, q_btl, q_ba0, q_bas, q_inT, q_ninT, q_frzr, q_frzl, q_slct, q_slcl, q_slcr, q_slcs, q_trut, q_isn, q_isni, q_isnn, q_isnt, q_isnl, q_isne, q_isns, startD, enD, List.map_cons, List.map_nil, List.length_cons, List.length_nil, List.replicate, List.cons_append, List.nil_append, Nat.reduceAdd, Nat.reduceSub, MT.slots, wipeD, isiD, Option.toList_some, Option.toList_none, List.append_nil, List.getElem?_cons_zero, List.getElem?_cons_succ, Option.bind_some, mset_same, mset_mset, if_true, if_false, Bool.false_eq_true, reduceIte, Bool.not_true, Bool.not_false, Bool.true_eq_false, true_and, decide_eq_true_eq, fit_int, fit_bl, fit_non, deq_int, deq_bl]
  refine ⟨by decide, ?_⟩
  have e1 : (y1 * y1 - 1) / t1 * t1 = y1 * y1 - 1 := by grind
  have e2 : (y2 * y2 - 1) / t2 * t2 = y2 * y2 - 1 := by grind
  have e3 : (y3 * y3 - 1) / t3 * t3 = y3 * y3 - 1 := by grind
  generalize (y1 * y1 - 1) / t1 = v1 at *
  generalize (y2 * y2 - 1) / t2 = v2 at *
  generalize (y3 * y3 - 1) / t3 = v3 at *
  simp only [m_law_cubic_2, wpB, wpS, wpE, wpI, wpA, wpO, wpC, wpL]
  try simp -implicitDefEqProofs only [m_law_cubic_2, lcW, wpB, wpS, wpE, wpI, wpA, wpO, wpC, wpL, q_ifD, q_ifB, q_ifL, q_ifR, q_ifIs, q_ifBs, q_asI, q_rg0, q_rgs, q_rs0, q_rss, q_add, q_adds, q_addl, q_addt, q_sub, q_mul, q_fdiv, q_mod, q_pow, q_shl, q_trub, q_trui, q_trun, q_trul, q_eq, q_ne, q_lt, q_le, q_gt, q_ge, q_in, q_nin, q_cis, q_cisnt, q_joinl, q_joint, q_split, q_catll, q_catrl, q_catrr, q_catlr, q_setl, q_strs0, q_strsc, q_ifSs, q_clear, q_reverse, q_revl, q_revt, q_revr, q_eqm, q_nem, q_tupr, q_listr, q_lenr, q_lcf, q_lct, q_abs, q_lent, q_lenl, q_lens, q_sum, q_all, q_any, q_tupl, q_tupt, q_listl, q_listt, q_listMl, q_listMt, q_inti, q_intb, q_stri, q_strs, q_strn, q_strb, q_strt, q_strl, q_max, q_min, q_selt, q_sell, q_selr, q_seIt, q_seIl, q_seIr, q_itt, q_itl, q_bn, q_bt, q_btl, q_ba0, q_bas, q_inT, q_ninT, q_frzr, q_frzl, q_slct, q_slcl, q_slcr, q_slcs, q_trut, q_isn, q_isni, q_isnn, q_isnt, q_isnl, q_isne, q_isns, startD, enD, List.map_cons, List.map_nil, List.length_cons, List.length_nil, List.replicate, List.cons_append, List.nil_append, Nat.reduceAdd, Nat.reduceSub, MT.slots, wipeD, isiD, Option.toList_some, Option.toList_none, List.append_nil, List.getElem?_cons_zero, List.getElem?_cons_succ, Option.bind_some, mset_same, mset_mset, if_true, if_false, Bool.false_eq_true, reduceIte, Bool.not_true, Bool.not_false, Bool.true_eq_false, true_and, decide_eq_true_eq, fit_int, fit_bl, fit_non, deq_int, deq_bl]
  refine ⟨by decide, ?_⟩
  have m0 : mset μ p [qD v1, qD v2, qD v3] p = some [qD v1, qD v2, qD v3] := mset_same ..
  have xx1 : exM μ (mset μ p [qD v1, qD v2, qD v3]) := (exM.refl μ).new hp
  generalize mset μ p [qD v1, qD v2, qD v3] = μ1 at *
  simp only [m_law_cubic_3, wpB, wpS, wpE, wpI, wpA, wpO, wpC, wpL]
  try simp -implicitDefEqProofs only [m_law_cubic_3, m0, Option.bind_some, wpB, wpS, wpE, wpI, wpA, wpO, wpC, wpL, q_ifD, q_ifB, q_ifL, q_ifR, q_ifIs, q_ifBs, q_asI, q_rg0, q_rgs, q_rs0, q_rss, q_add, q_adds, q_addl, q_addt, q_sub, q_mul, q_fdiv, q_mod, q_pow, q_shl, q_trub, q_trui, q_trun, q_trul, q_eq, q_ne, q_lt, q_le, q_gt, q_ge, q_in, q_nin, q_cis, q_cisnt, q_joinl, q_joint, q_split, q_catll, q_catrl, q_catrr, q_catlr, q_setl, q_strs0, q_strsc, q_ifSs, q_clear, q_reverse, q_revl, q_revt, q_revr, q_eqm, q_nem, q_tupr, q_listr, q_lenr, q_lcf, q_lct, q_abs, q_lent, q_lenl, q_lens, q_sum, q_all, q_any, q_tupl, q_tupt, q_listl, q_listt, q_listMl, q_listMt, q_inti, q_intb, q_stri, q_strs, q_strn, q_strb, q_strt, q_strl, q_max, q_min, q_selt, q_sell, q_selr, q_seIt, q_seIl, q_seIr, q_itt, q_itl, q_bn, q_bt, q_btl, q_ba0, q_bas, q_inT, q_ninT, q_frzr, q_frzl, q_slct, q_slcl, q_slcr, q_slcs, q_trut, q_isn, q_isni, q_isnn, q_isnt, q_isnl, q_isne, q_isns, startD, enD, List.map_cons, List.map_nil, List.length_cons, List.length_nil, List.replicate, List.cons_append, List.nil_append, Nat.reduceAdd, Nat.reduceSub, MT.slots, wipeD, isiD, Option.toList_some, Option.toList_none, List.append_nil, List.getElem?_cons_zero, List.getElem?_cons_succ, Option.bind_some, mset_same, mset_mset, if_true, if_false, Bool.false_eq_true, reduceIte, Bool.not_true, Bool.not_false, Bool.true_eq_false, true_and, decide_eq_true_eq, fit_int, fit_bl, fit_non, deq_int, deq_bl]
  have h12 : t2 - t1 ≠ 0 := by grind
  have h13 : t3 - t1 ≠ 0 := by grind
  have h23 : t3 - t2 ≠ 0 := by grind
  refine lsub_q w2 w1 (by decide) fun a1 => ?_
  refine lsub_q s2 s1 (by decide) fun a2 => ?_
  refine lby_q a1 a2 (by decide) h12 fun a3 => ?_
  simp only [m_law_cubic_4, wpB, wpS, wpE, wpI, wpA, wpO, wpC, wpL]
  try simp -implicitDefEqProofs only [m_law_cubic_4, m0, Option.bind_some, wpB, wpS, wpE, wpI, wpA, wpO, wpC, wpL, q_ifD, q_ifB, q_ifL, q_ifR, q_ifIs, q_ifBs, q_asI, q_rg0, q_rgs, q_rs0, q_rss, q_add, q_adds, q_addl, q_addt, q_sub, q_mul, q_fdiv, q_mod, q_pow, q_shl, q_trub, q_trui, q_trun, q_trul, q_eq, q_ne, q_lt, q_le, q_gt, q_ge, q_in, q_nin, q_cis, q_cisnt, q_joinl, q_joint, q_split, q_catll, q_catrl, q_catrr, q_catlr, q_setl, q_strs0, q_strsc, q_ifSs, q_clear, q_reverse, q_revl, q_revt, q_revr, q_eqm, q_nem, q_tupr, q_listr, q_lenr, q_lcf, q_lct, q_abs, q_lent, q_lenl, q_lens, q_sum, q_all, q_any, q_tupl, q_tupt, q_listl, q_listt, q_listMl, q_listMt, q_inti, q_intb, q_stri, q_strs, q_strn, q_strb, q_strt, q_strl, q_max, q_min, q_selt, q_sell, q_selr, q_seIt, q_seIl, q_seIr, q_itt, q_itl, q_bn, q_bt, q_btl, q_ba0, q_bas, q_inT, q_ninT, q_frzr, q_frzl, q_slct, q_slcl, q_slcr, q_slcs, q_trut, q_isn, q_isni, q_isnn, q_isnt, q_isnl, q_isne, q_isns, startD, enD, List.map_cons, List.map_nil, List.length_cons, List.length_nil, List.replicate, List.cons_append, List.nil_append, Nat.reduceAdd, Nat.reduceSub, MT.slots, wipeD, isiD, Option.toList_some, Option.toList_none, List.append_nil, List.getElem?_cons_zero, List.getElem?_cons_succ, Option.bind_some, mset_same, mset_mset, if_true, if_false, Bool.false_eq_true, reduceIte, Bool.not_true, Bool.not_false, Bool.true_eq_false, true_and, decide_eq_true_eq, fit_int, fit_bl, fit_non, deq_int, deq_bl]
  refine lsub_q w3 w1 (by decide) fun b1 => ?_
  refine lsub_q s3 s1 (by decide) fun b2 => ?_
  refine lby_q b1 b2 (by decide) h13 fun b3 => ?_
  have f1 : (v2 - v1) / (t2 - t1) * (t2 - t1) = v2 - v1 := by grind
  have f2 : (v3 - v1) / (t3 - t1) * (t3 - t1) = v3 - v1 := by grind
  generalize (v2 - v1) / (t2 - t1) = x1 at *
  generalize (v3 - v1) / (t3 - t1) = x2 at *
  simp only [m_law_cubic_5, wpB, wpS, wpE, wpI, wpA, wpO, wpC, wpL]
  try simp -implicitDefEqProofs only [m_law_cubic_5, wpB, wpS, wpE, wpI, wpA, wpO, wpC, wpL, q_ifD, q_ifB, q_ifL, q_ifR, q_ifIs, q_ifBs, q_asI, q_rg0, q_rgs, q_rs0, q_rss, q_add, q_adds, q_addl, q_addt, q_sub, q_mul, q_fdiv, q_mod, q_pow, q_shl, q_trub, q_trui, q_trun, q_trul, q_eq, q_ne, q_lt, q_le, q_gt, q_ge, q_in, q_nin, q_cis, q_cisnt, q_joinl, q_joint, q_split, q_catll, q_catrl, q_catrr, q_catlr, q_setl, q_strs0, q_strsc, q_ifSs, q_clear, q_reverse, q_revl, q_revt, q_revr, q_eqm, q_nem, q_tupr, q_listr, q_lenr, q_lcf, q_lct, q_abs, q_lent, q_lenl, q_lens, q_sum, q_all, q_any, q_tupl, q_tupt, q_listl, q_listt, q_listMl, q_listMt, q_inti, q_intb, q_stri, q_strs, q_strn, q_strb, q_strt, q_strl, q_max, q_min, q_selt, q_sell, q_selr, q_seIt, q_seIl, q_seIr, q_itt, q_itl, q_bn, q_bt, q_btl, q_ba0, q_bas, q_inT, q_ninT, q_frzr, q_frzl, q_slct, q_slcl, q_slcr, q_slcs, q_trut, q_isn, q_isni, q_isnn, q_isnt, q_isnl, q_isne, q_isns, startD, enD, List.map_cons, List.map_nil, List.length_cons, List.length_nil, List.replicate, List.cons_append, List.nil_append, Nat.reduceAdd, Nat.reduceSub, MT.slots, wipeD, isiD, Option.toList_some, Option.toList_none, List.append_nil, List.getElem?_cons_zero, List.getElem?_cons_succ, Option.bind_some, mset_same, mset_mset, if_true, if_false, Bool.false_eq_true, reduceIte, Bool.not_true, Bool.not_false, Bool.true_eq_false, true_and, decide_eq_true_eq, fit_int, fit_bl, fit_non, deq_int, deq_bl]
  refine lsub_q b3 a3 (by decide) fun c1 => ?_
  refine lsub_q s3 s2 (by decide) fun c2 => ?_
  refine lby_q c1 c2 (by decide) h23 fun c3 => ?_
  have f3 : (x2 - x1) / (t3 - t2) * (t3 - t2) = x2 - x1 := by grind
  generalize (x2 - x1) / (t3 - t2) = k at *
  simp only [m_law_cubic_6, wpB, wpS, wpE, wpI, wpA, wpO, wpC, wpL]
  try simp -implicitDefEqProofs only [m_law_cubic_6, wpB, wpS, wpE, wpI, wpA, wpO, wpC, wpL, q_ifD, q_ifB, q_ifL, q_ifR, q_ifIs, q_ifBs, q_asI, q_rg0, q_rgs, q_rs0, q_rss, q_add, q_adds, q_addl, q_addt, q_sub, q_mul, q_fdiv, q_mod, q_pow, q_shl, q_trub, q_trui, q_trun, q_trul, q_eq, q_ne, q_lt, q_le, q_gt, q_ge, q_in, q_nin, q_cis, q_cisnt, q_joinl, q_joint, q_split, q_catll, q_catrl, q_catrr, q_catlr, q_setl, q_strs0, q_strsc, q_ifSs, q_clear, q_reverse, q_revl, q_revt, q_revr, q_eqm, q_nem, q_tupr, q_listr, q_lenr, q_lcf, q_lct, q_abs, q_lent, q_lenl, q_lens, q_sum, q_all, q_any, q_tupl, q_tupt, q_listl, q_listt, q_listMl, q_listMt, q_inti, q_intb, q_stri, q_strs, q_strn, q_strb, q_strt, q_strl, q_max, q_min, q_selt, q_sell, q_selr, q_seIt, q_seIl, q_seIr, q_itt, q_itl, q_bn, q_bt, q_btl, q_ba0, q_bas, q_inT, q_ninT, q_frzr, q_frzl, q_slct, q_slcl, q_slcr, q_slcs, q_trut, q_isn, q_isni, q_isnn, q_isnt, q_isnl, q_isne, q_isns, startD, enD, List.map_cons, List.map_nil, List.length_cons, List.length_nil, List.replicate, List.cons_append, List.nil_append, Nat.reduceAdd, Nat.reduceSub, MT.slots, wipeD, isiD, Option.toList_some, Option.toList_none, List.append_nil, List.getElem?_cons_zero, List.getElem?_cons_succ, Option.bind_some, mset_same, mset_mset, if_true, if_false, Bool.false_eq_true, reduceIte, Bool.not_true, Bool.not_false, Bool.true_eq_false, true_and, decide_eq_true_eq, fit_int, fit_bl, fit_non, deq_int, deq_bl]
  refine ladd_q s1 s2 (by decide) fun g1 => ?_
  refine lmul_q c3 g1 (by decide) fun g2 => ?_
  refine lsub_q a3 g2 (by decide) fun g3 => ?_
  have f4 : x1 - k * (t1 + t2) + k * (t1 + t2) = x1 := by grind
  generalize x1 - k * (t1 + t2) = h at *
  simp only [m_law_cubic_7, wpB, wpS, wpE, wpI, wpA, wpO, wpC, wpL]
  try simp -implicitDefEqProofs only [m_law_cubic_7, m0, Option.bind_some, wpB, wpS, wpE, wpI, wpA, wpO, wpC, wpL, q_ifD, q_ifB, q_ifL, q_ifR, q_ifIs, q_ifBs, q_asI, q_rg0, q_rgs, q_rs0, q_rss, q_add, q_adds, q_addl, q_addt, q_sub, q_mul, q_fdiv, q_mod, q_pow, q_shl, q_trub, q_trui, q_trun, q_trul, q_eq, q_ne, q_lt, q_le, q_gt, q_ge, q_in, q_nin, q_cis, q_cisnt, q_joinl, q_joint, q_split, q_catll, q_catrl, q_catrr, q_catlr, q_setl, q_strs0, q_strsc, q_ifSs, q_clear, q_reverse, q_revl, q_revt, q_revr, q_eqm, q_nem, q_tupr, q_listr, q_lenr, q_lcf, q_lct, q_abs, q_lent, q_lenl, q_lens, q_sum, q_all, q_any, q_tupl, q_tupt, q_listl, q_listt, q_listMl, q_listMt, q_inti, q_intb, q_stri, q_strs, q_strn, q_strb, q_strt, q_strl, q_max, q_min, q_selt, q_sell, q_selr, q_seIt, q_seIl, q_seIr, q_itt, q_itl, q_bn, q_bt, q_btl, q_ba0, q_bas, q_inT, q_ninT, q_frzr, q_frzl, q_slct, q_slcl, q_slcr, q_slcs, q_trut, q_isn, q_isni, q_isnn, q_isnt, q_isnl, q_isne, q_isns, startD, enD, List.map_cons, List.map_nil, List.length_cons, List.length_nil, List.replicate, List.cons_append, List.nil_append, Nat.reduceAdd, Nat.reduceSub, MT.slots, wipeD, isiD, Option.toList_some, Option.toList_none, List.append_nil, List.getElem?_cons_zero, List.getElem?_cons_succ, Option.bind_some, mset_same, mset_mset, if_true, if_false, Bool.false_eq_true, reduceIte, Bool.not_true, Bool.not_false, Bool.true_eq_false, true_and, decide_eq_true_eq, fit_int, fit_bl, fit_non, deq_int, deq_bl]
  refine lmul_q g3 s1 (by decide) fun h1 => ?_
  refine lall_q (L := [(k, _), (t1, _), (t1, _)]) rfl (by simp only [List.mem_cons, List.not_mem_nil, or_false]; rintro p (rfl | rfl | rfl); exact c3; exact s1; exact s1) (by simp [szT]) fun h2 => ?_
  refine ladd_q h1 h2 (by simp [szT]) fun h3 => ?_
  refine lsub_q w1 h3 (by simp [szT]) fun h4 => ?_
  have f5 : ∀ m, prL [(k, m), (t1, 8), (t1, 8)] = k * t1 * t1 := by intro m; simp only [prL, List.map_cons, List.map_nil, List.foldl_cons, List.foldl_nil]; grind
  rw [f5] at h4 ⊢
  simp only [m_law_cubic_8, wpB, wpS, wpE, wpI, wpA, wpO, wpC, wpL]
  try simp -implicitDefEqProofs only [m_law_cubic_8, wpB, wpS, wpE, wpI, wpA, wpO, wpC, wpL, q_ifD, q_ifB, q_ifL, q_ifR, q_ifIs, q_ifBs, q_asI, q_rg0, q_rgs, q_rs0, q_rss, q_add, q_adds, q_addl, q_addt, q_sub, q_mul, q_fdiv, q_mod, q_pow, q_shl, q_trub, q_trui, q_trun, q_trul, q_eq, q_ne, q_lt, q_le, q_gt, q_ge, q_in, q_nin, q_cis, q_cisnt, q_joinl, q_joint, q_split, q_catll, q_catrl, q_catrr, q_catlr, q_setl, q_strs0, q_strsc, q_ifSs, q_clear, q_reverse, q_revl, q_revt, q_revr, q_eqm, q_nem, q_tupr, q_listr, q_lenr, q_lcf, q_lct, q_abs, q_lent, q_lenl, q_lens, q_sum, q_all, q_any, q_tupl, q_tupt, q_listl, q_listt, q_listMl, q_listMt, q_inti, q_intb, q_stri, q_strs, q_strn, q_strb, q_strt, q_strl, q_max, q_min, q_selt, q_sell, q_selr, q_seIt, q_seIl, q_seIr, q_itt, q_itl, q_bn, q_bt, q_btl, q_ba0, q_bas, q_inT, q_ninT, q_frzr, q_frzl, q_slct, q_slcl, q_slcr, q_slcs, q_trut, q_isn, q_isni, q_isnn, q_isnt, q_isnl, q_isne, q_isns, startD, enD, List.map_cons, List.map_nil, List.length_cons, List.length_nil, List.replicate, List.cons_append, List.nil_append, Nat.reduceAdd, Nat.reduceSub, MT.slots, wipeD, isiD, Option.toList_some, Option.toList_none, List.append_nil, List.getElem?_cons_zero, List.getElem?_cons_succ, Option.bind_some, mset_same, mset_mset, if_true, if_false, Bool.false_eq_true, reduceIte, Bool.not_true, Bool.not_false, Bool.true_eq_false, true_and, decide_eq_true_eq, fit_int, fit_bl, fit_non, deq_int, deq_bl]
  have f6 : v1 - (h * t1 + k * t1 * t1) + (h * t1 + k * t1 * t1) = v1 := by grind
  generalize hg : v1 - (h * t1 + k * t1 * t1) = g at *
  have o1 : v1 = g + h * t1 + k * t1 * t1 := by grind
  have o2 : v2 = g + h * t2 + k * t2 * t2 := by grind
  have o3 : v3 = g + h * t3 + k * t3 * t3 := by grind
  refine q (g, h, k) μ1 xx1 ?_ ?_ ?_ ⟨h4.up (by simp [szT]), g3.up (by decide), c3.up (by decide)⟩
  · unfold OnC hgt; simp only; grind
  · unfold OnC hgt; simp only; grind
  · unfold OnC hgt; simp only; grind)
def S_law_turned : DSp := sp1 fun x μ Q _ => ∃ P : Sp, x = spS P ∧ Q (spS (ngP P)) μ
def N_law_turned : List Str := ["_law_spot"]
def m_law_turned : MB := (.cons (.ret (.tup (.cons (.ixc (.var 0) 0) (.cons (.tup (.cons (.bin .sub (.int 0) (.ixc (.ixc (.var 0) 1) 0)) (.cons (.ixc (.ixc (.var 0) 1) 1) .nil))) .nil)))) .nil)
-- slots: 0=_law_spot
theorem w_law_turned : ∀ ds μ Q X, S_law_turned ds μ Q X → ds.length = 1 ∧ wpB m_law_turned (startD 1 ds) μ (enD Q X) := sp1_of (by
  rintro x μ Q X ⟨P, rfl, q⟩
  simp only [m_law_turned, wpB, wpS, wpE, wpI, wpA, wpO, wpC, wpL]
  try simp -implicitDefEqProofs only [m_law_turned, fD, wpB, wpS, wpE, wpI, wpA, wpO, wpC, wpL, q_ifD, q_ifB, q_ifL, q_ifR, q_ifIs, q_ifBs, q_asI, q_rg0, q_rgs, q_rs0, q_rss, q_add, q_adds, q_addl, q_addt, q_sub, q_mul, q_fdiv, q_mod, q_pow, q_shl, q_trub, q_trui, q_trun, q_trul, q_eq, q_ne, q_lt, q_le, q_gt, q_ge, q_in, q_nin, q_cis, q_cisnt, q_joinl, q_joint, q_split, q_catll, q_catrl, q_catrr, q_catlr, q_setl, q_strs0, q_strsc, q_ifSs, q_clear, q_reverse, q_revl, q_revt, q_revr, q_eqm, q_nem, q_tupr, q_listr, q_lenr, q_lcf, q_lct, q_abs, q_lent, q_lenl, q_lens, q_sum, q_all, q_any, q_tupl, q_tupt, q_listl, q_listt, q_listMl, q_listMt, q_inti, q_intb, q_stri, q_strs, q_strn, q_strb, q_strt, q_strl, q_max, q_min, q_selt, q_sell, q_selr, q_seIt, q_seIl, q_seIr, q_itt, q_itl, q_bn, q_bt, q_btl, q_ba0, q_bas, q_inT, q_ninT, q_frzr, q_frzl, q_slct, q_slcl, q_slcr, q_slcs, q_trut, q_isn, q_isni, q_isnn, q_isnt, q_isnl, q_isne, q_isns, startD, enD, List.map_cons, List.map_nil, List.length_cons, List.length_nil, List.replicate, List.cons_append, List.nil_append, Nat.reduceAdd, Nat.reduceSub, MT.slots, wipeD, isiD, Option.toList_some, Option.toList_none, List.append_nil, List.getElem?_cons_zero, List.getElem?_cons_succ, Option.bind_some, mset_same, mset_mset, if_true, if_false, Bool.false_eq_true, reduceIte, Bool.not_true, Bool.not_false, Bool.true_eq_false, true_and, decide_eq_true_eq, fit_int, fit_bl, fit_non, deq_int, deq_bl]
  rw [neg_qs]
  exact q)

def S_law : DSp := spLaw small
def N_law : List Str := ["_law_script", "_law_spots", "_law_cubic_here", "_law_some", "_law_k", "_law_left", "_law_right", "_law_one", "_law_two", "_law_three"]
def m_law_5 : MB := (.cons (.ret (.bl true)) .nil)
def m_law_4a_4a : MB := (.cons (.ret (.bl false)) .nil)
def m_law_4a_4 : MB := (.cons (.ite (.cmp .ne (.call "spot_sum" S_spot_sum (.cons (.var 2) (.cons (.call "spot_sum" S_spot_sum (.cons (.var 2) (.cons (.var 7) (.cons (.var 8) .nil)))) (.cons (.call "_law_turned" S_law_turned (.cons (.var 8) .nil)) .nil)))) (.var 7)) m_law_4a_4a .nil) .nil)
def m_law_4a_3a : MB := (.cons (.ret (.bl false)) .nil)
def m_law_4a_3 : MB := (.cons (.ite (.bop false (.cons (.cmp .ne (.var 5) (.var 6)) (.cons (.cmp .ne (.call "spot_sum" S_spot_sum (.cons (.var 2) (.cons (.call "spot_sum" S_spot_sum (.cons (.var 2) (.cons (.var 9) (.cons (.var 7) .nil)))) (.cons (.var 8) .nil)))) (.var 5)) .nil))) m_law_4a_3a .nil) m_law_4a_4)
def m_law_4a_2 : MB := (.cons (.asg (.name 6) (.call "spot_sum" S_spot_sum (.cons (.var 2) (.cons (.var 7) (.cons (.call "spot_sum" S_spot_sum (.cons (.var 2) (.cons (.var 8) (.cons (.var 9) .nil)))) .nil))))) m_law_4a_3)
def m_law_4a_1 : MB := (.cons (.asg (.name 5) (.call "spot_sum" S_spot_sum (.cons (.var 2) (.cons (.call "spot_sum" S_spot_sum (.cons (.var 2) (.cons (.var 7) (.cons (.var 8) .nil)))) (.cons (.var 9) .nil))))) m_law_4a_2)
def m_law_4a : MB := (.cons (.par3 7 8 9 (.ix (.var 3) (.var 4)) (.ix (.var 3) (.bin .mod (.bin .add (.var 4) (.int 1)) (.int 4))) (.ix (.var 3) (.bin .mod (.bin .add (.var 4) (.int 2)) (.int 4)))) m_law_4a_1)
def m_law_4 : MB := (.cons (.loop (.name 4) (.rng1 (.int 4)) m_law_4a) m_law_5)
def m_law_3 : MB := (.cons (.asg (.name 3) (.bin .add (.lst (.cons (.tup (.cons (.tup (.cons (.int 0) (.cons (.int 1) .nil))) (.cons (.tup (.cons (.int 1) (.cons (.int 1) .nil))) .nil))) .nil)) (.var 1))) m_law_4)
def m_law_2a_1 : MB := (.cons (.asg (.name 2) (.tup (.cons (.tup (.cons (.int 1) (.cons (.int 1) .nil))) (.cons (.tup (.cons (.int 1) (.cons (.int 1) .nil))) (.cons (.tup (.cons (.int 1) (.cons (.int 1) .nil))) .nil))))) .nil)
def m_law_2a : MB := (.cons (.asg (.name 1) (.lst (.cons (.tup (.cons (.tup (.cons (.int 0) (.cons (.int 1) .nil))) (.cons (.tup (.cons (.neg (.int 1)) (.cons (.int 1) .nil))) .nil))) (.cons (.tup (.cons (.tup (.cons (.int 1) (.cons (.int 1) .nil))) (.cons (.tup (.cons (.int 2) (.cons (.int 1) .nil))) .nil))) (.cons (.tup (.cons (.tup (.cons (.neg (.int 1)) (.cons (.int 1) .nil))) (.cons (.tup (.cons (.int 0) (.cons (.int 1) .nil))) .nil))) .nil))))) m_law_2a_1)
def m_law_2 : MB := (.cons (.ite (.bop false (.cons (.cmp .eq (.ixc (.ixc (.var 2) 2) 0) (.int 0)) (.cons (.cmp .eq (.ixc (.call "_law_discriminant" S_law_discriminant (.cons (.var 2) .nil)) 0) (.int 0)) .nil))) m_law_2a .nil) m_law_3)
def m_law_1 : MB := (.cons (.asg (.name 2) (.call "_law_cubic" S_law_cubic (.cons (.var 1) .nil))) m_law_2)
def m_law : MB := (.cons (.asg (.name 1) (.call "_law_through" S_law_through (.cons (.var 0) .nil))) m_law_1)
-- slots: 0=_law_script 1=_law_spots 2=_law_cubic_here 3=_law_some 4=_law_k 5=_law_left 6=_law_right 7=_law_one 8=_law_two 9=_law_three
theorem w_law : ∀ ds μ Q X, S_law ds μ Q X → ds.length = 1 ∧ wpB m_law (startD 10 ds) μ (enD Q X) := spLaw_of (by
  rintro ns μ Q X ⟨hl, hz⟩ q
  have main : ∀ (c : Cub) (P1 P2 P3 : Sp) (μ : Mu), goodC c → szC 1000 c → OnC c P1 → OnC c P2 → OnC c P3 → szP 8 P1 → szP 8 P2 → szP 8 P3 → wpB m_law_3 [some (.lst (ns.map .int)), some (.lst [spS P1, spS P2, spS P3]), some (cuD c), none, none, none, none, none, none, none] μ (enD Q X) := by
    intro c P1 P2 P3 μ g sc o1 o2 o3 s1 s2 s3
    have G := g.gd
    have oF : OnC c (0, 1) := by unfold OnC hgt; simp only; grind
    have sF : szP 8 ((0, 1) : Sp) := ⟨sq0.up (by decide), sq1.up (by decide)⟩
    simp only [m_law_3, wpB, wpS, wpE, wpI, wpA, wpO, wpC, wpL]
    try simp -implicitDefEqProofs only [m_law_3, wpB, wpS, wpE, wpI, wpA, wpO, wpC, wpL, q_ifD, q_ifB, q_ifL, q_ifR, q_ifIs, q_ifBs, q_asI, q_rg0, q_rgs, q_rs0, q_rss, q_add, q_adds, q_addl, q_addt, q_sub, q_mul, q_fdiv, q_mod, q_pow, q_shl, q_trub, q_trui, q_trun, q_trul, q_eq, q_ne, q_lt, q_le, q_gt, q_ge, q_in, q_nin, q_cis, q_cisnt, q_joinl, q_joint, q_split, q_catll, q_catrl, q_catrr, q_catlr, q_setl, q_strs0, q_strsc, q_ifSs, q_clear, q_reverse, q_revl, q_revt, q_revr, q_eqm, q_nem, q_tupr, q_listr, q_lenr, q_lcf, q_lct, q_abs, q_lent, q_lenl, q_lens, q_sum, q_all, q_any, q_tupl, q_tupt, q_listl, q_listt, q_listMl, q_listMt, q_inti, q_intb, q_stri, q_strs, q_strn, q_strb, q_strt, q_strl, q_max, q_min, q_selt, q_sell, q_selr, q_seIt, q_seIl, q_seIr, q_itt, q_itl, q_bn, q_bt, q_btl, q_ba0, q_bas, q_inT, q_ninT, q_frzr, q_frzl, q_slct, q_slcl, q_slcr, q_slcs, q_trut, q_isn, q_isni, q_isnn, q_isnt, q_isnl, q_isne, q_isns, startD, enD, List.map_cons, List.map_nil, List.length_cons, List.length_nil, List.replicate, List.cons_append, List.nil_append, Nat.reduceAdd, Nat.reduceSub, MT.slots, wipeD, isiD, Option.toList_some, Option.toList_none, List.append_nil, List.getElem?_cons_zero, List.getElem?_cons_succ, Option.bind_some, mset_same, mset_mset, if_true, if_false, Bool.false_eq_true, reduceIte, Bool.not_true, Bool.not_false, Bool.true_eq_false, true_and, decide_eq_true_eq, fit_int, fit_bl, fit_non, deq_int, deq_bl]
    refine ⟨by simp, ?_⟩
    rw [show [D.tup [D.tup [D.int 0, D.int 1], D.tup [D.int 1, D.int 1]], spS P1, spS P2, spS P3] = ([(0, 1), P1, P2, P3] : List Sp).map spS from rfl]
    have hA : ∀ i < 4, ∃ P : Sp, L2.atI (([(0, 1), P1, P2, P3] : List Sp).map spS) (i : Nat) = some (spS P) ∧ OnC c P ∧ szP 8 P := by
      intro i hi
      rcases i with _ | _ | _ | _ | i
      · exact ⟨(0, 1), at_natD rfl, oF, sF⟩
      · exact ⟨P1, at_natD rfl, o1, s1⟩
      · exact ⟨P2, at_natD rfl, o2, s2⟩
      · exact ⟨P3, at_natD rfl, o3, s3⟩
      · omega
    generalize ([(0, 1), P1, P2, P3] : List Sp).map spS = A at *
    simp only [m_law_4, wpB, wpS, wpE, wpI, wpA, wpO, wpC, wpL]
    try simp -implicitDefEqProofs only [m_law_4, wpB, wpS, wpE, wpI, wpA, wpO, wpC, wpL, q_ifD, q_ifB, q_ifL, q_ifR, q_ifIs, q_ifBs, q_asI, q_rg0, q_rgs, q_rs0, q_rss, q_add, q_adds, q_addl, q_addt, q_sub, q_mul, q_fdiv, q_mod, q_pow, q_shl, q_trub, q_trui, q_trun, q_trul, q_eq, q_ne, q_lt, q_le, q_gt, q_ge, q_in, q_nin, q_cis, q_cisnt, q_joinl, q_joint, q_split, q_catll, q_catrl, q_catrr, q_catlr, q_setl, q_strs0, q_strsc, q_ifSs, q_clear, q_reverse, q_revl, q_revt, q_revr, q_eqm, q_nem, q_tupr, q_listr, q_lenr, q_lcf, q_lct, q_abs, q_lent, q_lenl, q_lens, q_sum, q_all, q_any, q_tupl, q_tupt, q_listl, q_listt, q_listMl, q_listMt, q_inti, q_intb, q_stri, q_strs, q_strn, q_strb, q_strt, q_strl, q_max, q_min, q_selt, q_sell, q_selr, q_seIt, q_seIl, q_seIr, q_itt, q_itl, q_bn, q_bt, q_btl, q_ba0, q_bas, q_inT, q_ninT, q_frzr, q_frzl, q_slct, q_slcl, q_slcr, q_slcs, q_trut, q_isn, q_isni, q_isnn, q_isnt, q_isnl, q_isne, q_isns, startD, enD, List.map_cons, List.map_nil, List.length_cons, List.length_nil, List.replicate, List.cons_append, List.nil_append, Nat.reduceAdd, Nat.reduceSub, MT.slots, wipeD, isiD, Option.toList_some, Option.toList_none, List.append_nil, List.getElem?_cons_zero, List.getElem?_cons_succ, Option.bind_some, mset_same, mset_mset, if_true, if_false, Bool.false_eq_true, reduceIte, Bool.not_true, Bool.not_false, Bool.true_eq_false, true_and, decide_eq_true_eq, fit_int, fit_bl, fit_non, deq_int, deq_bl]
    refine ⟨by decide, ?_⟩
    refine forW_by (fun ds ρ μ' => (∀ d ∈ ds, ∃ i : Nat, d = .int i ∧ i < 4) ∧ ∃ b4 b5 b6 b7 b8 b9, ρ = [some (.lst (ns.map .int)), some (.lst [spS P1, spS P2, spS P3]), some (cuD c), some (.lst A), b4, b5, b6, b7, b8, b9]) ?_ ?_ _ _ _ ⟨fun d hd => by obtain ⟨j, e, h0, h1⟩ := rngD_mem hd; obtain ⟨k, rfl⟩ := Int.eq_ofNat_of_zero_le h0; exact ⟨k, e, by simp at h1; omega⟩, _, _, _, _, _, _, rfl⟩
    · rintro d ds ρ μ1 k ⟨hd, b4, b5, b6, b7, b8, b9, rfl⟩ hk
      obtain ⟨i, rfl, hi⟩ := hd d (by simp)
      obtain ⟨P, eP, oP, sP⟩ := hA i hi
      obtain ⟨R, eR, oR, sR⟩ := hA ((i + 1) % 4) (Nat.mod_lt _ (by decide))
      obtain ⟨S, eS, oS, sS⟩ := hA ((i + 2) % 4) (Nat.mod_lt _ (by decide))
      have m1 : ((i : Int) + 1).fmod 4 = (((i + 1) % 4 : Nat) : Int) := by rw [Int.fmod_eq_emod_of_nonneg _ (by decide)]; omega
      have m2 : ((i : Int) + 2).fmod 4 = (((i + 2) % 4 : Nat) : Int) := by rw [Int.fmod_eq_emod_of_nonneg _ (by decide)]; omega
      simp only [m_law_4a, wpB, wpS, wpE, wpI, wpA, wpO, wpC, wpL]
      try simp -implicitDefEqProofs only [m_law_4a, m1, m2, eP, eR, eS, wpB, wpS, wpE, wpI, wpA, wpO, wpC, wpL, q_ifD, q_ifB, q_ifL, q_ifR, q_ifIs, q_ifBs, q_asI, q_rg0, q_rgs, q_rs0, q_rss, q_add, q_adds, q_addl, q_addt, q_sub, q_mul, q_fdiv, q_mod, q_pow, q_shl, q_trub, q_trui, q_trun, q_trul, q_eq, q_ne, q_lt, q_le, q_gt, q_ge, q_in, q_nin, q_cis, q_cisnt, q_joinl, q_joint, q_split, q_catll, q_catrl, q_catrr, q_catlr, q_setl, q_strs0, q_strsc, q_ifSs, q_clear, q_reverse, q_revl, q_revt, q_revr, q_eqm, q_nem, q_tupr, q_listr, q_lenr, q_lcf, q_lct, q_abs, q_lent, q_lenl, q_lens, q_sum, q_all, q_any, q_tupl, q_tupt, q_listl, q_listt, q_listMl, q_listMt, q_inti, q_intb, q_stri, q_strs, q_strn, q_strb, q_strt, q_strl, q_max, q_min, q_selt, q_sell, q_selr, q_seIt, q_seIl, q_seIr, q_itt, q_itl, q_bn, q_bt, q_btl, q_ba0, q_bas, q_inT, q_ninT, q_frzr, q_frzl, q_slct, q_slcl, q_slcr, q_slcs, q_trut, q_isn, q_isni, q_isnn, q_isnt, q_isnl, q_isne, q_isns, startD, enD, List.map_cons, List.map_nil, List.length_cons, List.length_nil, List.replicate, List.cons_append, List.nil_append, Nat.reduceAdd, Nat.reduceSub, MT.slots, wipeD, isiD, Option.toList_some, Option.toList_none, List.append_nil, List.getElem?_cons_zero, List.getElem?_cons_succ, Option.bind_some, mset_same, mset_mset, if_true, if_false, Bool.false_eq_true, reduceIte, Bool.not_true, Bool.not_false, Bool.true_eq_false, true_and, decide_eq_true_eq, fit_int, fit_bl, fit_non, deq_int, deq_bl]
      refine ⟨by decide, by decide, ?_⟩
      rw [show spS P = spD (some P) from rfl, show spS R = spD (some R) from rfl, show spS S = spD (some S) from rfl]
      have sP' : szO 8 (some P) := sP
      have sR' : szO 8 (some R) := sR
      have sS' : szO 8 (some S) := sS
      have oP' : OnO c (some P) := oP
      have oR' : OnO c (some R) := oR
      have oS' : OnO c (some S) := oS
      have nR : szO 10 (some (ngP R)) := ⟨sR.1.up (by decide), (szQ_sub sq0 sR.2).up (by decide)⟩
      have as1 := smP_assoc G oP' oR' oS'
      have as2 := smP_assoc G oS' oP' oR'
      have cm := smP_comm G oS' (smP_on G oP' oR')
      have bk := smP_back G oP' oR'
      simp only [m_law_4a_1, wpB, wpS, wpE, wpI, wpA, wpO, wpC, wpL]
      try simp -implicitDefEqProofs only [m_law_4a_1, wpB, wpS, wpE, wpI, wpA, wpO, wpC, wpL, q_ifD, q_ifB, q_ifL, q_ifR, q_ifIs, q_ifBs, q_asI, q_rg0, q_rgs, q_rs0, q_rss, q_add, q_adds, q_addl, q_addt, q_sub, q_mul, q_fdiv, q_mod, q_pow, q_shl, q_trub, q_trui, q_trun, q_trul, q_eq, q_ne, q_lt, q_le, q_gt, q_ge, q_in, q_nin, q_cis, q_cisnt, q_joinl, q_joint, q_split, q_catll, q_catrl, q_catrr, q_catlr, q_setl, q_strs0, q_strsc, q_ifSs, q_clear, q_reverse, q_revl, q_revt, q_revr, q_eqm, q_nem, q_tupr, q_listr, q_lenr, q_lcf, q_lct, q_abs, q_lent, q_lenl, q_lens, q_sum, q_all, q_any, q_tupl, q_tupt, q_listl, q_listt, q_listMl, q_listMt, q_inti, q_intb, q_stri, q_strs, q_strn, q_strb, q_strt, q_strl, q_max, q_min, q_selt, q_sell, q_selr, q_seIt, q_seIl, q_seIr, q_itt, q_itl, q_bn, q_bt, q_btl, q_ba0, q_bas, q_inT, q_ninT, q_frzr, q_frzl, q_slct, q_slcl, q_slcr, q_slcs, q_trut, q_isn, q_isni, q_isnn, q_isnt, q_isnl, q_isne, q_isns, startD, enD, List.map_cons, List.map_nil, List.length_cons, List.length_nil, List.replicate, List.cons_append, List.nil_append, Nat.reduceAdd, Nat.reduceSub, MT.slots, wipeD, isiD, Option.toList_some, Option.toList_none, List.append_nil, List.getElem?_cons_zero, List.getElem?_cons_succ, Option.bind_some, mset_same, mset_mset, if_true, if_false, Bool.false_eq_true, reduceIte, Bool.not_true, Bool.not_false, Bool.true_eq_false, true_and, decide_eq_true_eq, fit_int, fit_bl, fit_non, deq_int, deq_bl]
      refine spot_by g sc (by decide) sP' sR' (by decide) oP' oR' fun z1 => ?_
      refine spot_by g sc (by decide) z1 (sS'.up (by decide)) (by decide) (smP_on G oP' oR') oS' fun z2 => ?_
      simp only [m_law_4a_2, wpB, wpS, wpE, wpI, wpA, wpO, wpC, wpL]
      try simp -implicitDefEqProofs only [m_law_4a_2, wpB, wpS, wpE, wpI, wpA, wpO, wpC, wpL, q_ifD, q_ifB, q_ifL, q_ifR, q_ifIs, q_ifBs, q_asI, q_rg0, q_rgs, q_rs0, q_rss, q_add, q_adds, q_addl, q_addt, q_sub, q_mul, q_fdiv, q_mod, q_pow, q_shl, q_trub, q_trui, q_trun, q_trul, q_eq, q_ne, q_lt, q_le, q_gt, q_ge, q_in, q_nin, q_cis, q_cisnt, q_joinl, q_joint, q_split, q_catll, q_catrl, q_catrr, q_catlr, q_setl, q_strs0, q_strsc, q_ifSs, q_clear, q_reverse, q_revl, q_revt, q_revr, q_eqm, q_nem, q_tupr, q_listr, q_lenr, q_lcf, q_lct, q_abs, q_lent, q_lenl, q_lens, q_sum, q_all, q_any, q_tupl, q_tupt, q_listl, q_listt, q_listMl, q_listMt, q_inti, q_intb, q_stri, q_strs, q_strn, q_strb, q_strt, q_strl, q_max, q_min, q_selt, q_sell, q_selr, q_seIt, q_seIl, q_seIr, q_itt, q_itl, q_bn, q_bt, q_btl, q_ba0, q_bas, q_inT, q_ninT, q_frzr, q_frzl, q_slct, q_slcl, q_slcr, q_slcs, q_trut, q_isn, q_isni, q_isnn, q_isnt, q_isnl, q_isne, q_isns, startD, enD, List.map_cons, List.map_nil, List.length_cons, List.length_nil, List.replicate, List.cons_append, List.nil_append, Nat.reduceAdd, Nat.reduceSub, MT.slots, wipeD, isiD, Option.toList_some, Option.toList_none, List.append_nil, List.getElem?_cons_zero, List.getElem?_cons_succ, Option.bind_some, mset_same, mset_mset, if_true, if_false, Bool.false_eq_true, reduceIte, Bool.not_true, Bool.not_false, Bool.true_eq_false, true_and, decide_eq_true_eq, fit_int, fit_bl, fit_non, deq_int, deq_bl]
      refine spot_by g sc (by decide) sR' sS' (by decide) oR' oS' fun z3 => ?_
      refine spot_by g sc (by decide) (sP'.up (by decide)) z3 (by decide) oP' (smP_on G oR' oS') fun z4 => ?_
      simp only [m_law_4a_3, m_law_4a_3a, wpB, wpS, wpE, wpI, wpA, wpO, wpC, wpL]
      try simp -implicitDefEqProofs only [m_law_4a_3, m_law_4a_3a, wpB, wpS, wpE, wpI, wpA, wpO, wpC, wpL, q_ifD, q_ifB, q_ifL, q_ifR, q_ifIs, q_ifBs, q_asI, q_rg0, q_rgs, q_rs0, q_rss, q_add, q_adds, q_addl, q_addt, q_sub, q_mul, q_fdiv, q_mod, q_pow, q_shl, q_trub, q_trui, q_trun, q_trul, q_eq, q_ne, q_lt, q_le, q_gt, q_ge, q_in, q_nin, q_cis, q_cisnt, q_joinl, q_joint, q_split, q_catll, q_catrl, q_catrr, q_catlr, q_setl, q_strs0, q_strsc, q_ifSs, q_clear, q_reverse, q_revl, q_revt, q_revr, q_eqm, q_nem, q_tupr, q_listr, q_lenr, q_lcf, q_lct, q_abs, q_lent, q_lenl, q_lens, q_sum, q_all, q_any, q_tupl, q_tupt, q_listl, q_listt, q_listMl, q_listMt, q_inti, q_intb, q_stri, q_strs, q_strn, q_strb, q_strt, q_strl, q_max, q_min, q_selt, q_sell, q_selr, q_seIt, q_seIl, q_seIr, q_itt, q_itl, q_bn, q_bt, q_btl, q_ba0, q_bas, q_inT, q_ninT, q_frzr, q_frzl, q_slct, q_slcl, q_slcr, q_slcs, q_trut, q_isn, q_isni, q_isnn, q_isnt, q_isnl, q_isne, q_isns, startD, enD, List.map_cons, List.map_nil, List.length_cons, List.length_nil, List.replicate, List.cons_append, List.nil_append, Nat.reduceAdd, Nat.reduceSub, MT.slots, wipeD, isiD, Option.toList_some, Option.toList_none, List.append_nil, List.getElem?_cons_zero, List.getElem?_cons_succ, Option.bind_some, mset_same, mset_mset, if_true, if_false, Bool.false_eq_true, reduceIte, Bool.not_true, Bool.not_false, Bool.true_eq_false, true_and, decide_eq_true_eq, fit_int, fit_bl, fit_non, deq_int, deq_bl]
      rw [← as1]
      refine ⟨fit_spD _ _, fit_spD _ _, ite_t (by rw [deq_refl (fit_spD _ _)]; rfl) ?_⟩
      refine spot_by g sc (by decide) sS' sP' (by decide) oS' oP' fun z5 => ?_
      refine spot_by g sc (by decide) z5 (sR'.up (by decide)) (by decide) (smP_on G oS' oP') oR' fun z6 => ?_
      rw [as2, cm]
      refine ⟨fit_spD _ _, fit_spD _ _, ite_f (by rw [deq_refl (fit_spD _ _)]; simp) ?_⟩
      simp only [m_law_4a_4, m_law_4a_4a, wpB, wpS, wpE, wpI, wpA, wpO, wpC, wpL]
      try simp -implicitDefEqProofs only [m_law_4a_4, m_law_4a_4a, wpB, wpS, wpE, wpI, wpA, wpO, wpC, wpL, q_ifD, q_ifB, q_ifL, q_ifR, q_ifIs, q_ifBs, q_asI, q_rg0, q_rgs, q_rs0, q_rss, q_add, q_adds, q_addl, q_addt, q_sub, q_mul, q_fdiv, q_mod, q_pow, q_shl, q_trub, q_trui, q_trun, q_trul, q_eq, q_ne, q_lt, q_le, q_gt, q_ge, q_in, q_nin, q_cis, q_cisnt, q_joinl, q_joint, q_split, q_catll, q_catrl, q_catrr, q_catlr, q_setl, q_strs0, q_strsc, q_ifSs, q_clear, q_reverse, q_revl, q_revt, q_revr, q_eqm, q_nem, q_tupr, q_listr, q_lenr, q_lcf, q_lct, q_abs, q_lent, q_lenl, q_lens, q_sum, q_all, q_any, q_tupl, q_tupt, q_listl, q_listt, q_listMl, q_listMt, q_inti, q_intb, q_stri, q_strs, q_strn, q_strb, q_strt, q_strl, q_max, q_min, q_selt, q_sell, q_selr, q_seIt, q_seIl, q_seIr, q_itt, q_itl, q_bn, q_bt, q_btl, q_ba0, q_bas, q_inT, q_ninT, q_frzr, q_frzl, q_slct, q_slcl, q_slcr, q_slcs, q_trut, q_isn, q_isni, q_isnn, q_isnt, q_isnl, q_isne, q_isns, startD, enD, List.map_cons, List.map_nil, List.length_cons, List.length_nil, List.replicate, List.cons_append, List.nil_append, Nat.reduceAdd, Nat.reduceSub, MT.slots, wipeD, isiD, Option.toList_some, Option.toList_none, List.append_nil, List.getElem?_cons_zero, List.getElem?_cons_succ, Option.bind_some, mset_same, mset_mset, if_true, if_false, Bool.false_eq_true, reduceIte, Bool.not_true, Bool.not_false, Bool.true_eq_false, true_and, decide_eq_true_eq, fit_int, fit_bl, fit_non, deq_int, deq_bl]
      refine spot_by g sc (by decide) sP' sR' (by decide) oP' oR' fun z7 => ?_
      refine ⟨R, rfl, ?_⟩
      try simp -implicitDefEqProofs only [wpB, wpS, wpE, wpI, wpA, wpO, wpC, wpL, q_ifD, q_ifB, q_ifL, q_ifR, q_ifIs, q_ifBs, q_asI, q_rg0, q_rgs, q_rs0, q_rss, q_add, q_adds, q_addl, q_addt, q_sub, q_mul, q_fdiv, q_mod, q_pow, q_shl, q_trub, q_trui, q_trun, q_trul, q_eq, q_ne, q_lt, q_le, q_gt, q_ge, q_in, q_nin, q_cis, q_cisnt, q_joinl, q_joint, q_split, q_catll, q_catrl, q_catrr, q_catlr, q_setl, q_strs0, q_strsc, q_ifSs, q_clear, q_reverse, q_revl, q_revt, q_revr, q_eqm, q_nem, q_tupr, q_listr, q_lenr, q_lcf, q_lct, q_abs, q_lent, q_lenl, q_lens, q_sum, q_all, q_any, q_tupl, q_tupt, q_listl, q_listt, q_listMl, q_listMt, q_inti, q_intb, q_stri, q_strs, q_strn, q_strb, q_strt, q_strl, q_max, q_min, q_selt, q_sell, q_selr, q_seIt, q_seIl, q_seIr, q_itt, q_itl, q_bn, q_bt, q_btl, q_ba0, q_bas, q_inT, q_ninT, q_frzr, q_frzl, q_slct, q_slcl, q_slcr, q_slcs, q_trut, q_isn, q_isni, q_isnn, q_isnt, q_isnl, q_isne, q_isns, startD, enD, List.map_cons, List.map_nil, List.length_cons, List.length_nil, List.replicate, List.cons_append, List.nil_append, Nat.reduceAdd, Nat.reduceSub, MT.slots, wipeD, isiD, Option.toList_some, Option.toList_none, List.append_nil, List.getElem?_cons_zero, List.getElem?_cons_succ, Option.bind_some, mset_same, mset_mset, if_true, if_false, Bool.false_eq_true, reduceIte, Bool.not_true, Bool.not_false, Bool.true_eq_false, true_and, decide_eq_true_eq, fit_int, fit_bl, fit_non, deq_int, deq_bl]
      rw [show spS (ngP R) = spD (some (ngP R)) from rfl]
      refine spot_by g sc (by decide) z7 (nR.up (by decide)) (by decide) (smP_on G oP' oR') (show OnO c (some (ngP R)) from ng_on oR) fun z8 => ?_
      rw [show smP c (smP c (some P) (some R)) (some (ngP R)) = some P from bk]
      refine ⟨fit_spD _ _, fit_spD _ _, ite_f (by rw [deq_refl (fit_spD _ _)]; simp) ?_⟩
      exact hk _ _ ⟨fun d h => hd d (by simp [h]), _, _, _, _, _, _, rfl⟩
    · rintro ρ μ1 ⟨_, b4, b5, b6, b7, b8, b9, rfl⟩
      simp only [m_law_5, wpB, wpS, wpE, wpI, wpA, wpO, wpC, wpL]
      try simp -implicitDefEqProofs only [m_law_5, wpB, wpS, wpE, wpI, wpA, wpO, wpC, wpL, q_ifD, q_ifB, q_ifL, q_ifR, q_ifIs, q_ifBs, q_asI, q_rg0, q_rgs, q_rs0, q_rss, q_add, q_adds, q_addl, q_addt, q_sub, q_mul, q_fdiv, q_mod, q_pow, q_shl, q_trub, q_trui, q_trun, q_trul, q_eq, q_ne, q_lt, q_le, q_gt, q_ge, q_in, q_nin, q_cis, q_cisnt, q_joinl, q_joint, q_split, q_catll, q_catrl, q_catrr, q_catlr, q_setl, q_strs0, q_strsc, q_ifSs, q_clear, q_reverse, q_revl, q_revt, q_revr, q_eqm, q_nem, q_tupr, q_listr, q_lenr, q_lcf, q_lct, q_abs, q_lent, q_lenl, q_lens, q_sum, q_all, q_any, q_tupl, q_tupt, q_listl, q_listt, q_listMl, q_listMt, q_inti, q_intb, q_stri, q_strs, q_strn, q_strb, q_strt, q_strl, q_max, q_min, q_selt, q_sell, q_selr, q_seIt, q_seIl, q_seIr, q_itt, q_itl, q_bn, q_bt, q_btl, q_ba0, q_bas, q_inT, q_ninT, q_frzr, q_frzl, q_slct, q_slcl, q_slcr, q_slcs, q_trut, q_isn, q_isni, q_isnn, q_isnt, q_isnl, q_isne, q_isns, startD, enD, List.map_cons, List.map_nil, List.length_cons, List.length_nil, List.replicate, List.cons_append, List.nil_append, Nat.reduceAdd, Nat.reduceSub, MT.slots, wipeD, isiD, Option.toList_some, Option.toList_none, List.append_nil, List.getElem?_cons_zero, List.getElem?_cons_succ, Option.bind_some, mset_same, mset_mset, if_true, if_false, Bool.false_eq_true, reduceIte, Bool.not_true, Bool.not_false, Bool.true_eq_false, true_and, decide_eq_true_eq, fit_int, fit_bl, fit_non, deq_int, deq_bl]
      exact q _
  simp only [m_law, wpB, wpS, wpE, wpI, wpA, wpO, wpC, wpL]
  try simp -implicitDefEqProofs only [m_law, wpB, wpS, wpE, wpI, wpA, wpO, wpC, wpL, q_ifD, q_ifB, q_ifL, q_ifR, q_ifIs, q_ifBs, q_asI, q_rg0, q_rgs, q_rs0, q_rss, q_add, q_adds, q_addl, q_addt, q_sub, q_mul, q_fdiv, q_mod, q_pow, q_shl, q_trub, q_trui, q_trun, q_trul, q_eq, q_ne, q_lt, q_le, q_gt, q_ge, q_in, q_nin, q_cis, q_cisnt, q_joinl, q_joint, q_split, q_catll, q_catrl, q_catrr, q_catlr, q_setl, q_strs0, q_strsc, q_ifSs, q_clear, q_reverse, q_revl, q_revt, q_revr, q_eqm, q_nem, q_tupr, q_listr, q_lenr, q_lcf, q_lct, q_abs, q_lent, q_lenl, q_lens, q_sum, q_all, q_any, q_tupl, q_tupt, q_listl, q_listt, q_listMl, q_listMt, q_inti, q_intb, q_stri, q_strs, q_strn, q_strb, q_strt, q_strl, q_max, q_min, q_selt, q_sell, q_selr, q_seIt, q_seIl, q_seIr, q_itt, q_itl, q_bn, q_bt, q_btl, q_ba0, q_bas, q_inT, q_ninT, q_frzr, q_frzl, q_slct, q_slcl, q_slcr, q_slcs, q_trut, q_isn, q_isni, q_isnn, q_isnt, q_isnl, q_isne, q_isns, startD, enD, List.map_cons, List.map_nil, List.length_cons, List.length_nil, List.replicate, List.cons_append, List.nil_append, Nat.reduceAdd, Nat.reduceSub, MT.slots, wipeD, isiD, Option.toList_some, Option.toList_none, List.append_nil, List.getElem?_cons_zero, List.getElem?_cons_succ, Option.bind_some, mset_same, mset_mset, if_true, if_false, Bool.false_eq_true, reduceIte, Bool.not_true, Bool.not_false, Bool.true_eq_false, true_and, decide_eq_true_eq, fit_int, fit_bl, fit_non, deq_int, deq_bl]
  refine ⟨ns, rfl, fun P1 P2 P3 n1 n2 n3 d12 d13 d23 s1 s2 s3 => ?_⟩
  try simp -implicitDefEqProofs only [wpB, wpS, wpE, wpI, wpA, wpO, wpC, wpL, q_ifD, q_ifB, q_ifL, q_ifR, q_ifIs, q_ifBs, q_asI, q_rg0, q_rgs, q_rs0, q_rss, q_add, q_adds, q_addl, q_addt, q_sub, q_mul, q_fdiv, q_mod, q_pow, q_shl, q_trub, q_trui, q_trun, q_trul, q_eq, q_ne, q_lt, q_le, q_gt, q_ge, q_in, q_nin, q_cis, q_cisnt, q_joinl, q_joint, q_split, q_catll, q_catrl, q_catrr, q_catlr, q_setl, q_strs0, q_strsc, q_ifSs, q_clear, q_reverse, q_revl, q_revt, q_revr, q_eqm, q_nem, q_tupr, q_listr, q_lenr, q_lcf, q_lct, q_abs, q_lent, q_lenl, q_lens, q_sum, q_all, q_any, q_tupl, q_tupt, q_listl, q_listt, q_listMl, q_listMt, q_inti, q_intb, q_stri, q_strs, q_strn, q_strb, q_strt, q_strl, q_max, q_min, q_selt, q_sell, q_selr, q_seIt, q_seIl, q_seIr, q_itt, q_itl, q_bn, q_bt, q_btl, q_ba0, q_bas, q_inT, q_ninT, q_frzr, q_frzl, q_slct, q_slcl, q_slcr, q_slcs, q_trut, q_isn, q_isni, q_isnn, q_isnt, q_isnl, q_isne, q_isns, startD, enD, List.map_cons, List.map_nil, List.length_cons, List.length_nil, List.replicate, List.cons_append, List.nil_append, Nat.reduceAdd, Nat.reduceSub, MT.slots, wipeD, isiD, Option.toList_some, Option.toList_none, List.append_nil, List.getElem?_cons_zero, List.getElem?_cons_succ, Option.bind_some, mset_same, mset_mset, if_true, if_false, Bool.false_eq_true, reduceIte, Bool.not_true, Bool.not_false, Bool.true_eq_false, true_and, decide_eq_true_eq, fit_int, fit_bl, fit_non, deq_int, deq_bl]
  simp only [m_law_1, wpB, wpS, wpE, wpI, wpA, wpO, wpC, wpL]
  try simp -implicitDefEqProofs only [m_law_1, wpB, wpS, wpE, wpI, wpA, wpO, wpC, wpL, q_ifD, q_ifB, q_ifL, q_ifR, q_ifIs, q_ifBs, q_asI, q_rg0, q_rgs, q_rs0, q_rss, q_add, q_adds, q_addl, q_addt, q_sub, q_mul, q_fdiv, q_mod, q_pow, q_shl, q_trub, q_trui, q_trun, q_trul, q_eq, q_ne, q_lt, q_le, q_gt, q_ge, q_in, q_nin, q_cis, q_cisnt, q_joinl, q_joint, q_split, q_catll, q_catrl, q_catrr, q_catlr, q_setl, q_strs0, q_strsc, q_ifSs, q_clear, q_reverse, q_revl, q_revt, q_revr, q_eqm, q_nem, q_tupr, q_listr, q_lenr, q_lcf, q_lct, q_abs, q_lent, q_lenl, q_lens, q_sum, q_all, q_any, q_tupl, q_tupt, q_listl, q_listt, q_listMl, q_listMt, q_inti, q_intb, q_stri, q_strs, q_strn, q_strb, q_strt, q_strl, q_max, q_min, q_selt, q_sell, q_selr, q_seIt, q_seIl, q_seIr, q_itt, q_itl, q_bn, q_bt, q_btl, q_ba0, q_bas, q_inT, q_ninT, q_frzr, q_frzl, q_slct, q_slcl, q_slcr, q_slcs, q_trut, q_isn, q_isni, q_isnn, q_isnt, q_isnl, q_isne, q_isns, startD, enD, List.map_cons, List.map_nil, List.length_cons, List.length_nil, List.replicate, List.cons_append, List.nil_append, Nat.reduceAdd, Nat.reduceSub, MT.slots, wipeD, isiD, Option.toList_some, Option.toList_none, List.append_nil, List.getElem?_cons_zero, List.getElem?_cons_succ, Option.bind_some, mset_same, mset_mset, if_true, if_false, Bool.false_eq_true, reduceIte, Bool.not_true, Bool.not_false, Bool.true_eq_false, true_and, decide_eq_true_eq, fit_int, fit_bl, fit_non, deq_int, deq_bl]
  refine ⟨P1, P2, P3, rfl, n1, n2, n3, d12, d13, d23, s1, s2, s3, fun c μ1 _ o1 o2 o3 sc => ?_⟩
  have dflt : ∀ a b, wpB m_law_2a [some (.lst (ns.map .int)), some a, some b, none, none, none, none, none, none, none] μ1 { enD Q X with nx := fun ρ μ => wpB m_law_3 ρ μ (enD Q X) } := by
    intro a b
    simp only [m_law_2a, wpB, wpS, wpE, wpI, wpA, wpO, wpC, wpL]
    try simp -implicitDefEqProofs only [m_law_2a, wpB, wpS, wpE, wpI, wpA, wpO, wpC, wpL, q_ifD, q_ifB, q_ifL, q_ifR, q_ifIs, q_ifBs, q_asI, q_rg0, q_rgs, q_rs0, q_rss, q_add, q_adds, q_addl, q_addt, q_sub, q_mul, q_fdiv, q_mod, q_pow, q_shl, q_trub, q_trui, q_trun, q_trul, q_eq, q_ne, q_lt, q_le, q_gt, q_ge, q_in, q_nin, q_cis, q_cisnt, q_joinl, q_joint, q_split, q_catll, q_catrl, q_catrr, q_catlr, q_setl, q_strs0, q_strsc, q_ifSs, q_clear, q_reverse, q_revl, q_revt, q_revr, q_eqm, q_nem, q_tupr, q_listr, q_lenr, q_lcf, q_lct, q_abs, q_lent, q_lenl, q_lens, q_sum, q_all, q_any, q_tupl, q_tupt, q_listl, q_listt, q_listMl, q_listMt, q_inti, q_intb, q_stri, q_strs, q_strn, q_strb, q_strt, q_strl, q_max, q_min, q_selt, q_sell, q_selr, q_seIt, q_seIl, q_seIr, q_itt, q_itl, q_bn, q_bt, q_btl, q_ba0, q_bas, q_inT, q_ninT, q_frzr, q_frzl, q_slct, q_slcl, q_slcr, q_slcs, q_trut, q_isn, q_isni, q_isnn, q_isnt, q_isnl, q_isne, q_isns, startD, enD, List.map_cons, List.map_nil, List.length_cons, List.length_nil, List.replicate, List.cons_append, List.nil_append, Nat.reduceAdd, Nat.reduceSub, MT.slots, wipeD, isiD, Option.toList_some, Option.toList_none, List.append_nil, List.getElem?_cons_zero, List.getElem?_cons_succ, Option.bind_some, mset_same, mset_mset, if_true, if_false, Bool.false_eq_true, reduceIte, Bool.not_true, Bool.not_false, Bool.true_eq_false, true_and, decide_eq_true_eq, fit_int, fit_bl, fit_non, deq_int, deq_bl]
    simp only [m_law_2a_1, wpB, wpS, wpE, wpI, wpA, wpO, wpC, wpL]
    try simp -implicitDefEqProofs only [m_law_2a_1, wpB, wpS, wpE, wpI, wpA, wpO, wpC, wpL, q_ifD, q_ifB, q_ifL, q_ifR, q_ifIs, q_ifBs, q_asI, q_rg0, q_rgs, q_rs0, q_rss, q_add, q_adds, q_addl, q_addt, q_sub, q_mul, q_fdiv, q_mod, q_pow, q_shl, q_trub, q_trui, q_trun, q_trul, q_eq, q_ne, q_lt, q_le, q_gt, q_ge, q_in, q_nin, q_cis, q_cisnt, q_joinl, q_joint, q_split, q_catll, q_catrl, q_catrr, q_catlr, q_setl, q_strs0, q_strsc, q_ifSs, q_clear, q_reverse, q_revl, q_revt, q_revr, q_eqm, q_nem, q_tupr, q_listr, q_lenr, q_lcf, q_lct, q_abs, q_lent, q_lenl, q_lens, q_sum, q_all, q_any, q_tupl, q_tupt, q_listl, q_listt, q_listMl, q_listMt, q_inti, q_intb, q_stri, q_strs, q_strn, q_strb, q_strt, q_strl, q_max, q_min, q_selt, q_sell, q_selr, q_seIt, q_seIl, q_seIr, q_itt, q_itl, q_bn, q_bt, q_btl, q_ba0, q_bas, q_inT, q_ninT, q_frzr, q_frzl, q_slct, q_slcl, q_slcr, q_slcs, q_trut, q_isn, q_isni, q_isnn, q_isnt, q_isnl, q_isne, q_isns, startD, enD, List.map_cons, List.map_nil, List.length_cons, List.length_nil, List.replicate, List.cons_append, List.nil_append, Nat.reduceAdd, Nat.reduceSub, MT.slots, wipeD, isiD, Option.toList_some, Option.toList_none, List.append_nil, List.getElem?_cons_zero, List.getElem?_cons_succ, Option.bind_some, mset_same, mset_mset, if_true, if_false, Bool.false_eq_true, reduceIte, Bool.not_true, Bool.not_false, Bool.true_eq_false, true_and, decide_eq_true_eq, fit_int, fit_bl, fit_non, deq_int, deq_bl]
    exact main (1, 1, 1) (0, -1) (1, 2) (-1, 0) μ1 (by decide +kernel) ⟨⟨by decide +kernel, by decide +kernel⟩, ⟨by decide +kernel, by decide +kernel⟩, ⟨by decide +kernel, by decide +kernel⟩⟩ (by unfold OnC; decide +kernel) (by unfold OnC; decide +kernel) (by unfold OnC; decide +kernel) ⟨⟨by decide +kernel, by decide +kernel⟩, ⟨by decide +kernel, by decide +kernel⟩⟩ ⟨⟨by decide +kernel, by decide +kernel⟩, ⟨by decide +kernel, by decide +kernel⟩⟩ ⟨⟨by decide +kernel, by decide +kernel⟩, ⟨by decide +kernel, by decide +kernel⟩⟩
  try simp -implicitDefEqProofs only [wpB, wpS, wpE, wpI, wpA, wpO, wpC, wpL, q_ifD, q_ifB, q_ifL, q_ifR, q_ifIs, q_ifBs, q_asI, q_rg0, q_rgs, q_rs0, q_rss, q_add, q_adds, q_addl, q_addt, q_sub, q_mul, q_fdiv, q_mod, q_pow, q_shl, q_trub, q_trui, q_trun, q_trul, q_eq, q_ne, q_lt, q_le, q_gt, q_ge, q_in, q_nin, q_cis, q_cisnt, q_joinl, q_joint, q_split, q_catll, q_catrl, q_catrr, q_catlr, q_setl, q_strs0, q_strsc, q_ifSs, q_clear, q_reverse, q_revl, q_revt, q_revr, q_eqm, q_nem, q_tupr, q_listr, q_lenr, q_lcf, q_lct, q_abs, q_lent, q_lenl, q_lens, q_sum, q_all, q_any, q_tupl, q_tupt, q_listl, q_listt, q_listMl, q_listMt, q_inti, q_intb, q_stri, q_strs, q_strn, q_strb, q_strt, q_strl, q_max, q_min, q_selt, q_sell, q_selr, q_seIt, q_seIl, q_seIr, q_itt, q_itl, q_bn, q_bt, q_btl, q_ba0, q_bas, q_inT, q_ninT, q_frzr, q_frzl, q_slct, q_slcl, q_slcr, q_slcs, q_trut, q_isn, q_isni, q_isnn, q_isnt, q_isnl, q_isne, q_isns, startD, enD, List.map_cons, List.map_nil, List.length_cons, List.length_nil, List.replicate, List.cons_append, List.nil_append, Nat.reduceAdd, Nat.reduceSub, MT.slots, wipeD, isiD, Option.toList_some, Option.toList_none, List.append_nil, List.getElem?_cons_zero, List.getElem?_cons_succ, Option.bind_some, mset_same, mset_mset, if_true, if_false, Bool.false_eq_true, reduceIte, Bool.not_true, Bool.not_false, Bool.true_eq_false, true_and, decide_eq_true_eq, fit_int, fit_bl, fit_non, deq_int, deq_bl]
  simp only [m_law_2, wpB, wpS, wpE, wpI, wpA, wpO, wpC, wpL]
  try simp -implicitDefEqProofs only [m_law_2, fD, wpB, wpS, wpE, wpI, wpA, wpO, wpC, wpL, q_ifD, q_ifB, q_ifL, q_ifR, q_ifIs, q_ifBs, q_asI, q_rg0, q_rgs, q_rs0, q_rss, q_add, q_adds, q_addl, q_addt, q_sub, q_mul, q_fdiv, q_mod, q_pow, q_shl, q_trub, q_trui, q_trun, q_trul, q_eq, q_ne, q_lt, q_le, q_gt, q_ge, q_in, q_nin, q_cis, q_cisnt, q_joinl, q_joint, q_split, q_catll, q_catrl, q_catrr, q_catlr, q_setl, q_strs0, q_strsc, q_ifSs, q_clear, q_reverse, q_revl, q_revt, q_revr, q_eqm, q_nem, q_tupr, q_listr, q_lenr, q_lcf, q_lct, q_abs, q_lent, q_lenl, q_lens, q_sum, q_all, q_any, q_tupl, q_tupt, q_listl, q_listt, q_listMl, q_listMt, q_inti, q_intb, q_stri, q_strs, q_strn, q_strb, q_strt, q_strl, q_max, q_min, q_selt, q_sell, q_selr, q_seIt, q_seIl, q_seIr, q_itt, q_itl, q_bn, q_bt, q_btl, q_ba0, q_bas, q_inT, q_ninT, q_frzr, q_frzl, q_slct, q_slcl, q_slcr, q_slcs, q_trut, q_isn, q_isni, q_isnn, q_isnt, q_isnl, q_isne, q_isns, startD, enD, List.map_cons, List.map_nil, List.length_cons, List.length_nil, List.replicate, List.cons_append, List.nil_append, Nat.reduceAdd, Nat.reduceSub, MT.slots, wipeD, isiD, Option.toList_some, Option.toList_none, List.append_nil, List.getElem?_cons_zero, List.getElem?_cons_succ, Option.bind_some, mset_same, mset_mset, if_true, if_false, Bool.false_eq_true, reduceIte, Bool.not_true, Bool.not_false, Bool.true_eq_false, true_and, decide_eq_true_eq, fit_int, fit_bl, fit_non, deq_int, deq_bl]
  rw [num0b]
  by_cases k0 : c.2.2 = 0
  · refine ite_f (by simp [k0]) (ite_t (by simp [k0]) (dflt _ _))
  refine ite_t (by simp [k0]) ?_
  refine ldis_q sc (by decide) ?_
  simp -implicitDefEqProofs only [fD, wpB, wpS, wpE, wpI, wpA, wpO, wpC, wpL, q_ifD, q_ifB, q_ifL, q_ifR, q_ifIs, q_ifBs, q_asI, q_rg0, q_rgs, q_rs0, q_rss, q_add, q_adds, q_addl, q_addt, q_sub, q_mul, q_fdiv, q_mod, q_pow, q_shl, q_trub, q_trui, q_trun, q_trul, q_eq, q_ne, q_lt, q_le, q_gt, q_ge, q_in, q_nin, q_cis, q_cisnt, q_joinl, q_joint, q_split, q_catll, q_catrl, q_catrr, q_catlr, q_setl, q_strs0, q_strsc, q_ifSs, q_clear, q_reverse, q_revl, q_revt, q_revr, q_eqm, q_nem, q_tupr, q_listr, q_lenr, q_lcf, q_lct, q_abs, q_lent, q_lenl, q_lens, q_sum, q_all, q_any, q_tupl, q_tupt, q_listl, q_listt, q_listMl, q_listMt, q_inti, q_intb, q_stri, q_strs, q_strn, q_strb, q_strt, q_strl, q_max, q_min, q_selt, q_sell, q_selr, q_seIt, q_seIl, q_seIr, q_itt, q_itl, q_bn, q_bt, q_btl, q_ba0, q_bas, q_inT, q_ninT, q_frzr, q_frzl, q_slct, q_slcl, q_slcr, q_slcs, q_trut, q_isn, q_isni, q_isnn, q_isnt, q_isnl, q_isne, q_isns, startD, enD, List.map_cons, List.map_nil, List.length_cons, List.length_nil, List.replicate, List.cons_append, List.nil_append, Nat.reduceAdd, Nat.reduceSub, MT.slots, wipeD, isiD, Option.toList_some, Option.toList_none, List.append_nil, List.getElem?_cons_zero, List.getElem?_cons_succ, Option.bind_some, mset_same, mset_mset, if_true, if_false, Bool.false_eq_true, reduceIte, Bool.not_true, Bool.not_false, Bool.true_eq_false, true_and, decide_eq_true_eq, fit_int, fit_bl, fit_non, deq_int, deq_bl]
  rw [num0b]
  by_cases hd : dsL c.1 c.2.1 c.2.2 = 0
  · exact ite_t (by simp [hd]) (dflt _ _)
  · exact ite_f (by simp [hd]) (main c P1 P2 P3 μ1 ⟨k0, hd⟩ sc o1 o2 o3 s1 s2 s3))
theorem sc_is_number : FnScope N_is_number ["thing"] (defScope (topS 6)) := ⟨rfl, rfl, rfl, by decide +kernel, rfl, by decide +kernel, by decide +kernel⟩
theorem mt_is_number : matB CN N_is_number (defScope (topS 6)) m_is_number (defBody (topS 6)) = true := by decide +kernel
theorem db_is_number : dbgs N_is_number = true := by decide +kernel
theorem sc_common_of : FnScope N_common_of ["numbers"] (defScope (topS 7)) := ⟨rfl, rfl, rfl, by decide +kernel, rfl, by decide +kernel, by decide +kernel⟩
theorem mt_common_of : matB CN N_common_of (defScope (topS 7)) m_common_of (defBody (topS 7)) = true := by decide +kernel
theorem db_common_of : dbgs N_common_of = true := by decide +kernel
theorem sc_is_fraction : FnScope N_is_fraction ["thing"] (defScope (topS 9)) := ⟨rfl, rfl, rfl, by decide +kernel, rfl, by decide +kernel, by decide +kernel⟩
theorem mt_is_fraction : matB CN N_is_fraction (defScope (topS 9)) m_is_fraction (defBody (topS 9)) = true := by decide +kernel
theorem db_is_fraction : dbgs N_is_fraction = true := by decide +kernel
theorem sc_fraction_of : FnScope N_fraction_of ["top", "bottom"] (defScope (topS 10)) := ⟨rfl, rfl, rfl, by decide +kernel, rfl, by decide +kernel, by decide +kernel⟩
theorem mt_fraction_of : matB CN N_fraction_of (defScope (topS 10)) m_fraction_of (defBody (topS 10)) = true := by decide +kernel
theorem db_fraction_of : dbgs N_fraction_of = true := by decide +kernel
theorem sc_frac_sum : FnScope N_frac_sum ["one", "other"] (defScope (topS 11)) := ⟨rfl, rfl, rfl, by decide +kernel, rfl, by decide +kernel, by decide +kernel⟩
theorem mt_frac_sum : matB CN N_frac_sum (defScope (topS 11)) m_frac_sum (defBody (topS 11)) = true := by decide +kernel
theorem db_frac_sum : dbgs N_frac_sum = true := by decide +kernel
theorem sc_frac_less : FnScope N_frac_less ["one", "other"] (defScope (topS 12)) := ⟨rfl, rfl, rfl, by decide +kernel, rfl, by decide +kernel, by decide +kernel⟩
theorem mt_frac_less : matB CN N_frac_less (defScope (topS 12)) m_frac_less (defBody (topS 12)) = true := by decide +kernel
theorem db_frac_less : dbgs N_frac_less = true := by decide +kernel
theorem sc_frac_times : FnScope N_frac_times ["one", "other"] (defScope (topS 13)) := ⟨rfl, rfl, rfl, by decide +kernel, rfl, by decide +kernel, by decide +kernel⟩
theorem mt_frac_times : matB CN N_frac_times (defScope (topS 13)) m_frac_times (defBody (topS 13)) = true := by decide +kernel
theorem db_frac_times : dbgs N_frac_times = true := by decide +kernel
theorem sc_frac_by : FnScope N_frac_by ["one", "other"] (defScope (topS 14)) := ⟨rfl, rfl, rfl, by decide +kernel, rfl, by decide +kernel, by decide +kernel⟩
theorem mt_frac_by : matB CN N_frac_by (defScope (topS 14)) m_frac_by (defBody (topS 14)) = true := by decide +kernel
theorem db_frac_by : dbgs N_frac_by = true := by decide +kernel
theorem sc_product_of : FnScope N_product_of ["fractions"] (defScope (topS 16)) := ⟨rfl, rfl, rfl, by decide +kernel, rfl, by decide +kernel, by decide +kernel⟩
theorem mt_product_of : matB CN N_product_of (defScope (topS 16)) m_product_of (defBody (topS 16)) = true := by decide +kernel
theorem db_product_of : dbgs N_product_of = true := by decide +kernel
theorem sc_discriminant_of : FnScope N_discriminant_of ["cubic"] (defScope (topS 17)) := ⟨rfl, rfl, rfl, by decide +kernel, rfl, by decide +kernel, by decide +kernel⟩
theorem mt_discriminant_of : matB CN N_discriminant_of (defScope (topS 17)) m_discriminant_of (defBody (topS 17)) = true := by decide +kernel
theorem db_discriminant_of : dbgs N_discriminant_of = true := by decide +kernel
theorem sc_look_at_cubic : FnScope N_look_at_cubic ["cubic"] (defScope (topS 18)) := ⟨rfl, rfl, rfl, by decide +kernel, rfl, by decide +kernel, by decide +kernel⟩
theorem mt_look_at_cubic : matB CN N_look_at_cubic (defScope (topS 18)) m_look_at_cubic (defBody (topS 18)) = true := by decide +kernel
theorem db_look_at_cubic : dbgs N_look_at_cubic = true := by decide +kernel
theorem sc_height_at : FnScope N_height_at ["cubic", "t"] (defScope (topS 21)) := ⟨rfl, rfl, rfl, by decide +kernel, rfl, by decide +kernel, by decide +kernel⟩
theorem mt_height_at : matB CN N_height_at (defScope (topS 21)) m_height_at (defBody (topS 21)) = true := by decide +kernel
theorem db_height_at : dbgs N_height_at = true := by decide +kernel
theorem sc_are_spot : FnScope N_are_spot ["cubic", "thing"] (defScope (topS 22)) := ⟨rfl, rfl, rfl, by decide +kernel, rfl, by decide +kernel, by decide +kernel⟩
theorem mt_are_spot : matB CN N_are_spot (defScope (topS 22)) m_are_spot (defBody (topS 22)) = true := by decide +kernel
theorem db_are_spot : dbgs N_are_spot = true := by decide +kernel
theorem sc_look_at_spot : FnScope N_look_at_spot ["cubic", "spot"] (defScope (topS 23)) := ⟨rfl, rfl, rfl, by decide +kernel, rfl, by decide +kernel, by decide +kernel⟩
theorem mt_look_at_spot : matB CN N_look_at_spot (defScope (topS 23)) m_look_at_spot (defBody (topS 23)) = true := by decide +kernel
theorem db_look_at_spot : dbgs N_look_at_spot = true := by decide +kernel
theorem sc_slope_at : FnScope N_slope_at ["cubic", "one", "other"] (defScope (topS 24)) := ⟨rfl, rfl, rfl, by decide +kernel, rfl, by decide +kernel, by decide +kernel⟩
theorem mt_slope_at : matB CN N_slope_at (defScope (topS 24)) m_slope_at (defBody (topS 24)) = true := by decide +kernel
theorem db_slope_at : dbgs N_slope_at = true := by decide +kernel
theorem sc_turned : FnScope N_turned ["spot"] (defScope (topS 25)) := ⟨rfl, rfl, rfl, by decide +kernel, rfl, by decide +kernel, by decide +kernel⟩
theorem mt_turned : matB CN N_turned (defScope (topS 25)) m_turned (defBody (topS 25)) = true := by decide +kernel
theorem db_turned : dbgs N_turned = true := by decide +kernel
theorem sc_sum_of : FnScope N_sum_of ["cubic", "one", "other"] (defScope (topS 26)) := ⟨rfl, rfl, rfl, by decide +kernel, rfl, by decide +kernel, by decide +kernel⟩
theorem mt_sum_of : matB CN N_sum_of (defScope (topS 26)) m_sum_of (defBody (topS 26)) = true := by decide +kernel
theorem db_sum_of : dbgs N_sum_of = true := by decide +kernel
theorem sc_spot_sum : FnScope N_spot_sum ["cubic", "one", "other"] (defScope (topS 27)) := ⟨rfl, rfl, rfl, by decide +kernel, rfl, by decide +kernel, by decide +kernel⟩
theorem mt_spot_sum : matB CN N_spot_sum (defScope (topS 27)) m_spot_sum (defBody (topS 27)) = true := by decide +kernel
theorem db_spot_sum : dbgs N_spot_sum = true := by decide +kernel
theorem sc_law_cell : FnScope N_law_cell ["_law_script", "_law_k"] (defScope (topS 29)) := ⟨rfl, rfl, rfl, by decide +kernel, rfl, by decide +kernel, by decide +kernel⟩
theorem mt_law_cell : matB CN N_law_cell (defScope (topS 29)) m_law_cell (defBody (topS 29)) = true := by decide +kernel
theorem db_law_cell : dbgs N_law_cell = true := by decide +kernel
theorem sc_law_frac : FnScope N_law_frac ["_law_top", "_law_bottom"] (defScope (topS 30)) := ⟨rfl, rfl, rfl, by decide +kernel, rfl, by decide +kernel, by decide +kernel⟩
theorem mt_law_frac : matB CN N_law_frac (defScope (topS 30)) m_law_frac (defBody (topS 30)) = true := by decide +kernel
theorem db_law_frac : dbgs N_law_frac = true := by decide +kernel
theorem sc_law_add : FnScope N_law_add ["_law_one", "_law_other"] (defScope (topS 31)) := ⟨rfl, rfl, rfl, by decide +kernel, rfl, by decide +kernel, by decide +kernel⟩
theorem mt_law_add : matB CN N_law_add (defScope (topS 31)) m_law_add (defBody (topS 31)) = true := by decide +kernel
theorem db_law_add : dbgs N_law_add = true := by decide +kernel
theorem sc_law_mul : FnScope N_law_mul ["_law_one", "_law_other"] (defScope (topS 32)) := ⟨rfl, rfl, rfl, by decide +kernel, rfl, by decide +kernel, by decide +kernel⟩
theorem mt_law_mul : matB CN N_law_mul (defScope (topS 32)) m_law_mul (defBody (topS 32)) = true := by decide +kernel
theorem db_law_mul : dbgs N_law_mul = true := by decide +kernel
theorem sc_law_sub : FnScope N_law_sub ["_law_one", "_law_other"] (defScope (topS 33)) := ⟨rfl, rfl, rfl, by decide +kernel, rfl, by decide +kernel, by decide +kernel⟩
theorem mt_law_sub : matB CN N_law_sub (defScope (topS 33)) m_law_sub (defBody (topS 33)) = true := by decide +kernel
theorem db_law_sub : dbgs N_law_sub = true := by decide +kernel
theorem sc_law_by : FnScope N_law_by ["_law_one", "_law_other"] (defScope (topS 34)) := ⟨rfl, rfl, rfl, by decide +kernel, rfl, by decide +kernel, by decide +kernel⟩
theorem mt_law_by : matB CN N_law_by (defScope (topS 34)) m_law_by (defBody (topS 34)) = true := by decide +kernel
theorem db_law_by : dbgs N_law_by = true := by decide +kernel
theorem sc_law_all : FnScope N_law_all ["_law_fractions"] (defScope (topS 35)) := ⟨rfl, rfl, rfl, by decide +kernel, rfl, by decide +kernel, by decide +kernel⟩
theorem mt_law_all : matB CN N_law_all (defScope (topS 35)) m_law_all (defBody (topS 35)) = true := by decide +kernel
theorem db_law_all : dbgs N_law_all = true := by decide +kernel
theorem sc_law_discriminant : FnScope N_law_discriminant ["_law_cubic_here"] (defScope (topS 36)) := ⟨rfl, rfl, rfl, by decide +kernel, rfl, by decide +kernel, by decide +kernel⟩
theorem mt_law_discriminant : matB CN N_law_discriminant (defScope (topS 36)) m_law_discriminant (defBody (topS 36)) = true := by decide +kernel
theorem db_law_discriminant : dbgs N_law_discriminant = true := by decide +kernel
theorem sc_law_through : FnScope N_law_through ["_law_script"] (defScope (topS 37)) := ⟨rfl, rfl, rfl, by decide +kernel, rfl, by decide +kernel, by decide +kernel⟩
theorem mt_law_through : matB CN N_law_through (defScope (topS 37)) m_law_through (defBody (topS 37)) = true := by decide +kernel
theorem db_law_through : dbgs N_law_through = true := by decide +kernel
theorem sc_law_cubic : FnScope N_law_cubic ["_law_spots"] (defScope (topS 38)) := ⟨rfl, rfl, rfl, by decide +kernel, rfl, by decide +kernel, by decide +kernel⟩
theorem mt_law_cubic : matB CN N_law_cubic (defScope (topS 38)) m_law_cubic (defBody (topS 38)) = true := by decide +kernel
theorem db_law_cubic : dbgs N_law_cubic = true := by decide +kernel
theorem sc_law_turned : FnScope N_law_turned ["_law_spot"] (defScope (topS 39)) := ⟨rfl, rfl, rfl, by decide +kernel, rfl, by decide +kernel, by decide +kernel⟩
theorem mt_law_turned : matB CN N_law_turned (defScope (topS 39)) m_law_turned (defBody (topS 39)) = true := by decide +kernel
theorem db_law_turned : dbgs N_law_turned = true := by decide +kernel
theorem sc_law : FnScope N_law ["_law_script"] (defScope (topS 40)) := ⟨rfl, rfl, rfl, by decide +kernel, rfl, by decide +kernel, by decide +kernel⟩
theorem mt_law : matB CN N_law (defScope (topS 40)) m_law (defBody (topS 40)) = true := by decide +kernel
theorem db_law : dbgs N_law = true := by decide +kernel
theorem all_mk {P : Program} {w : World} {K : PySem.W.Frag} {h : Heap} {mg : Str → Option Value} {fa : Addr} (X : K.In h) (G : h.Ns mainGlobals mg) (hfa : mg "law" = some (.ref fa)) (htr : P.given.tree = none)
    {c0 c1 c2 c3 : Addr} {e0 e1 e2 e3 : ClassData}
    {f0 f1 f2 f3 f4 f5 f6 f7 f8 f9 f10 f11 f12 f13 f14 f15 f16 f17 f18 f19 f20 f21 f22 f23 f24 f25 f26 f27 f28 f29 : Addr}
    {od0 an0 : Option Addr} {sl0 : Array (Option Value)} {oc0 kV0 dc0 pm0 cd0 ct0 : Value}
    {od1 an1 : Option Addr} {sl1 : Array (Option Value)} {oc1 kV1 dc1 pm1 cd1 ct1 : Value}
    {od2 an2 : Option Addr} {sl2 : Array (Option Value)} {oc2 kV2 dc2 pm2 cd2 ct2 : Value}
    {od3 an3 : Option Addr} {sl3 : Array (Option Value)} {oc3 kV3 dc3 pm3 cd3 ct3 : Value}
    {od4 an4 : Option Addr} {sl4 : Array (Option Value)} {oc4 kV4 dc4 pm4 cd4 ct4 : Value}
    {od5 an5 : Option Addr} {sl5 : Array (Option Value)} {oc5 kV5 dc5 pm5 cd5 ct5 : Value}
    {od6 an6 : Option Addr} {sl6 : Array (Option Value)} {oc6 kV6 dc6 pm6 cd6 ct6 : Value}
    {od7 an7 : Option Addr} {sl7 : Array (Option Value)} {oc7 kV7 dc7 pm7 cd7 ct7 : Value}
    {od8 an8 : Option Addr} {sl8 : Array (Option Value)} {oc8 kV8 dc8 pm8 cd8 ct8 : Value}
    {od9 an9 : Option Addr} {sl9 : Array (Option Value)} {oc9 kV9 dc9 pm9 cd9 ct9 : Value}
    {od10 an10 : Option Addr} {sl10 : Array (Option Value)} {oc10 kV10 dc10 pm10 cd10 ct10 : Value}
    {od11 an11 : Option Addr} {sl11 : Array (Option Value)} {oc11 kV11 dc11 pm11 cd11 ct11 : Value}
    {od12 an12 : Option Addr} {sl12 : Array (Option Value)} {oc12 kV12 dc12 pm12 cd12 ct12 : Value}
    {od13 an13 : Option Addr} {sl13 : Array (Option Value)} {oc13 kV13 dc13 pm13 cd13 ct13 : Value}
    {od14 an14 : Option Addr} {sl14 : Array (Option Value)} {oc14 kV14 dc14 pm14 cd14 ct14 : Value}
    {od15 an15 : Option Addr} {sl15 : Array (Option Value)} {oc15 kV15 dc15 pm15 cd15 ct15 : Value}
    {od16 an16 : Option Addr} {sl16 : Array (Option Value)} {oc16 kV16 dc16 pm16 cd16 ct16 : Value}
    {od17 an17 : Option Addr} {sl17 : Array (Option Value)} {oc17 kV17 dc17 pm17 cd17 ct17 : Value}
    {od18 an18 : Option Addr} {sl18 : Array (Option Value)} {oc18 kV18 dc18 pm18 cd18 ct18 : Value}
    {od19 an19 : Option Addr} {sl19 : Array (Option Value)} {oc19 kV19 dc19 pm19 cd19 ct19 : Value}
    {od20 an20 : Option Addr} {sl20 : Array (Option Value)} {oc20 kV20 dc20 pm20 cd20 ct20 : Value}
    {od21 an21 : Option Addr} {sl21 : Array (Option Value)} {oc21 kV21 dc21 pm21 cd21 ct21 : Value}
    {od22 an22 : Option Addr} {sl22 : Array (Option Value)} {oc22 kV22 dc22 pm22 cd22 ct22 : Value}
    {od23 an23 : Option Addr} {sl23 : Array (Option Value)} {oc23 kV23 dc23 pm23 cd23 ct23 : Value}
    {od24 an24 : Option Addr} {sl24 : Array (Option Value)} {oc24 kV24 dc24 pm24 cd24 ct24 : Value}
    {od25 an25 : Option Addr} {sl25 : Array (Option Value)} {oc25 kV25 dc25 pm25 cd25 ct25 : Value}
    {od26 an26 : Option Addr} {sl26 : Array (Option Value)} {oc26 kV26 dc26 pm26 cd26 ct26 : Value}
    {od27 an27 : Option Addr} {sl27 : Array (Option Value)} {oc27 kV27 dc27 pm27 cd27 ct27 : Value}
    {od28 an28 : Option Addr} {sl28 : Array (Option Value)} {oc28 kV28 dc28 pm28 cd28 ct28 : Value}
    {od29 an29 : Option Addr} {sl29 : Array (Option Value)} {oc29 kV29 dc29 pm29 cd29 ct29 : Value}
    (x0 : ClsF K "RoundError" c0 c0 true e0)
    (x1 : ClsF K "NoBottom" c0 c1 false e1)
    (x2 : ClsF K "NoCubic" c0 c2 false e2)
    (x3 : ClsF K "NoSpot" c0 c3 false e3)
    (hn : PySem.W.specialIn K (.builtin "object.__class__") "__get__" = some (some (.builtin "getset_descriptor.__get__"))) (ht : PySem.W.takesIn K (.builtin "object.__class__") = some true)
    (nd : ([c0, c1, c2, c3] : List Addr).Nodup)
    (z0 : PySem.W.nsIn K mainGlobals "len" = some none)
    (z1 : PySem.W.nsIn K mainGlobals "abs" = some none)
    (z2 : PySem.W.nsIn K mainGlobals "sum" = some none)
    (z3 : PySem.W.nsIn K mainGlobals "all" = some none)
    (z4 : PySem.W.nsIn K mainGlobals "any" = some none)
    (z5 : PySem.W.nsIn K mainGlobals "tuple" = some none)
    (z6 : PySem.W.nsIn K mainGlobals "list" = some none)
    (z7 : PySem.W.nsIn K mainGlobals "int" = some none)
    (z8 : PySem.W.nsIn K mainGlobals "str" = some none)
    (z9 : PySem.W.nsIn K mainGlobals "max" = some none)
    (z10 : PySem.W.nsIn K mainGlobals "min" = some none)
    (z11 : PySem.W.nsIn K mainGlobals "isinstance" = some none)
    (z12 : PySem.W.nsIn K mainGlobals "range" = some none)
    (z13 : PySem.W.nsIn K mainGlobals "zip" = some none)
    (z14 : PySem.W.nsIn K mainGlobals "bool" = some none)
    (z15 : PySem.W.nsIn K mainGlobals "ValueError" = some none)
    (z16 : PySem.W.nsIn K mainGlobals "set" = some none)
    (z17 : PySem.W.nsIn K mainGlobals "sorted" = some none)
    (glob0 : KG K "NOTHING" (D.tup [(.int 0), (.int 1)]))
    (a0 : PySem.W.nsIn K mainGlobals "is_number" = some (some (.ref f0))) (l0 : K.lookup f0 = some ⟨oc0, od0, .func (PySem.W.fnOf "is_number" "is_number" (defArgs (topS 6)) (defBody (topS 6)) (defScope (topS 6)) .none kV0 dc0 pm0 an0 cd0 ct0), sl0⟩) (t0 : PySem.W.codeIn K cd0 "is_number" = true) (k0 : PySem.W.keepIn K (.ref f0) = true)
    (a1 : PySem.W.nsIn K mainGlobals "common_of" = some (some (.ref f1))) (l1 : K.lookup f1 = some ⟨oc1, od1, .func (PySem.W.fnOf "common_of" "common_of" (defArgs (topS 7)) (defBody (topS 7)) (defScope (topS 7)) .none kV1 dc1 pm1 an1 cd1 ct1), sl1⟩) (t1 : PySem.W.codeIn K cd1 "common_of" = true) (k1 : PySem.W.keepIn K (.ref f1) = true)
    (a2 : PySem.W.nsIn K mainGlobals "is_fraction" = some (some (.ref f2))) (l2 : K.lookup f2 = some ⟨oc2, od2, .func (PySem.W.fnOf "is_fraction" "is_fraction" (defArgs (topS 9)) (defBody (topS 9)) (defScope (topS 9)) .none kV2 dc2 pm2 an2 cd2 ct2), sl2⟩) (t2 : PySem.W.codeIn K cd2 "is_fraction" = true) (k2 : PySem.W.keepIn K (.ref f2) = true)
    (a3 : PySem.W.nsIn K mainGlobals "fraction_of" = some (some (.ref f3))) (l3 : K.lookup f3 = some ⟨oc3, od3, .func (PySem.W.fnOf "fraction_of" "fraction_of" (defArgs (topS 10)) (defBody (topS 10)) (defScope (topS 10)) .none kV3 dc3 pm3 an3 cd3 ct3), sl3⟩) (t3 : PySem.W.codeIn K cd3 "fraction_of" = true) (k3 : PySem.W.keepIn K (.ref f3) = true)
    (a4 : PySem.W.nsIn K mainGlobals "frac_sum" = some (some (.ref f4))) (l4 : K.lookup f4 = some ⟨oc4, od4, .func (PySem.W.fnOf "frac_sum" "frac_sum" (defArgs (topS 11)) (defBody (topS 11)) (defScope (topS 11)) .none kV4 dc4 pm4 an4 cd4 ct4), sl4⟩) (t4 : PySem.W.codeIn K cd4 "frac_sum" = true) (k4 : PySem.W.keepIn K (.ref f4) = true)
    (a5 : PySem.W.nsIn K mainGlobals "frac_less" = some (some (.ref f5))) (l5 : K.lookup f5 = some ⟨oc5, od5, .func (PySem.W.fnOf "frac_less" "frac_less" (defArgs (topS 12)) (defBody (topS 12)) (defScope (topS 12)) .none kV5 dc5 pm5 an5 cd5 ct5), sl5⟩) (t5 : PySem.W.codeIn K cd5 "frac_less" = true) (k5 : PySem.W.keepIn K (.ref f5) = true)
    (a6 : PySem.W.nsIn K mainGlobals "frac_times" = some (some (.ref f6))) (l6 : K.lookup f6 = some ⟨oc6, od6, .func (PySem.W.fnOf "frac_times" "frac_times" (defArgs (topS 13)) (defBody (topS 13)) (defScope (topS 13)) .none kV6 dc6 pm6 an6 cd6 ct6), sl6⟩) (t6 : PySem.W.codeIn K cd6 "frac_times" = true) (k6 : PySem.W.keepIn K (.ref f6) = true)
    (a7 : PySem.W.nsIn K mainGlobals "frac_by" = some (some (.ref f7))) (l7 : K.lookup f7 = some ⟨oc7, od7, .func (PySem.W.fnOf "frac_by" "frac_by" (defArgs (topS 14)) (defBody (topS 14)) (defScope (topS 14)) .none kV7 dc7 pm7 an7 cd7 ct7), sl7⟩) (t7 : PySem.W.codeIn K cd7 "frac_by" = true) (k7 : PySem.W.keepIn K (.ref f7) = true)
    (a8 : PySem.W.nsIn K mainGlobals "product_of" = some (some (.ref f8))) (l8 : K.lookup f8 = some ⟨oc8, od8, .func (PySem.W.fnOf "product_of" "product_of" (defArgs (topS 16)) (defBody (topS 16)) (defScope (topS 16)) .none kV8 dc8 pm8 an8 cd8 ct8), sl8⟩) (t8 : PySem.W.codeIn K cd8 "product_of" = true) (k8 : PySem.W.keepIn K (.ref f8) = true)
    (a9 : PySem.W.nsIn K mainGlobals "discriminant_of" = some (some (.ref f9))) (l9 : K.lookup f9 = some ⟨oc9, od9, .func (PySem.W.fnOf "discriminant_of" "discriminant_of" (defArgs (topS 17)) (defBody (topS 17)) (defScope (topS 17)) .none kV9 dc9 pm9 an9 cd9 ct9), sl9⟩) (t9 : PySem.W.codeIn K cd9 "discriminant_of" = true) (k9 : PySem.W.keepIn K (.ref f9) = true)
    (a10 : PySem.W.nsIn K mainGlobals "look_at_cubic" = some (some (.ref f10))) (l10 : K.lookup f10 = some ⟨oc10, od10, .func (PySem.W.fnOf "look_at_cubic" "look_at_cubic" (defArgs (topS 18)) (defBody (topS 18)) (defScope (topS 18)) .none kV10 dc10 pm10 an10 cd10 ct10), sl10⟩) (t10 : PySem.W.codeIn K cd10 "look_at_cubic" = true) (k10 : PySem.W.keepIn K (.ref f10) = true)
    (a11 : PySem.W.nsIn K mainGlobals "height_at" = some (some (.ref f11))) (l11 : K.lookup f11 = some ⟨oc11, od11, .func (PySem.W.fnOf "height_at" "height_at" (defArgs (topS 21)) (defBody (topS 21)) (defScope (topS 21)) .none kV11 dc11 pm11 an11 cd11 ct11), sl11⟩) (t11 : PySem.W.codeIn K cd11 "height_at" = true) (k11 : PySem.W.keepIn K (.ref f11) = true)
    (a12 : PySem.W.nsIn K mainGlobals "are_spot" = some (some (.ref f12))) (l12 : K.lookup f12 = some ⟨oc12, od12, .func (PySem.W.fnOf "are_spot" "are_spot" (defArgs (topS 22)) (defBody (topS 22)) (defScope (topS 22)) .none kV12 dc12 pm12 an12 cd12 ct12), sl12⟩) (t12 : PySem.W.codeIn K cd12 "are_spot" = true) (k12 : PySem.W.keepIn K (.ref f12) = true)
    (a13 : PySem.W.nsIn K mainGlobals "look_at_spot" = some (some (.ref f13))) (l13 : K.lookup f13 = some ⟨oc13, od13, .func (PySem.W.fnOf "look_at_spot" "look_at_spot" (defArgs (topS 23)) (defBody (topS 23)) (defScope (topS 23)) .none kV13 dc13 pm13 an13 cd13 ct13), sl13⟩) (t13 : PySem.W.codeIn K cd13 "look_at_spot" = true) (k13 : PySem.W.keepIn K (.ref f13) = true)
    (a14 : PySem.W.nsIn K mainGlobals "slope_at" = some (some (.ref f14))) (l14 : K.lookup f14 = some ⟨oc14, od14, .func (PySem.W.fnOf "slope_at" "slope_at" (defArgs (topS 24)) (defBody (topS 24)) (defScope (topS 24)) .none kV14 dc14 pm14 an14 cd14 ct14), sl14⟩) (t14 : PySem.W.codeIn K cd14 "slope_at" = true) (k14 : PySem.W.keepIn K (.ref f14) = true)
    (a15 : PySem.W.nsIn K mainGlobals "turned" = some (some (.ref f15))) (l15 : K.lookup f15 = some ⟨oc15, od15, .func (PySem.W.fnOf "turned" "turned" (defArgs (topS 25)) (defBody (topS 25)) (defScope (topS 25)) .none kV15 dc15 pm15 an15 cd15 ct15), sl15⟩) (t15 : PySem.W.codeIn K cd15 "turned" = true) (k15 : PySem.W.keepIn K (.ref f15) = true)
    (a16 : PySem.W.nsIn K mainGlobals "sum_of" = some (some (.ref f16))) (l16 : K.lookup f16 = some ⟨oc16, od16, .func (PySem.W.fnOf "sum_of" "sum_of" (defArgs (topS 26)) (defBody (topS 26)) (defScope (topS 26)) .none kV16 dc16 pm16 an16 cd16 ct16), sl16⟩) (t16 : PySem.W.codeIn K cd16 "sum_of" = true) (k16 : PySem.W.keepIn K (.ref f16) = true)
    (a17 : PySem.W.nsIn K mainGlobals "spot_sum" = some (some (.ref f17))) (l17 : K.lookup f17 = some ⟨oc17, od17, .func (PySem.W.fnOf "spot_sum" "spot_sum" (defArgs (topS 27)) (defBody (topS 27)) (defScope (topS 27)) .none kV17 dc17 pm17 an17 cd17 ct17), sl17⟩) (t17 : PySem.W.codeIn K cd17 "spot_sum" = true) (k17 : PySem.W.keepIn K (.ref f17) = true)
    (a18 : PySem.W.nsIn K mainGlobals "_law_cell" = some (some (.ref f18))) (l18 : K.lookup f18 = some ⟨oc18, od18, .func (PySem.W.fnOf "_law_cell" "_law_cell" (defArgs (topS 29)) (defBody (topS 29)) (defScope (topS 29)) .none kV18 dc18 pm18 an18 cd18 ct18), sl18⟩) (t18 : PySem.W.codeIn K cd18 "_law_cell" = true) (k18 : PySem.W.keepIn K (.ref f18) = true)
    (a19 : PySem.W.nsIn K mainGlobals "_law_frac" = some (some (.ref f19))) (l19 : K.lookup f19 = some ⟨oc19, od19, .func (PySem.W.fnOf "_law_frac" "_law_frac" (defArgs (topS 30)) (defBody (topS 30)) (defScope (topS 30)) .none kV19 dc19 pm19 an19 cd19 ct19), sl19⟩) (t19 : PySem.W.codeIn K cd19 "_law_frac" = true) (k19 : PySem.W.keepIn K (.ref f19) = true)
    (a20 : PySem.W.nsIn K mainGlobals "_law_add" = some (some (.ref f20))) (l20 : K.lookup f20 = some ⟨oc20, od20, .func (PySem.W.fnOf "_law_add" "_law_add" (defArgs (topS 31)) (defBody (topS 31)) (defScope (topS 31)) .none kV20 dc20 pm20 an20 cd20 ct20), sl20⟩) (t20 : PySem.W.codeIn K cd20 "_law_add" = true) (k20 : PySem.W.keepIn K (.ref f20) = true)
    (a21 : PySem.W.nsIn K mainGlobals "_law_mul" = some (some (.ref f21))) (l21 : K.lookup f21 = some ⟨oc21, od21, .func (PySem.W.fnOf "_law_mul" "_law_mul" (defArgs (topS 32)) (defBody (topS 32)) (defScope (topS 32)) .none kV21 dc21 pm21 an21 cd21 ct21), sl21⟩) (t21 : PySem.W.codeIn K cd21 "_law_mul" = true) (k21 : PySem.W.keepIn K (.ref f21) = true)
    (a22 : PySem.W.nsIn K mainGlobals "_law_sub" = some (some (.ref f22))) (l22 : K.lookup f22 = some ⟨oc22, od22, .func (PySem.W.fnOf "_law_sub" "_law_sub" (defArgs (topS 33)) (defBody (topS 33)) (defScope (topS 33)) .none kV22 dc22 pm22 an22 cd22 ct22), sl22⟩) (t22 : PySem.W.codeIn K cd22 "_law_sub" = true) (k22 : PySem.W.keepIn K (.ref f22) = true)
    (a23 : PySem.W.nsIn K mainGlobals "_law_by" = some (some (.ref f23))) (l23 : K.lookup f23 = some ⟨oc23, od23, .func (PySem.W.fnOf "_law_by" "_law_by" (defArgs (topS 34)) (defBody (topS 34)) (defScope (topS 34)) .none kV23 dc23 pm23 an23 cd23 ct23), sl23⟩) (t23 : PySem.W.codeIn K cd23 "_law_by" = true) (k23 : PySem.W.keepIn K (.ref f23) = true)
    (a24 : PySem.W.nsIn K mainGlobals "_law_all" = some (some (.ref f24))) (l24 : K.lookup f24 = some ⟨oc24, od24, .func (PySem.W.fnOf "_law_all" "_law_all" (defArgs (topS 35)) (defBody (topS 35)) (defScope (topS 35)) .none kV24 dc24 pm24 an24 cd24 ct24), sl24⟩) (t24 : PySem.W.codeIn K cd24 "_law_all" = true) (k24 : PySem.W.keepIn K (.ref f24) = true)
    (a25 : PySem.W.nsIn K mainGlobals "_law_discriminant" = some (some (.ref f25))) (l25 : K.lookup f25 = some ⟨oc25, od25, .func (PySem.W.fnOf "_law_discriminant" "_law_discriminant" (defArgs (topS 36)) (defBody (topS 36)) (defScope (topS 36)) .none kV25 dc25 pm25 an25 cd25 ct25), sl25⟩) (t25 : PySem.W.codeIn K cd25 "_law_discriminant" = true) (k25 : PySem.W.keepIn K (.ref f25) = true)
    (a26 : PySem.W.nsIn K mainGlobals "_law_through" = some (some (.ref f26))) (l26 : K.lookup f26 = some ⟨oc26, od26, .func (PySem.W.fnOf "_law_through" "_law_through" (defArgs (topS 37)) (defBody (topS 37)) (defScope (topS 37)) .none kV26 dc26 pm26 an26 cd26 ct26), sl26⟩) (t26 : PySem.W.codeIn K cd26 "_law_through" = true) (k26 : PySem.W.keepIn K (.ref f26) = true)
    (a27 : PySem.W.nsIn K mainGlobals "_law_cubic" = some (some (.ref f27))) (l27 : K.lookup f27 = some ⟨oc27, od27, .func (PySem.W.fnOf "_law_cubic" "_law_cubic" (defArgs (topS 38)) (defBody (topS 38)) (defScope (topS 38)) .none kV27 dc27 pm27 an27 cd27 ct27), sl27⟩) (t27 : PySem.W.codeIn K cd27 "_law_cubic" = true) (k27 : PySem.W.keepIn K (.ref f27) = true)
    (a28 : PySem.W.nsIn K mainGlobals "_law_turned" = some (some (.ref f28))) (l28 : K.lookup f28 = some ⟨oc28, od28, .func (PySem.W.fnOf "_law_turned" "_law_turned" (defArgs (topS 39)) (defBody (topS 39)) (defScope (topS 39)) .none kV28 dc28 pm28 an28 cd28 ct28), sl28⟩) (t28 : PySem.W.codeIn K cd28 "_law_turned" = true) (k28 : PySem.W.keepIn K (.ref f28) = true)
    (a29 : PySem.W.nsIn K mainGlobals "law" = some (some (.ref f29))) (l29 : K.lookup f29 = some ⟨oc29, od29, .func (PySem.W.fnOf "law" "law" (defArgs (topS 40)) (defBody (topS 40)) (defScope (topS 40)) .none kV29 dc29 pm29 an29 cd29 ct29), sl29⟩) (t29 : PySem.W.codeIn K cd29 "law" = true) (k29 : PySem.W.keepIn K (.ref f29) = true)
    : ∃ fd : FuncData, (∀ (s : Shared) (u : Value), BindsTo s fd ⟨[u], []⟩ [("_law_script", u)]) ∧ ∀ base : Heap, K.In base → base.Ns mainGlobals mg → base.NoSeer → FnG P w K mg base (L2.CX P w) 40 fa fd ["_law_script"] (spOf K (CAof [c0, c1, c2, c3]) (spLaw small)) := by
  cases hfa.symm.trans (PySem.W.mg_of X G a29)
  have wd : WdS K mg (CAof [c0, c1, c2, c3]) CN 4 := by
    refine ⟨?_, ?_, ?_⟩
    · intro x hx
      simp only [names, List.mem_cons, List.not_mem_nil, or_false] at hx
      rcases hx with rfl | rfl | rfl | rfl | rfl | rfl | rfl | rfl | rfl | rfl | rfl | rfl | rfl | rfl | rfl | rfl | rfl | rfl
      all_goals first | exact PySem.W.mg_none_of X G z0 | exact PySem.W.mg_none_of X G z1 | exact PySem.W.mg_none_of X G z2 | exact PySem.W.mg_none_of X G z3 | exact PySem.W.mg_none_of X G z4 | exact PySem.W.mg_none_of X G z5 | exact PySem.W.mg_none_of X G z6 | exact PySem.W.mg_none_of X G z7 | exact PySem.W.mg_none_of X G z8 | exact PySem.W.mg_none_of X G z9 | exact PySem.W.mg_none_of X G z10 | exact PySem.W.mg_none_of X G z11 | exact PySem.W.mg_none_of X G z12 | exact PySem.W.mg_none_of X G z13 | exact PySem.W.mg_none_of X G z14 | exact PySem.W.mg_none_of X G z15 | exact PySem.W.mg_none_of X G z16 | exact PySem.W.mg_none_of X G z17
    · intro c hc
      match c, hc with
      | 0, _ => exact clsF_ok X G (b := true) x0 (by decide) hn ht
      | 1, _ => exact clsF_ok X G (b := false) x1 (by decide) hn ht
      | 2, _ => exact clsF_ok X G (b := false) x2 (by decide) hn ht
      | 3, _ => exact clsF_ok X G (b := false) x3 (by decide) hn ht
      | c + 4, hc => exact absurd hc (by omega)
    · intro c c' h h' e
      exact nodup_inj nd (by simpa using h) (by simpa using h') e
  have gg0 : GlS (CAof [c0, c1, c2, c3]) K mg "NOTHING" (D.tup [(.int 0), (.int 1)]) := glS_of X G glob0
  have F0 := fun_mk (st := topS 6) l0 t0 k0
  have b0 := F0.binds (ps := ["thing"]) fun _ _ _ _ _ _ us hl => match us, hl with | [_], _ => rfl
  have F1 := fun_mk (st := topS 7) l1 t1 k1
  have b1 := F1.binds (ps := ["numbers"]) fun _ _ _ _ _ _ us hl => match us, hl with | [_], _ => rfl
  have F2 := fun_mk (st := topS 9) l2 t2 k2
  have b2 := F2.binds (ps := ["thing"]) fun _ _ _ _ _ _ us hl => match us, hl with | [_], _ => rfl
  have F3 := fun_mk (st := topS 10) l3 t3 k3
  have b3 := F3.binds (ps := ["top", "bottom"]) fun _ _ _ _ _ _ us hl => match us, hl with | [_, _], _ => rfl
  have F4 := fun_mk (st := topS 11) l4 t4 k4
  have b4 := F4.binds (ps := ["one", "other"]) fun _ _ _ _ _ _ us hl => match us, hl with | [_, _], _ => rfl
  have F5 := fun_mk (st := topS 12) l5 t5 k5
  have b5 := F5.binds (ps := ["one", "other"]) fun _ _ _ _ _ _ us hl => match us, hl with | [_, _], _ => rfl
  have F6 := fun_mk (st := topS 13) l6 t6 k6
  have b6 := F6.binds (ps := ["one", "other"]) fun _ _ _ _ _ _ us hl => match us, hl with | [_, _], _ => rfl
  have F7 := fun_mk (st := topS 14) l7 t7 k7
  have b7 := F7.binds (ps := ["one", "other"]) fun _ _ _ _ _ _ us hl => match us, hl with | [_, _], _ => rfl
  have F8 := fun_mk (st := topS 16) l8 t8 k8
  have b8 := F8.binds (ps := ["fractions"]) fun _ _ _ _ _ _ us hl => match us, hl with | [_], _ => rfl
  have F9 := fun_mk (st := topS 17) l9 t9 k9
  have b9 := F9.binds (ps := ["cubic"]) fun _ _ _ _ _ _ us hl => match us, hl with | [_], _ => rfl
  have F10 := fun_mk (st := topS 18) l10 t10 k10
  have b10 := F10.binds (ps := ["cubic"]) fun _ _ _ _ _ _ us hl => match us, hl with | [_], _ => rfl
  have F11 := fun_mk (st := topS 21) l11 t11 k11
  have b11 := F11.binds (ps := ["cubic", "t"]) fun _ _ _ _ _ _ us hl => match us, hl with | [_, _], _ => rfl
  have F12 := fun_mk (st := topS 22) l12 t12 k12
  have b12 := F12.binds (ps := ["cubic", "thing"]) fun _ _ _ _ _ _ us hl => match us, hl with | [_, _], _ => rfl
  have F13 := fun_mk (st := topS 23) l13 t13 k13
  have b13 := F13.binds (ps := ["cubic", "spot"]) fun _ _ _ _ _ _ us hl => match us, hl with | [_, _], _ => rfl
  have F14 := fun_mk (st := topS 24) l14 t14 k14
  have b14 := F14.binds (ps := ["cubic", "one", "other"]) fun _ _ _ _ _ _ us hl => match us, hl with | [_, _, _], _ => rfl
  have F15 := fun_mk (st := topS 25) l15 t15 k15
  have b15 := F15.binds (ps := ["spot"]) fun _ _ _ _ _ _ us hl => match us, hl with | [_], _ => rfl
  have F16 := fun_mk (st := topS 26) l16 t16 k16
  have b16 := F16.binds (ps := ["cubic", "one", "other"]) fun _ _ _ _ _ _ us hl => match us, hl with | [_, _, _], _ => rfl
  have F17 := fun_mk (st := topS 27) l17 t17 k17
  have b17 := F17.binds (ps := ["cubic", "one", "other"]) fun _ _ _ _ _ _ us hl => match us, hl with | [_, _, _], _ => rfl
  have F18 := fun_mk (st := topS 29) l18 t18 k18
  have b18 := F18.binds (ps := ["_law_script", "_law_k"]) fun _ _ _ _ _ _ us hl => match us, hl with | [_, _], _ => rfl
  have F19 := fun_mk (st := topS 30) l19 t19 k19
  have b19 := F19.binds (ps := ["_law_top", "_law_bottom"]) fun _ _ _ _ _ _ us hl => match us, hl with | [_, _], _ => rfl
  have F20 := fun_mk (st := topS 31) l20 t20 k20
  have b20 := F20.binds (ps := ["_law_one", "_law_other"]) fun _ _ _ _ _ _ us hl => match us, hl with | [_, _], _ => rfl
  have F21 := fun_mk (st := topS 32) l21 t21 k21
  have b21 := F21.binds (ps := ["_law_one", "_law_other"]) fun _ _ _ _ _ _ us hl => match us, hl with | [_, _], _ => rfl
  have F22 := fun_mk (st := topS 33) l22 t22 k22
  have b22 := F22.binds (ps := ["_law_one", "_law_other"]) fun _ _ _ _ _ _ us hl => match us, hl with | [_, _], _ => rfl
  have F23 := fun_mk (st := topS 34) l23 t23 k23
  have b23 := F23.binds (ps := ["_law_one", "_law_other"]) fun _ _ _ _ _ _ us hl => match us, hl with | [_, _], _ => rfl
  have F24 := fun_mk (st := topS 35) l24 t24 k24
  have b24 := F24.binds (ps := ["_law_fractions"]) fun _ _ _ _ _ _ us hl => match us, hl with | [_], _ => rfl
  have F25 := fun_mk (st := topS 36) l25 t25 k25
  have b25 := F25.binds (ps := ["_law_cubic_here"]) fun _ _ _ _ _ _ us hl => match us, hl with | [_], _ => rfl
  have F26 := fun_mk (st := topS 37) l26 t26 k26
  have b26 := F26.binds (ps := ["_law_script"]) fun _ _ _ _ _ _ us hl => match us, hl with | [_], _ => rfl
  have F27 := fun_mk (st := topS 38) l27 t27 k27
  have b27 := F27.binds (ps := ["_law_spots"]) fun _ _ _ _ _ _ us hl => match us, hl with | [_], _ => rfl
  have F28 := fun_mk (st := topS 39) l28 t28 k28
  have b28 := F28.binds (ps := ["_law_spot"]) fun _ _ _ _ _ _ us hl => match us, hl with | [_], _ => rfl
  have F29 := fun_mk (st := topS 40) l29 t29 k29
  have b29 := F29.binds (ps := ["_law_script"]) fun _ _ _ _ _ _ us hl => match us, hl with | [_], _ => rfl
  refine ⟨PySem.W.fnOf "law" "law" (defArgs (topS 40)) (defBody (topS 40)) (defScope (topS 40)) .none kV29 dc29 pm29 an29 cd29 ct29, fun s v => .of_eq rfl, fun base _ _ hN => ?_⟩
  have o0 : FnG P w K mg base (L2.CX P w) 33 f0 _ _ (spOf K (CAof [c0, c1, c2, c3]) S_is_number) := fn_ok F0 sc_is_number db_is_number hN htr (by decide) wd mt_is_number (by simp (config := { decide := true }) only [m_is_number, okB, okS, okE, okA, okO, okI, gg0, List.mem_cons, List.not_mem_nil, or_false, forall_eq_or_imp, forall_eq, and_true, true_and, and_self]) w_is_number
  have s0 : FnS (CAof [c0, c1, c2, c3]) P w K mg base 33 "is_number" S_is_number := ⟨f0, _, _, o0, PySem.W.mg_of X G a0, k0, b0⟩
  have o1 : FnG P w K mg base (L2.CX P w) 33 f1 _ _ (spOf K (CAof [c0, c1, c2, c3]) S_common_of) := fn_ok F1 sc_common_of db_common_of hN htr (by decide) wd mt_common_of (by simp (config := { decide := true }) only [m_common_of, okB, okS, okE, okA, okO, okI, gg0, List.mem_cons, List.not_mem_nil, or_false, forall_eq_or_imp, forall_eq, and_true, true_and, and_self]) w_common_of
  have s1 : FnS (CAof [c0, c1, c2, c3]) P w K mg base 33 "common_of" S_common_of := ⟨f1, _, _, o1, PySem.W.mg_of X G a1, k1, b1⟩
  have o18 : FnG P w K mg base (L2.CX P w) 33 f18 _ _ (spOf K (CAof [c0, c1, c2, c3]) S_law_cell) := fn_ok F18 sc_law_cell db_law_cell hN htr (by decide) wd mt_law_cell (by simp (config := { decide := true }) only [m_law_cell_5, m_law_cell_4, m_law_cell_3, m_law_cell_2a, m_law_cell_2, m_law_cell_1a, m_law_cell_1, m_law_cell, okB, okS, okE, okA, okO, okI, gg0, List.mem_cons, List.not_mem_nil, or_false, forall_eq_or_imp, forall_eq, and_true, true_and, and_self]) w_law_cell
  have s18 : FnS (CAof [c0, c1, c2, c3]) P w K mg base 33 "_law_cell" S_law_cell := ⟨f18, _, _, o18, PySem.W.mg_of X G a18, k18, b18⟩
  have o19 : FnG P w K mg base (L2.CX P w) 33 f19 _ _ (spOf K (CAof [c0, c1, c2, c3]) S_law_frac) := fn_ok F19 sc_law_frac db_law_frac hN htr (by decide) wd mt_law_frac (by simp (config := { decide := true }) only [m_law_frac_4, m_law_frac_3a, m_law_frac_3, m_law_frac_2a, m_law_frac_2, m_law_frac_1, m_law_frac, okB, okS, okE, okA, okO, okI, gg0, List.mem_cons, List.not_mem_nil, or_false, forall_eq_or_imp, forall_eq, and_true, true_and, and_self]) w_law_frac
  have s19 : FnS (CAof [c0, c1, c2, c3]) P w K mg base 33 "_law_frac" S_law_frac := ⟨f19, _, _, o19, PySem.W.mg_of X G a19, k19, b19⟩
  have o28 : FnG P w K mg base (L2.CX P w) 33 f28 _ _ (spOf K (CAof [c0, c1, c2, c3]) S_law_turned) := fn_ok F28 sc_law_turned db_law_turned hN htr (by decide) wd mt_law_turned (by simp (config := { decide := true }) only [m_law_turned, okB, okS, okE, okA, okO, okI, gg0, List.mem_cons, List.not_mem_nil, or_false, forall_eq_or_imp, forall_eq, and_true, true_and, and_self]) w_law_turned
  have s28 : FnS (CAof [c0, c1, c2, c3]) P w K mg base 33 "_law_turned" S_law_turned := ⟨f28, _, _, o28, PySem.W.mg_of X G a28, k28, b28⟩
  have o2 : FnG P w K mg base (L2.CX P w) 34 f2 _ _ (spOf K (CAof [c0, c1, c2, c3]) S_is_fraction) := fn_ok F2 sc_is_fraction db_is_fraction hN htr (by decide) wd mt_is_fraction (by simp (config := { decide := true }) only [m_is_fraction, okB, okS, okE, okA, okO, okI, gg0, s0.mono (show 33 ≤ 33 by decide), s1.mono (show 33 ≤ 33 by decide), List.mem_cons, List.not_mem_nil, or_false, forall_eq_or_imp, forall_eq, and_true, true_and, and_self]) w_is_fraction
  have s2 : FnS (CAof [c0, c1, c2, c3]) P w K mg base 34 "is_fraction" S_is_fraction := ⟨f2, _, _, o2, PySem.W.mg_of X G a2, k2, b2⟩
  have o3 : FnG P w K mg base (L2.CX P w) 34 f3 _ _ (spOf K (CAof [c0, c1, c2, c3]) S_fraction_of) := fn_ok F3 sc_fraction_of db_fraction_of hN htr (by decide) wd mt_fraction_of (by simp (config := { decide := true }) only [m_fraction_of, okB, okS, okE, okA, okO, okI, gg0, s1.mono (show 33 ≤ 33 by decide), List.mem_cons, List.not_mem_nil, or_false, forall_eq_or_imp, forall_eq, and_true, true_and, and_self]) w_fraction_of
  have s3 : FnS (CAof [c0, c1, c2, c3]) P w K mg base 34 "fraction_of" S_fraction_of := ⟨f3, _, _, o3, PySem.W.mg_of X G a3, k3, b3⟩
  have o20 : FnG P w K mg base (L2.CX P w) 34 f20 _ _ (spOf K (CAof [c0, c1, c2, c3]) S_law_add) := fn_ok F20 sc_law_add db_law_add hN htr (by decide) wd mt_law_add (by simp (config := { decide := true }) only [m_law_add, okB, okS, okE, okA, okO, okI, gg0, s19.mono (show 33 ≤ 33 by decide), List.mem_cons, List.not_mem_nil, or_false, forall_eq_or_imp, forall_eq, and_true, true_and, and_self]) w_law_add
  have s20 : FnS (CAof [c0, c1, c2, c3]) P w K mg base 34 "_law_add" S_law_add := ⟨f20, _, _, o20, PySem.W.mg_of X G a20, k20, b20⟩
  have o21 : FnG P w K mg base (L2.CX P w) 34 f21 _ _ (spOf K (CAof [c0, c1, c2, c3]) S_law_mul) := fn_ok F21 sc_law_mul db_law_mul hN htr (by decide) wd mt_law_mul (by simp (config := { decide := true }) only [m_law_mul, okB, okS, okE, okA, okO, okI, gg0, s19.mono (show 33 ≤ 33 by decide), List.mem_cons, List.not_mem_nil, or_false, forall_eq_or_imp, forall_eq, and_true, true_and, and_self]) w_law_mul
  have s21 : FnS (CAof [c0, c1, c2, c3]) P w K mg base 34 "_law_mul" S_law_mul := ⟨f21, _, _, o21, PySem.W.mg_of X G a21, k21, b21⟩
  have o22 : FnG P w K mg base (L2.CX P w) 34 f22 _ _ (spOf K (CAof [c0, c1, c2, c3]) S_law_sub) := fn_ok F22 sc_law_sub db_law_sub hN htr (by decide) wd mt_law_sub (by simp (config := { decide := true }) only [m_law_sub, okB, okS, okE, okA, okO, okI, gg0, s19.mono (show 33 ≤ 33 by decide), List.mem_cons, List.not_mem_nil, or_false, forall_eq_or_imp, forall_eq, and_true, true_and, and_self]) w_law_sub
  have s22 : FnS (CAof [c0, c1, c2, c3]) P w K mg base 34 "_law_sub" S_law_sub := ⟨f22, _, _, o22, PySem.W.mg_of X G a22, k22, b22⟩
  have o23 : FnG P w K mg base (L2.CX P w) 34 f23 _ _ (spOf K (CAof [c0, c1, c2, c3]) S_law_by) := fn_ok F23 sc_law_by db_law_by hN htr (by decide) wd mt_law_by (by simp (config := { decide := true }) only [m_law_by, okB, okS, okE, okA, okO, okI, gg0, s19.mono (show 33 ≤ 33 by decide), List.mem_cons, List.not_mem_nil, or_false, forall_eq_or_imp, forall_eq, and_true, true_and, and_self]) w_law_by
  have s23 : FnS (CAof [c0, c1, c2, c3]) P w K mg base 34 "_law_by" S_law_by := ⟨f23, _, _, o23, PySem.W.mg_of X G a23, k23, b23⟩
  have o26 : FnG P w K mg base (L2.CX P w) 34 f26 _ _ (spOf K (CAof [c0, c1, c2, c3]) S_law_through) := fn_ok F26 sc_law_through db_law_through hN htr (by decide) wd mt_law_through (by simp (config := { decide := true }) only [m_law_through_6, m_law_through_5a_1, m_law_through_5a, m_law_through_5, m_law_through_4, m_law_through_3, m_law_through_2, m_law_through_1, m_law_through, okB, okS, okE, okA, okO, okI, gg0, s18.mono (show 33 ≤ 33 by decide), s19.mono (show 33 ≤ 33 by decide), List.mem_cons, List.not_mem_nil, or_false, forall_eq_or_imp, forall_eq, and_true, true_and, and_self]) w_law_through
  have s26 : FnS (CAof [c0, c1, c2, c3]) P w K mg base 34 "_law_through" S_law_through := ⟨f26, _, _, o26, PySem.W.mg_of X G a26, k26, b26⟩
  have o4 : FnG P w K mg base (L2.CX P w) 35 f4 _ _ (spOf K (CAof [c0, c1, c2, c3]) S_frac_sum) := fn_ok F4 sc_frac_sum db_frac_sum hN htr (by decide) wd mt_frac_sum (by simp (config := { decide := true }) only [m_frac_sum, okB, okS, okE, okA, okO, okI, gg0, s3.mono (show 34 ≤ 34 by decide), List.mem_cons, List.not_mem_nil, or_false, forall_eq_or_imp, forall_eq, and_true, true_and, and_self]) w_frac_sum
  have s4 : FnS (CAof [c0, c1, c2, c3]) P w K mg base 35 "frac_sum" S_frac_sum := ⟨f4, _, _, o4, PySem.W.mg_of X G a4, k4, b4⟩
  have o5 : FnG P w K mg base (L2.CX P w) 35 f5 _ _ (spOf K (CAof [c0, c1, c2, c3]) S_frac_less) := fn_ok F5 sc_frac_less db_frac_less hN htr (by decide) wd mt_frac_less (by simp (config := { decide := true }) only [m_frac_less, okB, okS, okE, okA, okO, okI, gg0, s3.mono (show 34 ≤ 34 by decide), List.mem_cons, List.not_mem_nil, or_false, forall_eq_or_imp, forall_eq, and_true, true_and, and_self]) w_frac_less
  have s5 : FnS (CAof [c0, c1, c2, c3]) P w K mg base 35 "frac_less" S_frac_less := ⟨f5, _, _, o5, PySem.W.mg_of X G a5, k5, b5⟩
  have o6 : FnG P w K mg base (L2.CX P w) 35 f6 _ _ (spOf K (CAof [c0, c1, c2, c3]) S_frac_times) := fn_ok F6 sc_frac_times db_frac_times hN htr (by decide) wd mt_frac_times (by simp (config := { decide := true }) only [m_frac_times, okB, okS, okE, okA, okO, okI, gg0, s3.mono (show 34 ≤ 34 by decide), List.mem_cons, List.not_mem_nil, or_false, forall_eq_or_imp, forall_eq, and_true, true_and, and_self]) w_frac_times
  have s6 : FnS (CAof [c0, c1, c2, c3]) P w K mg base 35 "frac_times" S_frac_times := ⟨f6, _, _, o6, PySem.W.mg_of X G a6, k6, b6⟩
  have o7 : FnG P w K mg base (L2.CX P w) 35 f7 _ _ (spOf K (CAof [c0, c1, c2, c3]) S_frac_by) := fn_ok F7 sc_frac_by db_frac_by hN htr (by decide) wd mt_frac_by (by simp (config := { decide := true }) only [m_frac_by, okB, okS, okE, okA, okO, okI, gg0, s3.mono (show 34 ≤ 34 by decide), List.mem_cons, List.not_mem_nil, or_false, forall_eq_or_imp, forall_eq, and_true, true_and, and_self]) w_frac_by
  have s7 : FnS (CAof [c0, c1, c2, c3]) P w K mg base 35 "frac_by" S_frac_by := ⟨f7, _, _, o7, PySem.W.mg_of X G a7, k7, b7⟩
  have o24 : FnG P w K mg base (L2.CX P w) 35 f24 _ _ (spOf K (CAof [c0, c1, c2, c3]) S_law_all) := fn_ok F24 sc_law_all db_law_all hN htr (by decide) wd mt_law_all (by simp (config := { decide := true }) only [m_law_all_2, m_law_all_1a, m_law_all_1, m_law_all, okB, okS, okE, okA, okO, okI, gg0, s21.mono (show 34 ≤ 34 by decide), List.mem_cons, List.not_mem_nil, or_false, forall_eq_or_imp, forall_eq, and_true, true_and, and_self]) w_law_all
  have s24 : FnS (CAof [c0, c1, c2, c3]) P w K mg base 35 "_law_all" S_law_all := ⟨f24, _, _, o24, PySem.W.mg_of X G a24, k24, b24⟩
  have o8 : FnG P w K mg base (L2.CX P w) 36 f8 _ _ (spOf K (CAof [c0, c1, c2, c3]) S_product_of) := fn_ok F8 sc_product_of db_product_of hN htr (by decide) wd mt_product_of (by simp (config := { decide := true }) only [m_product_of_2, m_product_of_1a, m_product_of_1, m_product_of, okB, okS, okE, okA, okO, okI, gg0, s6.mono (show 35 ≤ 35 by decide), List.mem_cons, List.not_mem_nil, or_false, forall_eq_or_imp, forall_eq, and_true, true_and, and_self]) w_product_of
  have s8 : FnS (CAof [c0, c1, c2, c3]) P w K mg base 36 "product_of" S_product_of := ⟨f8, _, _, o8, PySem.W.mg_of X G a8, k8, b8⟩
  have o11 : FnG P w K mg base (L2.CX P w) 36 f11 _ _ (spOf K (CAof [c0, c1, c2, c3]) S_height_at) := fn_ok F11 sc_height_at db_height_at hN htr (by decide) wd mt_height_at (by simp (config := { decide := true }) only [m_height_at_3, m_height_at_2, m_height_at_1, m_height_at, okB, okS, okE, okA, okO, okI, gg0, s4.mono (show 35 ≤ 35 by decide), s6.mono (show 35 ≤ 35 by decide), List.mem_cons, List.not_mem_nil, or_false, forall_eq_or_imp, forall_eq, and_true, true_and, and_self]) w_height_at
  have s11 : FnS (CAof [c0, c1, c2, c3]) P w K mg base 36 "height_at" S_height_at := ⟨f11, _, _, o11, PySem.W.mg_of X G a11, k11, b11⟩
  have o14 : FnG P w K mg base (L2.CX P w) 36 f14 _ _ (spOf K (CAof [c0, c1, c2, c3]) S_slope_at) := fn_ok F14 sc_slope_at db_slope_at hN htr (by decide) wd mt_slope_at (by simp (config := { decide := true }) only [m_slope_at_4, m_slope_at_3, m_slope_at_2, m_slope_at_1, m_slope_at_0a, m_slope_at, okB, okS, okE, okA, okO, okI, gg0, s4.mono (show 35 ≤ 35 by decide), s5.mono (show 35 ≤ 35 by decide), s6.mono (show 35 ≤ 35 by decide), s7.mono (show 35 ≤ 35 by decide), List.mem_cons, List.not_mem_nil, or_false, forall_eq_or_imp, forall_eq, and_true, true_and, and_self]) w_slope_at
  have s14 : FnS (CAof [c0, c1, c2, c3]) P w K mg base 36 "slope_at" S_slope_at := ⟨f14, _, _, o14, PySem.W.mg_of X G a14, k14, b14⟩
  have o15 : FnG P w K mg base (L2.CX P w) 36 f15 _ _ (spOf K (CAof [c0, c1, c2, c3]) S_turned) := fn_ok F15 sc_turned db_turned hN htr (by decide) wd mt_turned (by simp (config := { decide := true }) only [m_turned_1, m_turned_0a, m_turned, okB, okS, okE, okA, okO, okI, gg0, s5.mono (show 35 ≤ 35 by decide), List.mem_cons, List.not_mem_nil, or_false, forall_eq_or_imp, forall_eq, and_true, true_and, and_self]) w_turned
  have s15 : FnS (CAof [c0, c1, c2, c3]) P w K mg base 36 "turned" S_turned := ⟨f15, _, _, o15, PySem.W.mg_of X G a15, k15, b15⟩
  have o25 : FnG P w K mg base (L2.CX P w) 36 f25 _ _ (spOf K (CAof [c0, c1, c2, c3]) S_law_discriminant) := fn_ok F25 sc_law_discriminant db_law_discriminant hN htr (by decide) wd mt_law_discriminant (by simp (config := { decide := true }) only [m_law_discriminant_4, m_law_discriminant_3, m_law_discriminant_2, m_law_discriminant_1, m_law_discriminant, okB, okS, okE, okA, okO, okI, gg0, s20.mono (show 34 ≤ 35 by decide), s22.mono (show 34 ≤ 35 by decide), s24.mono (show 35 ≤ 35 by decide), List.mem_cons, List.not_mem_nil, or_false, forall_eq_or_imp, forall_eq, and_true, true_and, and_self]) w_law_discriminant
  have s25 : FnS (CAof [c0, c1, c2, c3]) P w K mg base 36 "_law_discriminant" S_law_discriminant := ⟨f25, _, _, o25, PySem.W.mg_of X G a25, k25, b25⟩
  have o27 : FnG P w K mg base (L2.CX P w) 36 f27 _ _ (spOf K (CAof [c0, c1, c2, c3]) S_law_cubic) := fn_ok F27 sc_law_cubic db_law_cubic hN htr (by decide) wd mt_law_cubic (by simp (config := { decide := true }) only [m_law_cubic_8, m_law_cubic_7, m_law_cubic_6, m_law_cubic_5, m_law_cubic_4, m_law_cubic_3, m_law_cubic_2, m_law_cubic_1a, m_law_cubic_1, m_law_cubic, okB, okS, okE, okA, okO, okI, gg0, s20.mono (show 34 ≤ 35 by decide), s21.mono (show 34 ≤ 35 by decide), s22.mono (show 34 ≤ 35 by decide), s23.mono (show 34 ≤ 35 by decide), s24.mono (show 35 ≤ 35 by decide), List.mem_cons, List.not_mem_nil, or_false, forall_eq_or_imp, forall_eq, and_true, true_and, and_self]) w_law_cubic
  have s27 : FnS (CAof [c0, c1, c2, c3]) P w K mg base 36 "_law_cubic" S_law_cubic := ⟨f27, _, _, o27, PySem.W.mg_of X G a27, k27, b27⟩
  have o9 : FnG P w K mg base (L2.CX P w) 37 f9 _ _ (spOf K (CAof [c0, c1, c2, c3]) S_discriminant_of) := fn_ok F9 sc_discriminant_of db_discriminant_of hN htr (by decide) wd mt_discriminant_of (by simp (config := { decide := true }) only [m_discriminant_of_4, m_discriminant_of_3, m_discriminant_of_2, m_discriminant_of_1, m_discriminant_of, okB, okS, okE, okA, okO, okI, gg0, s4.mono (show 35 ≤ 36 by decide), s5.mono (show 35 ≤ 36 by decide), s8.mono (show 36 ≤ 36 by decide), List.mem_cons, List.not_mem_nil, or_false, forall_eq_or_imp, forall_eq, and_true, true_and, and_self]) w_discriminant_of
  have s9 : FnS (CAof [c0, c1, c2, c3]) P w K mg base 37 "discriminant_of" S_discriminant_of := ⟨f9, _, _, o9, PySem.W.mg_of X G a9, k9, b9⟩
  have o12 : FnG P w K mg base (L2.CX P w) 37 f12 _ _ (spOf K (CAof [c0, c1, c2, c3]) S_are_spot) := fn_ok F12 sc_are_spot db_are_spot hN htr (by decide) wd mt_are_spot (by simp (config := { decide := true }) only [m_are_spot_2, m_are_spot_1a, m_are_spot_1, m_are_spot_0a, m_are_spot, okB, okS, okE, okA, okO, okI, gg0, s2.mono (show 34 ≤ 36 by decide), s6.mono (show 35 ≤ 36 by decide), s11.mono (show 36 ≤ 36 by decide), List.mem_cons, List.not_mem_nil, or_false, forall_eq_or_imp, forall_eq, and_true, true_and, and_self]) w_are_spot
  have s12 : FnS (CAof [c0, c1, c2, c3]) P w K mg base 37 "are_spot" S_are_spot := ⟨f12, _, _, o12, PySem.W.mg_of X G a12, k12, b12⟩
  have o16 : FnG P w K mg base (L2.CX P w) 37 f16 _ _ (spOf K (CAof [c0, c1, c2, c3]) S_sum_of) := fn_ok F16 sc_sum_of db_sum_of hN htr (by decide) wd mt_sum_of (by simp (config := { decide := true }) only [m_sum_of_7, m_sum_of_6, m_sum_of_5, m_sum_of_4, m_sum_of_3, m_sum_of_2a, m_sum_of_2, m_sum_of_1a, m_sum_of_1, m_sum_of_0a, m_sum_of, okB, okS, okE, okA, okO, okI, gg0, s4.mono (show 35 ≤ 36 by decide), s5.mono (show 35 ≤ 36 by decide), s6.mono (show 35 ≤ 36 by decide), s7.mono (show 35 ≤ 36 by decide), s14.mono (show 36 ≤ 36 by decide), s15.mono (show 36 ≤ 36 by decide), List.mem_cons, List.not_mem_nil, or_false, forall_eq_or_imp, forall_eq, and_true, true_and, and_self]) w_sum_of
  have s16 : FnS (CAof [c0, c1, c2, c3]) P w K mg base 37 "sum_of" S_sum_of := ⟨f16, _, _, o16, PySem.W.mg_of X G a16, k16, b16⟩
  have o10 : FnG P w K mg base (L2.CX P w) 38 f10 _ _ (spOf K (CAof [c0, c1, c2, c3]) S_look_at_cubic) := fn_ok F10 sc_look_at_cubic db_look_at_cubic hN htr (by decide) wd mt_look_at_cubic (by simp (config := { decide := true }) only [m_look_at_cubic_2a, m_look_at_cubic_2, m_look_at_cubic_1a_0a, m_look_at_cubic_1a, m_look_at_cubic_1, m_look_at_cubic_0a, m_look_at_cubic, okB, okS, okE, okA, okO, okI, gg0, s2.mono (show 34 ≤ 37 by decide), s9.mono (show 37 ≤ 37 by decide), List.mem_cons, List.not_mem_nil, or_false, forall_eq_or_imp, forall_eq, and_true, true_and, and_self]) w_look_at_cubic
  have s10 : FnS (CAof [c0, c1, c2, c3]) P w K mg base 38 "look_at_cubic" S_look_at_cubic := ⟨f10, _, _, o10, PySem.W.mg_of X G a10, k10, b10⟩
  have o13 : FnG P w K mg base (L2.CX P w) 38 f13 _ _ (spOf K (CAof [c0, c1, c2, c3]) S_look_at_spot) := fn_ok F13 sc_look_at_spot db_look_at_spot hN htr (by decide) wd mt_look_at_spot (by simp (config := { decide := true }) only [m_look_at_spot_0a, m_look_at_spot, okB, okS, okE, okA, okO, okI, gg0, s12.mono (show 37 ≤ 37 by decide), List.mem_cons, List.not_mem_nil, or_false, forall_eq_or_imp, forall_eq, and_true, true_and, and_self]) w_look_at_spot
  have s13 : FnS (CAof [c0, c1, c2, c3]) P w K mg base 38 "look_at_spot" S_look_at_spot := ⟨f13, _, _, o13, PySem.W.mg_of X G a13, k13, b13⟩
  have o17 : FnG P w K mg base (L2.CX P w) 39 f17 _ _ (spOf K (CAof [c0, c1, c2, c3]) S_spot_sum) := fn_ok F17 sc_spot_sum db_spot_sum hN htr (by decide) wd mt_spot_sum (by simp (config := { decide := true }) only [m_spot_sum_3, m_spot_sum_2, m_spot_sum_1, m_spot_sum, okB, okS, okE, okA, okO, okI, gg0, s10.mono (show 38 ≤ 38 by decide), s13.mono (show 38 ≤ 38 by decide), s16.mono (show 37 ≤ 38 by decide), List.mem_cons, List.not_mem_nil, or_false, forall_eq_or_imp, forall_eq, and_true, true_and, and_self]) w_spot_sum
  have s17 : FnS (CAof [c0, c1, c2, c3]) P w K mg base 39 "spot_sum" S_spot_sum := ⟨f17, _, _, o17, PySem.W.mg_of X G a17, k17, b17⟩
  have o29 : FnG P w K mg base (L2.CX P w) 40 fa _ _ (spOf K (CAof [c0, c1, c2, c3]) S_law) := fn_ok F29 sc_law db_law hN htr (by decide) wd mt_law (by simp (config := { decide := true }) only [m_law_5, m_law_4a_4a, m_law_4a_4, m_law_4a_3a, m_law_4a_3, m_law_4a_2, m_law_4a_1, m_law_4a, m_law_4, m_law_3, m_law_2a_1, m_law_2a, m_law_2, m_law_1, m_law, okB, okS, okE, okA, okO, okI, gg0, s17.mono (show 39 ≤ 39 by decide), s25.mono (show 36 ≤ 39 by decide), s26.mono (show 34 ≤ 39 by decide), s27.mono (show 36 ≤ 39 by decide), s28.mono (show 33 ≤ 39 by decide), List.mem_cons, List.not_mem_nil, or_false, forall_eq_or_imp, forall_eq, and_true, true_and, and_self]) w_law
  exact o29
theorem walk_law {l : PySem.W.OpenLaw} {q : Program} {loose : List Str} {XP : (Str → Option Value) → Heap → Prop} {YP : World → Heap → Prop} {d : DefRec} {K : Params → PySem.W.Frag} {CA : Nat → Addr} (hi : importsNone q = true) (htr : l.prog.given.tree = none) (hn : l.most = some 63) (hdf : d.params.defaults = [])
    (hY : ∀ (w : World) (h : Heap), YP w h → (K w.params).In h)
    (F : ∀ (w : World) (mg : Str → Option Value) (fa : Addr) (h : Heap), (K w.params).In h → h.Ns mainGlobals mg → mg d.name = some (.ref fa) →
      ∃ fd : FuncData, (∀ (s : Shared) (u : Value), BindsTo s fd ⟨[u], []⟩ [("_law_script", u)]) ∧ ∀ base : Heap, (K w.params).In base → base.Ns mainGlobals mg → base.NoSeer → FnG l.prog w (K w.params) mg base (L2.CX l.prog w) 40 fa fd ["_law_script"] (spOf (K w.params) CA (spLaw small))) :
    PySem.W.WalkO q loose XP YP l.row.toRowW d [] (fun f vs => PySem.call f vs) :=
  walk_g hi (n := 63) (k := 40) (x := "_law_script") (CX := fun w => L2.CX l.prog w) (sp := fun w => spOf (K w.params) CA (spLaw small)) hn (by decide) hdf ⟨rfl, by decide, by decide⟩ hY F (fun _ _ _ _ hl hb _ hS => law_sp hl hb hS) fun _ H s e s' z => cx_none H s e s' z
end Dl
open PySem PySem.W PyProof.Rows in
set_option maxRecDepth 100000 in
set_option maxHeartbeats 0 in
theorem PySem.Challenge.cw_roundsides_k32_whole_sums_in_any_order_holds : PySem.Challenge.rw_roundsides_k32_whole_sums_in_any_order.Holds := by
  w_on; o_law; k_head; (case hw => w_witness2)
  k_fill
  refine' Dl.walk_law (l := PySem.Challenge.rw_roundsides_k32_whole_sums_in_any_order) (CA := Dl.CAof [_, _, _, _]) (by decide +kernel) rfl rfl rfl (fun w h Y => PySem.W.kIn_of Y) ?F
  case F =>
    intro w mg fa h KX G hmg
    refine' Dl.all_mk KX G hmg rfl ?x0 ?x1 ?x2 ?x3 ?hn ?ht ?nd ?z0 ?z1 ?z2 ?z3 ?z4 ?z5 ?z6 ?z7 ?z8 ?z9 ?z10 ?z11 ?z12 ?z13 ?z14 ?z15 ?z16 ?z17 ?glob0 ?a0 ?l0 ?t0 ?k0 ?a1 ?l1 ?t1 ?k1 ?a2 ?l2 ?t2 ?k2 ?a3 ?l3 ?t3 ?k3 ?a4 ?l4 ?t4 ?k4 ?a5 ?l5 ?t5 ?k5 ?a6 ?l6 ?t6 ?k6 ?a7 ?l7 ?t7 ?k7 ?a8 ?l8 ?t8 ?k8 ?a9 ?l9 ?t9 ?k9 ?a10 ?l10 ?t10 ?k10 ?a11 ?l11 ?t11 ?k11 ?a12 ?l12 ?t12 ?k12 ?a13 ?l13 ?t13 ?k13 ?a14 ?l14 ?t14 ?k14 ?a15 ?l15 ?t15 ?k15 ?a16 ?l16 ?t16 ?k16 ?a17 ?l17 ?t17 ?k17 ?a18 ?l18 ?t18 ?k18 ?a19 ?l19 ?t19 ?k19 ?a20 ?l20 ?t20 ?k20 ?a21 ?l21 ?t21 ?k21 ?a22 ?l22 ?t22 ?k22 ?a23 ?l23 ?t23 ?k23 ?a24 ?l24 ?t24 ?k24 ?a25 ?l25 ?t25 ?k25 ?a26 ?l26 ?t26 ?k26 ?a27 ?l27 ?t27 ?k27 ?a28 ?l28 ?t28 ?k28 ?a29 ?l29 ?t29 ?k29
    (case x0 => (refine' ⟨?g_x0, ?q_x0, ?h_x0, ?m_x0, ?ty_x0, ?ex_x0, ?kp_x0, ?ga_x0, ?gg_x0, ?cl_x0⟩; (case g_x0 => k_is); (case q_x0 => k_is); (case h_x0 => rfl); (case m_x0 => rfl); (case ty_x0 => k_is); (case ex_x0 => (unfold Dl.veT; k_exc)); (case kp_x0 => k_is); (case ga_x0 => k_is); (case gg_x0 => k_is); (case cl_x0 => k_is)))
    (case x1 => (refine' ⟨?g_x1, ?q_x1, ?h_x1, ?m_x1, ?ty_x1, ?ex_x1, ?kp_x1, ?ga_x1, ?gg_x1, ?cl_x1⟩; (case g_x1 => k_is); (case q_x1 => k_is); (case h_x1 => rfl); (case m_x1 => rfl); (case ty_x1 => k_is); (case ex_x1 => (unfold Dl.veT; k_exc)); (case kp_x1 => k_is); (case ga_x1 => k_is); (case gg_x1 => k_is); (case cl_x1 => k_is)))
    (case x2 => (refine' ⟨?g_x2, ?q_x2, ?h_x2, ?m_x2, ?ty_x2, ?ex_x2, ?kp_x2, ?ga_x2, ?gg_x2, ?cl_x2⟩; (case g_x2 => k_is); (case q_x2 => k_is); (case h_x2 => rfl); (case m_x2 => rfl); (case ty_x2 => k_is); (case ex_x2 => (unfold Dl.veT; k_exc)); (case kp_x2 => k_is); (case ga_x2 => k_is); (case gg_x2 => k_is); (case cl_x2 => k_is)))
    (case x3 => (refine' ⟨?g_x3, ?q_x3, ?h_x3, ?m_x3, ?ty_x3, ?ex_x3, ?kp_x3, ?ga_x3, ?gg_x3, ?cl_x3⟩; (case g_x3 => k_is); (case q_x3 => k_is); (case h_x3 => rfl); (case m_x3 => rfl); (case ty_x3 => k_is); (case ex_x3 => (unfold Dl.veT; k_exc)); (case kp_x3 => k_is); (case ga_x3 => k_is); (case gg_x3 => k_is); (case cl_x3 => k_is)))
    (case hn => k_is)
    (case ht => k_is)
    (case nd => decide)
    (case z0 => k_is)
    (case z1 => k_is)
    (case z2 => k_is)
    (case z3 => k_is)
    (case z4 => k_is)
    (case z5 => k_is)
    (case z6 => k_is)
    (case z7 => k_is)
    (case z8 => k_is)
    (case z9 => k_is)
    (case z10 => k_is)
    (case z11 => k_is)
    (case z12 => k_is)
    (case z13 => k_is)
    (case z14 => k_is)
    (case z15 => k_is)
    (case z16 => k_is)
    (case z17 => k_is)
    (case glob0 => (refine' Dl.KG.ofRef ?n_glob0 ?v_glob0; (case n_glob0 => k_is); (case v_glob0 => (refine' Dl.KDx.tup ?t_glob0_l ?t_glob0_s ?t_glob0_v; (case t_glob0_l => k_is); (case t_glob0_s => decide); (case t_glob0_v => (refine' (Dl.KDxA.cons ?t_glob0_0 (Dl.KDxA.cons ?t_glob0_1 (Dl.KDxA.nil))); (case t_glob0_0 => exact Dl.KDx.int _ _); (case t_glob0_1 => exact Dl.KDx.int _ _)))))))
    (case a0 => k_is)
    (case l0 => k_is)
    (case t0 => k_is)
    (case k0 => k_is)
    (case a1 => k_is)
    (case l1 => k_is)
    (case t1 => k_is)
    (case k1 => k_is)
    (case a2 => k_is)
    (case l2 => k_is)
    (case t2 => k_is)
    (case k2 => k_is)
    (case a3 => k_is)
    (case l3 => k_is)
    (case t3 => k_is)
    (case k3 => k_is)
    (case a4 => k_is)
    (case l4 => k_is)
    (case t4 => k_is)
    (case k4 => k_is)
    (case a5 => k_is)
    (case l5 => k_is)
    (case t5 => k_is)
    (case k5 => k_is)
    (case a6 => k_is)
    (case l6 => k_is)
    (case t6 => k_is)
    (case k6 => k_is)
    (case a7 => k_is)
    (case l7 => k_is)
    (case t7 => k_is)
    (case k7 => k_is)
    (case a8 => k_is)
    (case l8 => k_is)
    (case t8 => k_is)
    (case k8 => k_is)
    (case a9 => k_is)
    (case l9 => k_is)
    (case t9 => k_is)
    (case k9 => k_is)
    (case a10 => k_is)
    (case l10 => k_is)
    (case t10 => k_is)
    (case k10 => k_is)
    (case a11 => k_is)
    (case l11 => k_is)
    (case t11 => k_is)
    (case k11 => k_is)
    (case a12 => k_is)
    (case l12 => k_is)
    (case t12 => k_is)
    (case k12 => k_is)
    (case a13 => k_is)
    (case l13 => k_is)
    (case t13 => k_is)
    (case k13 => k_is)
    (case a14 => k_is)
    (case l14 => k_is)
    (case t14 => k_is)
    (case k14 => k_is)
    (case a15 => k_is)
    (case l15 => k_is)
    (case t15 => k_is)
    (case k15 => k_is)
    (case a16 => k_is)
    (case l16 => k_is)
    (case t16 => k_is)
    (case k16 => k_is)
    (case a17 => k_is)
    (case l17 => k_is)
    (case t17 => k_is)
    (case k17 => k_is)
    (case a18 => k_is)
    (case l18 => k_is)
    (case t18 => k_is)
    (case k18 => k_is)
    (case a19 => k_is)
    (case l19 => k_is)
    (case t19 => k_is)
    (case k19 => k_is)
    (case a20 => k_is)
    (case l20 => k_is)
    (case t20 => k_is)
    (case k20 => k_is)
    (case a21 => k_is)
    (case l21 => k_is)
    (case t21 => k_is)
    (case k21 => k_is)
    (case a22 => k_is)
    (case l22 => k_is)
    (case t22 => k_is)
    (case k22 => k_is)
    (case a23 => k_is)
    (case l23 => k_is)
    (case t23 => k_is)
    (case k23 => k_is)
    (case a24 => k_is)
    (case l24 => k_is)
    (case t24 => k_is)
    (case k24 => k_is)
    (case a25 => k_is)
    (case l25 => k_is)
    (case t25 => k_is)
    (case k25 => k_is)
    (case a26 => k_is)
    (case l26 => k_is)
    (case t26 => k_is)
    (case k26 => k_is)
    (case a27 => k_is)
    (case l27 => k_is)
    (case t27 => k_is)
    (case k27 => k_is)
    (case a28 => k_is)
    (case l28 => k_is)
    (case t28 => k_is)
    (case k28 => k_is)
    (case a29 => k_is)
    (case l29 => k_is)
    (case t29 => k_is)
    (case k29 => k_is)

